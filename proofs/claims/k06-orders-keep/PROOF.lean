import PyProof.Rows.All
import Wide.All
import OpenK.AllK
import Wide.FinOn
import KE.KStateDown
import PySem.Challenge.RW_idealroom_k06_orders_keep
import HandS.ForMost
import HandS.ForExc
import HandS.Zip
import HandS.Wide
import HandS.IsInst
import HandS.ClsMeth
import HandS.Defaults
import HandS.Head0
import HandS.Head1
import HandS.Head2
import HandS.HeadEnd
import HandS.HeadHook1
import HandS.HeadHook2
import HandS.TupAny
import HandS.TupLe
import HandS.Rev
import HandS.New0
import HandS.SortKw
import KE.DataMinMax
import KE.DataMinKey
set_option Elab.async false
set_option linter.all false
set_option maxRecDepth 100000
set_option maxHeartbeats 4000000
set_option maxHeartbeats 4000000
/-! DA1: values as data (D), owned trees (M), how a heap bears them, the slots of a def -/
namespace DA
open PySem L2

/-- a value as data: what the objects at and behind it hold -/
inductive D where
  | non | bl (b : Bool) | int (i : Int) | str (x : Str)
  | tup (xs : List D) | lst (xs : List D)
  | dic (ks : List (List Key)) (ds : List D)
  | dik (ks : List Key) (ds : List D)
  | obj (C : Str) (fs : List Str) (ds : List D)
  | loc (a : Addr)

/-- data with the cells that are nobody else's: they may be written -/
inductive M where
  | dat (d : D)
  | lst (ms : List M)
  | dic (ks : List (List Key)) (ms : List M)
  | dik (ks : List Key) (ms : List M)
  | tup (ms : List M)
  | obj (C : Str) (fs : List Str) (ms : List M)

mutual
/-- owned cells forgotten -/
def M.er : M → D
  | .dat d => d
  | .lst ms => .lst (M.ers ms)
  | .dic ks ms => .dic ks (M.ers ms)
  | .dik ks ms => .dik ks (M.ers ms)
  | .tup ms => .tup (M.ers ms)
  | .obj C fs ms => .obj C fs (M.ers ms)
def M.ers : List M → List D
  | [] => []
  | m :: ms => M.er m :: M.ers ms
end
theorem ers_map : ∀ ms : List M, M.ers ms = ms.map M.er
  | [] => by simp [M.ers]
  | m :: ms => by rw [M.ers, ers_map ms]; rfl
theorem ers_dats : ∀ ds : List D, M.ers (ds.map M.dat) = ds
  | [] => by simp [M.ers]
  | d :: ds => by simp [M.ers, M.er, ers_dats ds]

section
variable (ca : Str → Option Addr) (K : PySem.W.Frag) (H : Hp)
mutual
def Is : D → V → Prop
  | .non, v => v = .non
  | .bl b, v => v = .bl b
  | .int i, v => v = .int i
  | .str x, v => v = .str x
  | .loc a, v => v = .ref a
  | .tup xs, v => ∃ a vs, v = .ref a ∧ H a = some (.tup vs) ∧ IsL xs vs
  | .lst xs, v => ∃ a vs, v = .ref a ∧ SqL K H a vs ∧ IsL xs vs
  | .dic ks ds, v => ∃ a kvs, v = .ref a ∧ Rd H a (.dT kvs) ∧ kvs.map (·.1) = ks ∧ IsL ds (kvs.map (·.2))
  | .dik ks ds, v => ∃ a kvs, v = .ref a ∧ Rd H a (.dK kvs) ∧ kvs.map (·.1) = ks ∧ IsL ds (kvs.map (·.2))
  | .obj C fs ds, v => ∃ a Ca dx kvs, v = .ref a ∧ ca C = some Ca ∧ H a = some (.ins Ca dx kvs) ∧ kvs.map (·.1) = fs ∧ IsL ds (kvs.map (·.2))
def IsL : List D → List V → Prop
  | [], vs => vs = []
  | d :: ds, vs => ∃ v vs', vs = v :: vs' ∧ Is d v ∧ IsL ds vs'
end
end

/-- the heap without the cells at G -/
def cut (H : Hp) (G : List Addr) : Hp := fun a => if a ∈ G then none else H a
theorem cut_in {H : Hp} {G : List Addr} {a : Addr} (h : a ∈ G) : cut H G a = none := by unfold cut; rw [if_pos h]
theorem cut_out {H : Hp} {G : List Addr} {a : Addr} (h : a ∉ G) : cut H G a = H a := by unfold cut; rw [if_neg h]
theorem cut_some {H : Hp} {G : List Addr} {a : Addr} {u : HO} (h : cut H G a = some u) : a ∉ G ∧ H a = some u := by
  unfold cut at h
  by_cases e : a ∈ G
  · rw [if_pos e] at h; cases h
  · rw [if_neg e] at h; exact ⟨e, h⟩
theorem cut_nil (H : Hp) : cut H [] = H := by funext a; exact cut_out (by simp)

/-- what is told of tracked things still holds -/
structure Le (H H' : Hp) : Prop where
  tup : ∀ a xs, H a = some (.tup xs) → H' a = some (.tup xs)
  ins : ∀ a C dx fs, H a = some (.ins C dx fs) → H' a = some (.ins C dx fs)
  lst : ∀ a xs, Rd H a (.lst xs) → Rd H' a (.lst xs)
  dT : ∀ a kvs, Rd H a (.dT kvs) → Rd H' a (.dT kvs)
  dK : ∀ a kvs, Rd H a (.dK kvs) → Rd H' a (.dK kvs)
  dom : ∀ a, H' a = none → H a = none
theorem Le.refl (H : Hp) : Le H H := ⟨fun _ _ h => h, fun _ _ _ _ h => h, fun _ _ h => h, fun _ _ h => h, fun _ _ h => h, fun _ h => h⟩
theorem Le.trans {H H1 H2 : Hp} (a : Le H H1) (b : Le H1 H2) : Le H H2 :=
  ⟨fun x y h => b.tup x y (a.tup x y h), fun x y z u h => b.ins x y z u (a.ins x y z u h), fun x y h => b.lst x y (a.lst x y h), fun x y h => b.dT x y (a.dT x y h), fun x y h => b.dK x y (a.dK x y h), fun x h => a.dom x (b.dom x h)⟩
theorem Le.of_same {H H' : Hp} (h : ∀ a u, H a = some u → H' a = some u) : Le H H' := by
  have rd : ∀ a u, Rd H a u → Rd H' a u := fun a u r => by
    rcases r with r | ⟨o, r⟩
    · exact .inl (h _ _ r)
    · exact .inr ⟨o, h _ _ r⟩
  refine ⟨fun a _ e => h a _ e, fun a _ _ _ e => h a _ e, fun a _ => rd a _, fun a _ => rd a _, fun a _ => rd a _, fun a e => ?_⟩
  cases q : H a with
  | none => rfl
  | some u => rw [h a u q] at e; cases e
theorem Le.new {H : Hp} {p : Addr} {o : HO} (h : H p = none) : Le H (upd H p o) := Le.of_same fun a u e => by
  rw [upd_ne (ne_of_none e h)]; exact e
theorem rd_cut {H : Hp} {G : List Addr} {a : Addr} {u : HO} (h : Rd (cut H G) a u) : a ∉ G ∧ Rd H a u := by
  rcases h with h | ⟨o, h⟩
  · exact ⟨(cut_some h).1, .inl (cut_some h).2⟩
  · exact ⟨(cut_some h).1, .inr ⟨o, (cut_some h).2⟩⟩
theorem rd_cut_of {H : Hp} {G : List Addr} {a : Addr} {u : HO} (n : a ∉ G) (h : Rd H a u) : Rd (cut H G) a u := by
  rcases h with h | ⟨o, h⟩
  · exact .inl ((cut_out n).trans h)
  · exact .inr ⟨o, (cut_out n).trans h⟩
theorem rd_ne {H : Hp} {a : Addr} {u : HO} (h : Rd H a u) : H a ≠ none := by
  rcases h with h | ⟨o, h⟩ <;> (rw [h]; simp)
theorem Le.cut {H H' : Hp} {G G' : List Addr} (l : Le H H') (g : ∀ a, a ∉ G → H a ≠ none → a ∉ G') (gd : ∀ a, a ∈ G' → H' a ≠ none) : Le (cut H G) (cut H' G') := by
  refine ⟨fun a xs h => ?_, fun a C dx fs h => ?_, fun a xs h => ?_, fun a xs h => ?_, fun a xs h => ?_, fun a h => ?_⟩
  · obtain ⟨n, h⟩ := cut_some h
    exact (cut_out (g a n (by rw [h]; simp))).trans (l.tup a xs h)
  · obtain ⟨n, h⟩ := cut_some h
    exact (cut_out (g a n (by rw [h]; simp))).trans (l.ins a C dx fs h)
  · obtain ⟨n, h⟩ := rd_cut h
    exact rd_cut_of (g a n (rd_ne h)) (l.lst a xs h)
  · obtain ⟨n, h⟩ := rd_cut h
    exact rd_cut_of (g a n (rd_ne h)) (l.dT a xs h)
  · obtain ⟨n, h⟩ := rd_cut h
    exact rd_cut_of (g a n (rd_ne h)) (l.dK a xs h)
  · by_cases n : a ∈ G
    · exact cut_in n
    · rw [cut_out n]
      cases q : H a with
      | none => rfl
      | some u =>
        have n' := g a n (by rw [q]; simp)
        rw [cut_out n'] at h
        rw [l.dom a h] at q; cases q

section
variable {ca : Str → Option Addr} {K : PySem.W.Frag} {H H' : Hp}
theorem sqL_le {a : Addr} {xs : List V} (l : Le H H') (h : SqL K H a xs) : SqL K H' a xs := by
  rcases h with h | h
  · exact .inl (l.lst _ _ h)
  · exact .inr h
mutual
theorem Is.le (l : Le H H') : ∀ {d : D} {v : V}, Is ca K H d v → Is ca K H' d v
  | .non, _, h => by unfold Is at *; exact h
  | .bl b, _, h => by unfold Is at *; exact h
  | .int i, _, h => by unfold Is at *; exact h
  | .str x, _, h => by unfold Is at *; exact h
  | .loc a, _, h => by unfold Is at *; exact h
  | .tup xs, _, h => by
    unfold Is at *
    obtain ⟨a, vs, e, h, r⟩ := h
    exact ⟨a, vs, e, l.tup _ _ h, IsL.le l r⟩
  | .lst xs, _, h => by
    unfold Is at *
    obtain ⟨a, vs, e, h, r⟩ := h
    exact ⟨a, vs, e, sqL_le l h, IsL.le l r⟩
  | .dic ks ds, _, h => by
    unfold Is at *
    obtain ⟨a, kvs, e, h, k, r⟩ := h
    exact ⟨a, kvs, e, l.dT _ _ h, k, IsL.le l r⟩
  | .dik ks ds, _, h => by
    unfold Is at *
    obtain ⟨a, kvs, e, h, k, r⟩ := h
    exact ⟨a, kvs, e, l.dK _ _ h, k, IsL.le l r⟩
  | .obj C fs ds, _, h => by
    unfold Is at *
    obtain ⟨a, Ca, dx, kvs, e, c, h, k, r⟩ := h
    exact ⟨a, Ca, dx, kvs, e, c, l.ins _ _ _ _ h, k, IsL.le l r⟩
theorem IsL.le (l : Le H H') : ∀ {ds : List D} {vs : List V}, IsL ca K H ds vs → IsL ca K H' ds vs
  | [], _, h => by unfold IsL at *; exact h
  | d :: ds, _, h => by
    unfold IsL at *
    obtain ⟨v, vs', e, h, r⟩ := h
    exact ⟨v, vs', e, Is.le l h, IsL.le l r⟩
end
end

section
variable {ca : Str → Option Addr} {K : PySem.W.Frag} {H : Hp}
theorem is_non {v : V} : Is ca K H .non v ↔ v = .non := by unfold Is; exact Iff.rfl
theorem is_bl {b : Bool} {v : V} : Is ca K H (.bl b) v ↔ v = .bl b := by unfold Is; exact Iff.rfl
theorem is_int {i : Int} {v : V} : Is ca K H (.int i) v ↔ v = .int i := by unfold Is; exact Iff.rfl
theorem is_str {x : Str} {v : V} : Is ca K H (.str x) v ↔ v = .str x := by unfold Is; exact Iff.rfl
theorem is_loc {a : Addr} {v : V} : Is ca K H (.loc a) v ↔ v = .ref a := by unfold Is; exact Iff.rfl
theorem is_tup {xs : List D} {v : V} : Is ca K H (.tup xs) v ↔ ∃ a vs, v = .ref a ∧ H a = some (.tup vs) ∧ IsL ca K H xs vs := by rw [Is]
theorem is_lst {xs : List D} {v : V} : Is ca K H (.lst xs) v ↔ ∃ a vs, v = .ref a ∧ SqL K H a vs ∧ IsL ca K H xs vs := by rw [Is]
theorem is_dic {ks : List (List Key)} {ds : List D} {v : V} : Is ca K H (.dic ks ds) v ↔ ∃ a kvs, v = .ref a ∧ Rd H a (.dT kvs) ∧ kvs.map (·.1) = ks ∧ IsL ca K H ds (kvs.map (·.2)) := by rw [Is]
theorem is_dik {ks : List Key} {ds : List D} {v : V} : Is ca K H (.dik ks ds) v ↔ ∃ a kvs, v = .ref a ∧ Rd H a (.dK kvs) ∧ kvs.map (·.1) = ks ∧ IsL ca K H ds (kvs.map (·.2)) := by rw [Is]
theorem is_obj {C : Str} {fs : List Str} {ds : List D} {v : V} : Is ca K H (.obj C fs ds) v ↔ ∃ a Ca dx kvs, v = .ref a ∧ ca C = some Ca ∧ H a = some (.ins Ca dx kvs) ∧ kvs.map (·.1) = fs ∧ IsL ca K H ds (kvs.map (·.2)) := by rw [Is]
theorem isL_nil {vs : List V} : IsL ca K H [] vs ↔ vs = [] := by rw [IsL]
theorem isL_cons {d : D} {ds : List D} {vs : List V} : IsL ca K H (d :: ds) vs ↔ ∃ v vs', vs = v :: vs' ∧ Is ca K H d v ∧ IsL ca K H ds vs' := by rw [IsL]
theorem IsL.cons {d : D} {ds : List D} {v : V} {vs : List V} (h : Is ca K H d v) (r : IsL ca K H ds vs) : IsL ca K H (d :: ds) (v :: vs) := isL_cons.mpr ⟨v, vs, rfl, h, r⟩
theorem IsL.nil : IsL ca K H [] [] := isL_nil.mpr rfl
theorem IsL.len : ∀ {ds : List D} {vs : List V}, IsL ca K H ds vs → ds.length = vs.length
  | [], _, h => by rw [isL_nil.mp h]; rfl
  | d :: ds, _, h => by
    obtain ⟨v, vs', rfl, _, r⟩ := isL_cons.mp h
    simp [IsL.len r]
theorem IsL.get : ∀ {ds : List D} {vs : List V} {i : Nat} {d : D}, IsL ca K H ds vs → ds[i]? = some d → ∃ v, vs[i]? = some v ∧ Is ca K H d v
  | [], _, _, _, _, e => by simp at e
  | d :: ds, _, 0, _, h, e => by
    obtain ⟨v, vs', rfl, h, r⟩ := isL_cons.mp h
    have e' : d = _ := Option.some.inj e
    subst e'
    exact ⟨v, rfl, h⟩
  | d :: ds, _, i + 1, _, h, e => by
    obtain ⟨v, vs', rfl, h, r⟩ := isL_cons.mp h
    obtain ⟨w, e1, e2⟩ := IsL.get (i := i) r (by simpa using e)
    exact ⟨w, by simpa using e1, e2⟩
theorem IsL.app : ∀ {ds es : List D} {vs ws : List V}, IsL ca K H ds vs → IsL ca K H es ws → IsL ca K H (ds ++ es) (vs ++ ws)
  | [], _, _, _, h, g => by rw [isL_nil.mp h]; exact g
  | d :: ds, _, _, _, h, g => by
    obtain ⟨v, vs', rfl, h, r⟩ := isL_cons.mp h
    exact IsL.cons h (IsL.app r g)
theorem IsL.set : ∀ {ds : List D} {vs : List V} {i : Nat} {d : D} {v : V}, IsL ca K H ds vs → Is ca K H d v → IsL ca K H (ds.set i d) (vs.set i v)
  | [], _, _, _, _, h, g => by rw [isL_nil.mp h]; exact IsL.nil
  | e :: ds, _, 0, _, _, h, g => by
    obtain ⟨v, vs', rfl, h, r⟩ := isL_cons.mp h
    exact IsL.cons g r
  | e :: ds, _, i + 1, _, _, h, g => by
    obtain ⟨v, vs', rfl, h, r⟩ := isL_cons.mp h
    exact IsL.cons h (IsL.set r g)
theorem IsL.take : ∀ {ds : List D} {vs : List V} {n : Nat}, IsL ca K H ds vs → IsL ca K H (ds.take n) (vs.take n)
  | [], _, n, h => by rw [isL_nil.mp h]; simp; exact IsL.nil
  | e :: ds, _, 0, h => by simp; exact IsL.nil
  | e :: ds, _, n + 1, h => by
    obtain ⟨v, vs', rfl, h, r⟩ := isL_cons.mp h
    exact IsL.cons h (IsL.take r)
theorem IsL.drop : ∀ {ds : List D} {vs : List V} {n : Nat}, IsL ca K H ds vs → IsL ca K H (ds.drop n) (vs.drop n)
  | [], _, n, h => by rw [isL_nil.mp h]; simp; exact IsL.nil
  | e :: ds, _, 0, h => h
  | e :: ds, _, n + 1, h => by
    obtain ⟨v, vs', rfl, h, r⟩ := isL_cons.mp h
    exact IsL.drop (n := n) r
theorem IsL.rev {ds : List D} {vs : List V} (h : IsL ca K H ds vs) : IsL ca K H ds.reverse vs.reverse := by
  induction ds generalizing vs with
  | nil => rw [isL_nil.mp h]; exact IsL.nil
  | cons d ds ih =>
    obtain ⟨v, vs', rfl, h, r⟩ := isL_cons.mp h
    rw [List.reverse_cons, List.reverse_cons]
    exact IsL.app (ih r) (IsL.cons h IsL.nil)
theorem IsL.ints : ∀ {is : List Int}, IsL ca K H (is.map D.int) (is.map V.int)
  | [] => IsL.nil
  | i :: is => IsL.cons (is_int.mpr rfl) IsL.ints
theorem IsL.ints_inv : ∀ {is : List Int} {vs : List V}, IsL ca K H (is.map D.int) vs → vs = is.map V.int
  | [], _, h => isL_nil.mp h
  | i :: is, _, h => by
    obtain ⟨v, vs', rfl, h, r⟩ := isL_cons.mp h
    rw [is_int.mp h, IsL.ints_inv r]
    rfl
end

/-! ### owned trees -/
section
variable (ca : Str → Option Addr) (K : PySem.W.Frag) (G : List Addr) (H : Hp)
mutual
/-- v is the tree m; its own cells are F; its data holds without the cells at G -/
def Ow : M → V → List Addr → Prop
  | .dat d, v, F => F = [] ∧ Is ca K (cut H G) d v
  | .lst ms, v, F => ∃ a vs F', v = .ref a ∧ H a = some (.lst vs) ∧ OwL ms vs F' ∧ F = a :: F'
  | .dic ks ms, v, F => ∃ a kvs F', v = .ref a ∧ H a = some (.dT kvs) ∧ kvs.map (·.1) = ks ∧ OwL ms (kvs.map (·.2)) F' ∧ F = a :: F'
  | .dik ks ms, v, F => ∃ a kvs F', v = .ref a ∧ H a = some (.dK kvs) ∧ kvs.map (·.1) = ks ∧ OwL ms (kvs.map (·.2)) F' ∧ F = a :: F'
  | .tup ms, v, F => ∃ a vs, v = .ref a ∧ H a = some (.tup vs) ∧ OwL ms vs F
  | .obj C fs ms, v, F => ∃ a Ca dx kvs F', v = .ref a ∧ ca C = some Ca ∧ H a = some (.ins Ca dx kvs) ∧ kvs.map (·.1) = fs ∧ OwL ms (kvs.map (·.2)) F' ∧ F = a :: F'
def OwL : List M → List V → List Addr → Prop
  | [], vs, F => vs = [] ∧ F = []
  | m :: ms, vs, F => ∃ v vs' F1 F2, vs = v :: vs' ∧ Ow m v F1 ∧ OwL ms vs' F2 ∧ F = F1 ++ F2
end
end
section
variable {ca : Str → Option Addr} {K : PySem.W.Frag} {G G' : List Addr} {H H' : Hp}
theorem ow_dat {d : D} {v : V} {F : List Addr} : Ow ca K G H (.dat d) v F ↔ F = [] ∧ Is ca K (cut H G) d v := by rw [Ow]
theorem ow_lst {ms : List M} {v : V} {F : List Addr} : Ow ca K G H (.lst ms) v F ↔ ∃ a vs F', v = .ref a ∧ H a = some (.lst vs) ∧ OwL ca K G H ms vs F' ∧ F = a :: F' := by rw [Ow]
theorem ow_dic {ks : List (List Key)} {ms : List M} {v : V} {F : List Addr} : Ow ca K G H (.dic ks ms) v F ↔ ∃ a kvs F', v = .ref a ∧ H a = some (.dT kvs) ∧ kvs.map (·.1) = ks ∧ OwL ca K G H ms (kvs.map (·.2)) F' ∧ F = a :: F' := by rw [Ow]
theorem ow_dik {ks : List Key} {ms : List M} {v : V} {F : List Addr} : Ow ca K G H (.dik ks ms) v F ↔ ∃ a kvs F', v = .ref a ∧ H a = some (.dK kvs) ∧ kvs.map (·.1) = ks ∧ OwL ca K G H ms (kvs.map (·.2)) F' ∧ F = a :: F' := by rw [Ow]
theorem ow_tup {ms : List M} {v : V} {F : List Addr} : Ow ca K G H (.tup ms) v F ↔ ∃ a vs, v = .ref a ∧ H a = some (.tup vs) ∧ OwL ca K G H ms vs F := by rw [Ow]
theorem ow_obj {C : Str} {fs : List Str} {ms : List M} {v : V} {F : List Addr} : Ow ca K G H (.obj C fs ms) v F ↔ ∃ a Ca dx kvs F', v = .ref a ∧ ca C = some Ca ∧ H a = some (.ins Ca dx kvs) ∧ kvs.map (·.1) = fs ∧ OwL ca K G H ms (kvs.map (·.2)) F' ∧ F = a :: F' := by rw [Ow]
theorem owL_nil {vs : List V} {F : List Addr} : OwL ca K G H [] vs F ↔ vs = [] ∧ F = [] := by rw [OwL]
theorem owL_cons {m : M} {ms : List M} {vs : List V} {F : List Addr} : OwL ca K G H (m :: ms) vs F ↔ ∃ v vs' F1 F2, vs = v :: vs' ∧ Ow ca K G H m v F1 ∧ OwL ca K G H ms vs' F2 ∧ F = F1 ++ F2 := by rw [OwL]
theorem OwL.len : ∀ {ms : List M} {vs : List V} {F : List Addr}, OwL ca K G H ms vs F → ms.length = vs.length
  | [], _, _, h => by rw [(owL_nil.mp h).1]; rfl
  | d :: ds, _, _, h => by
    obtain ⟨v, vs', _, _, rfl, _, r, _⟩ := owL_cons.mp h
    simp [OwL.len r]
mutual
theorem Ow.mono (l : Le (cut H G) (cut H' G')) : ∀ {m : M} {v : V} {F : List Addr}, (∀ a ∈ F, H' a = H a) → (∀ a xs, H a = some (.tup xs) → H' a = some (.tup xs)) → Ow ca K G H m v F → Ow ca K G' H' m v F
  | .dat d, _, _, k, t, h => by
    obtain ⟨e, h⟩ := ow_dat.mp h
    exact ow_dat.mpr ⟨e, h.le l⟩
  | .lst ms, _, _, k, t, h => by
    obtain ⟨a, vs, F', e, hh, r, rfl⟩ := ow_lst.mp h
    exact ow_lst.mpr ⟨a, vs, F', e, (k a (by simp)).trans hh, OwL.mono l (fun b hb => k b (List.mem_cons_of_mem _ hb)) t r, rfl⟩
  | .dic ks ms, _, _, k, t, h => by
    obtain ⟨a, vs, F', e, hh, ek, r, rfl⟩ := ow_dic.mp h
    exact ow_dic.mpr ⟨a, vs, F', e, (k a (by simp)).trans hh, ek, OwL.mono l (fun b hb => k b (List.mem_cons_of_mem _ hb)) t r, rfl⟩
  | .dik ks ms, _, _, k, t, h => by
    obtain ⟨a, vs, F', e, hh, ek, r, rfl⟩ := ow_dik.mp h
    exact ow_dik.mpr ⟨a, vs, F', e, (k a (by simp)).trans hh, ek, OwL.mono l (fun b hb => k b (List.mem_cons_of_mem _ hb)) t r, rfl⟩
  | .tup ms, _, _, k, t, h => by
    obtain ⟨a, vs, e, hh, r⟩ := ow_tup.mp h
    exact ow_tup.mpr ⟨a, vs, e, t _ _ hh, OwL.mono l k t r⟩
  | .obj C fs ms, _, _, k, t, h => by
    obtain ⟨a, Ca, dx, vs, F', e, c, hh, ek, r, rfl⟩ := ow_obj.mp h
    exact ow_obj.mpr ⟨a, Ca, dx, vs, F', e, c, (k a (by simp)).trans hh, ek, OwL.mono l (fun b hb => k b (List.mem_cons_of_mem _ hb)) t r, rfl⟩
theorem OwL.mono (l : Le (cut H G) (cut H' G')) : ∀ {ms : List M} {vs : List V} {F : List Addr}, (∀ a ∈ F, H' a = H a) → (∀ a xs, H a = some (.tup xs) → H' a = some (.tup xs)) → OwL ca K G H ms vs F → OwL ca K G' H' ms vs F
  | [], _, _, k, t, h => by
    obtain ⟨e, f⟩ := owL_nil.mp h
    exact owL_nil.mpr ⟨e, f⟩
  | m :: ms, _, _, k, t, h => by
    obtain ⟨v, vs', F1, F2, e, h1, r, rfl⟩ := owL_cons.mp h
    exact owL_cons.mpr ⟨v, vs', F1, F2, e, Ow.mono l (fun b hb => k b (List.mem_append_left _ hb)) t h1, OwL.mono l (fun b hb => k b (List.mem_append_right _ hb)) t r, rfl⟩
end
/-- owned cells are such as may be written -/
def Mu (o : Option HO) : Prop := (∃ xs, o = some (.lst xs)) ∨ (∃ k, o = some (.dT k)) ∨ (∃ k, o = some (.dK k)) ∨ ∃ C dx fs, o = some (.ins C dx fs)
theorem Mu.ne {o : Option HO} (h : Mu o) : o ≠ none := by
  rcases h with ⟨_, h⟩ | ⟨_, h⟩ | ⟨_, h⟩ | ⟨_, _, _, h⟩ <;> (rw [h]; simp)
theorem Mu.noTup {H : Hp} {a : Addr} {xs : List V} (h : Mu (H a)) (e : H a = some (.tup xs)) : False := by
  rcases h with ⟨_, h⟩ | ⟨_, h⟩ | ⟨_, h⟩ | ⟨_, _, _, h⟩ <;> (rw [h] at e; cases e)
mutual
theorem Ow.mu : ∀ {m : M} {v : V} {F : List Addr}, Ow ca K G H m v F → ∀ a ∈ F, Mu (H a)
  | .dat d, _, _, h, a, ha => by
    obtain ⟨rfl, _⟩ := ow_dat.mp h
    cases ha
  | .lst ms, _, _, h, b, hb => by
    obtain ⟨a, vs, F', e, hh, r, rfl⟩ := ow_lst.mp h
    rcases List.mem_cons.mp hb with rfl | hb
    · exact .inl ⟨_, hh⟩
    · exact OwL.mu r b hb
  | .dic ks ms, _, _, h, b, hb => by
    obtain ⟨a, vs, F', e, hh, ek, r, rfl⟩ := ow_dic.mp h
    rcases List.mem_cons.mp hb with rfl | hb
    · exact .inr (.inl ⟨_, hh⟩)
    · exact OwL.mu r b hb
  | .dik ks ms, _, _, h, b, hb => by
    obtain ⟨a, vs, F', e, hh, ek, r, rfl⟩ := ow_dik.mp h
    rcases List.mem_cons.mp hb with rfl | hb
    · exact .inr (.inr (.inl ⟨_, hh⟩))
    · exact OwL.mu r b hb
  | .tup ms, _, _, h, b, hb => by
    obtain ⟨a, vs, e, hh, r⟩ := ow_tup.mp h
    exact OwL.mu r b hb
  | .obj C fs ms, _, _, h, b, hb => by
    obtain ⟨a, Ca, dx, vs, F', e, c, hh, ek, r, rfl⟩ := ow_obj.mp h
    rcases List.mem_cons.mp hb with rfl | hb
    · exact .inr (.inr (.inr ⟨_, _, _, hh⟩))
    · exact OwL.mu r b hb
theorem OwL.mu : ∀ {ms : List M} {vs : List V} {F : List Addr}, OwL ca K G H ms vs F → ∀ a ∈ F, Mu (H a)
  | [], _, _, h, a, ha => by
    obtain ⟨_, rfl⟩ := owL_nil.mp h
    cases ha
  | m :: ms, _, _, h, b, hb => by
    obtain ⟨v, vs', F1, F2, e, h1, r, rfl⟩ := owL_cons.mp h
    rcases List.mem_append.mp hb with hb | hb
    · exact Ow.mu h1 b hb
    · exact OwL.mu r b hb
end
mutual
/-- the cells are no longer guarded: the tree is data -/
theorem Ow.er (n : ∀ a, a ∉ G → a ∉ G') : ∀ {m : M} {v : V} {F : List Addr}, (∀ a ∈ F, a ∉ G') → (∀ a xs, H a = some (.tup xs) → a ∉ G') → Ow ca K G H m v F → Is ca K (cut H G') m.er v
  | .dat d, _, _, k, t, h => by
    obtain ⟨e, h⟩ := ow_dat.mp h
    refine h.le ⟨fun a xs h => ?_, fun a C dx fs h => ?_, fun a xs h => ?_, fun a xs h => ?_, fun a xs h => ?_, fun a h => ?_⟩
    · exact (cut_out (n a (cut_some h).1)).trans (cut_some h).2
    · exact (cut_out (n a (cut_some h).1)).trans (cut_some h).2
    · exact rd_cut_of (n a (rd_cut h).1) (rd_cut h).2
    · exact rd_cut_of (n a (rd_cut h).1) (rd_cut h).2
    · exact rd_cut_of (n a (rd_cut h).1) (rd_cut h).2
    · by_cases g : a ∈ G
      · exact cut_in g
      · rw [cut_out g]; rw [cut_out (n a g)] at h; exact h
  | .lst ms, _, _, k, t, h => by
    obtain ⟨a, vs, F', e, hh, r, rfl⟩ := ow_lst.mp h
    rw [M.er]
    exact is_lst.mpr ⟨a, vs, e, .inl (.inl ((cut_out (k a (by simp))).trans hh)), OwL.er n (fun b hb => k b (List.mem_cons_of_mem _ hb)) t r⟩
  | .dic ks ms, _, _, k, t, h => by
    obtain ⟨a, vs, F', e, hh, ek, r, rfl⟩ := ow_dic.mp h
    rw [M.er]
    exact is_dic.mpr ⟨a, vs, e, .inl ((cut_out (k a (by simp))).trans hh), ek, OwL.er n (fun b hb => k b (List.mem_cons_of_mem _ hb)) t r⟩
  | .dik ks ms, _, _, k, t, h => by
    obtain ⟨a, vs, F', e, hh, ek, r, rfl⟩ := ow_dik.mp h
    rw [M.er]
    exact is_dik.mpr ⟨a, vs, e, .inl ((cut_out (k a (by simp))).trans hh), ek, OwL.er n (fun b hb => k b (List.mem_cons_of_mem _ hb)) t r⟩
  | .tup ms, _, _, k, t, h => by
    obtain ⟨a, vs, e, hh, r⟩ := ow_tup.mp h
    rw [M.er]
    exact is_tup.mpr ⟨a, vs, e, (cut_out (t a _ hh)).trans hh, OwL.er n k t r⟩
  | .obj C fs ms, _, _, k, t, h => by
    obtain ⟨a, Ca, dx, vs, F', e, c, hh, ek, r, rfl⟩ := ow_obj.mp h
    rw [M.er]
    exact is_obj.mpr ⟨a, Ca, dx, vs, e, c, (cut_out (k a (by simp))).trans hh, ek, OwL.er n (fun b hb => k b (List.mem_cons_of_mem _ hb)) t r⟩
theorem OwL.er (n : ∀ a, a ∉ G → a ∉ G') : ∀ {ms : List M} {vs : List V} {F : List Addr}, (∀ a ∈ F, a ∉ G') → (∀ a xs, H a = some (.tup xs) → a ∉ G') → OwL ca K G H ms vs F → IsL ca K (cut H G') (M.ers ms) vs
  | [], _, _, k, t, h => by
    rw [(owL_nil.mp h).1, M.ers]
    exact IsL.nil
  | m :: ms, _, _, k, t, h => by
    obtain ⟨v, vs', F1, F2, rfl, h1, r, rfl⟩ := owL_cons.mp h
    rw [M.ers]
    exact IsL.cons (Ow.er n (fun b hb => k b (List.mem_append_left _ hb)) t h1) (OwL.er n (fun b hb => k b (List.mem_append_right _ hb)) t r)
end
theorem OwL.of_dats : ∀ {ds : List D} {vs : List V}, IsL ca K (cut H G) ds vs → OwL ca K G H (ds.map M.dat) vs []
  | [], _, h => owL_nil.mpr ⟨isL_nil.mp h, rfl⟩
  | d :: ds, _, h => by
    obtain ⟨v, vs', rfl, h, r⟩ := isL_cons.mp h
    exact owL_cons.mpr ⟨v, vs', [], [], rfl, ow_dat.mpr ⟨rfl, h⟩, OwL.of_dats r, rfl⟩
theorem OwL.to_dats : ∀ {ds : List D} {vs : List V} {F : List Addr}, OwL ca K G H (ds.map M.dat) vs F → F = [] ∧ IsL ca K (cut H G) ds vs
  | [], _, _, h => ⟨(owL_nil.mp h).2, isL_nil.mpr (owL_nil.mp h).1⟩
  | d :: ds, _, _, h => by
    obtain ⟨v, vs', F1, F2, rfl, h1, r, rfl⟩ := owL_cons.mp h
    obtain ⟨rfl, h2⟩ := ow_dat.mp h1
    obtain ⟨rfl, r2⟩ := OwL.to_dats r
    exact ⟨rfl, IsL.cons h2 r2⟩
theorem OwL.app : ∀ {ms ns : List M} {vs ws : List V} {F F' : List Addr}, OwL ca K G H ms vs F → OwL ca K G H ns ws F' → OwL ca K G H (ms ++ ns) (vs ++ ws) (F ++ F')
  | [], _, _, _, _, _, h, g => by
    obtain ⟨rfl, rfl⟩ := owL_nil.mp h
    exact g
  | m :: ms, _, _, _, _, _, h, g => by
    obtain ⟨v, vs', F1, F2, rfl, h1, r, rfl⟩ := owL_cons.mp h
    rw [List.append_assoc]
    exact owL_cons.mpr ⟨v, _, F1, _, rfl, h1, OwL.app r g, rfl⟩
end
end DA
set_option maxHeartbeats 4000000
/-! DA2: the slots of a def, as data and owned trees -/
namespace DA
open PySem L2

abbrev Rn := List (Option M)

section
variable (ca : Str → Option Addr) (K : PySem.W.Frag) (G : List Addr) (H : Hp)
def OwO : Option M → Option V → List Addr → Prop
  | none, _, F => F = []
  | some m, w, F => ∃ v, w = some v ∧ Ow ca K G H m v F
def OwS : Rn → St → List Addr → Prop
  | [], σ, F => σ = [] ∧ F = []
  | o :: ρ, σ, F => ∃ w σ' F1 F2, σ = w :: σ' ∧ OwO ca K G H o w F1 ∧ OwS ρ σ' F2 ∧ F = F1 ++ F2
end
section
variable {ca : Str → Option Addr} {K : PySem.W.Frag} {G G' : List Addr} {H H' : Hp}
theorem owO_some {m : M} {w : Option V} {F : List Addr} : OwO ca K G H (some m) w F ↔ ∃ v, w = some v ∧ Ow ca K G H m v F := Iff.rfl
theorem OwO.mono (l : Le (cut H G) (cut H' G')) : ∀ {o : Option M} {w : Option V} {F : List Addr}, (∀ a ∈ F, H' a = H a) → (∀ a xs, H a = some (.tup xs) → H' a = some (.tup xs)) → OwO ca K G H o w F → OwO ca K G' H' o w F
  | none, _, _, _, _, h => h
  | some m, _, _, k, t, ⟨v, e, h⟩ => ⟨v, e, h.mono l k t⟩
theorem OwO.mu : ∀ {o : Option M} {w : Option V} {F : List Addr}, OwO ca K G H o w F → ∀ a ∈ F, Mu (H a)
  | none, _, _, h, a, ha => by
    have e : _ = [] := h
    rw [e] at ha; cases ha
  | some m, _, _, ⟨v, e, h⟩, a, ha => h.mu a ha
theorem OwS.nil : OwS ca K G H [] [] [] := ⟨rfl, rfl⟩
theorem OwS.cons {o : Option M} {w : Option V} {ρ : Rn} {σ : St} {F1 F2 : List Addr} (h : OwO ca K G H o w F1) (r : OwS ca K G H ρ σ F2) : OwS ca K G H (o :: ρ) (w :: σ) (F1 ++ F2) := ⟨w, σ, F1, F2, rfl, h, r, rfl⟩
theorem OwS.len : ∀ {ρ : Rn} {σ : St} {F : List Addr}, OwS ca K G H ρ σ F → ρ.length = σ.length
  | [], _, _, ⟨e, _⟩ => by rw [e]; rfl
  | o :: ρ, _, _, ⟨w, σ', F1, F2, e, _, r, _⟩ => by rw [e]; simp [OwS.len r]
theorem OwS.mono (l : Le (cut H G) (cut H' G')) : ∀ {ρ : Rn} {σ : St} {F : List Addr}, (∀ a ∈ F, H' a = H a) → (∀ a xs, H a = some (.tup xs) → H' a = some (.tup xs)) → OwS ca K G H ρ σ F → OwS ca K G' H' ρ σ F
  | [], _, _, _, _, h => h
  | o :: ρ, _, _, k, t, ⟨w, σ', F1, F2, e, h, r, ef⟩ => by
    subst ef
    exact ⟨w, σ', F1, F2, e, h.mono l (fun a ha => k a (List.mem_append_left _ ha)) t, OwS.mono l (fun a ha => k a (List.mem_append_right _ ha)) t r, rfl⟩
theorem OwS.mu : ∀ {ρ : Rn} {σ : St} {F : List Addr}, OwS ca K G H ρ σ F → ∀ a ∈ F, Mu (H a)
  | [], _, _, ⟨_, e⟩, a, ha => by rw [e] at ha; cases ha
  | o :: ρ, _, _, ⟨w, σ', F1, F2, e, h, r, ef⟩, a, ha => by
    subst ef
    rcases List.mem_append.mp ha with ha | ha
    · exact h.mu a ha
    · exact OwS.mu r a ha
theorem OwS.app : ∀ {ρ ρ' : Rn} {σ σ' : St} {F F' : List Addr}, OwS ca K G H ρ σ F → OwS ca K G H ρ' σ' F' → OwS ca K G H (ρ ++ ρ') (σ ++ σ') (F ++ F')
  | [], _, _, _, _, _, ⟨e, f⟩, g => by rw [e, f]; exact g
  | o :: ρ, _, _, _, _, _, ⟨w, σ', F1, F2, e, h, r, ef⟩, g => by
    rw [e, ef, List.append_assoc]
    exact OwS.cons h (OwS.app r g)
theorem OwS.unapp : ∀ {ρ ρ' : Rn} {σ : St} {F : List Addr}, OwS ca K G H (ρ ++ ρ') σ F → ∃ σ1 σ2 F1 F2, σ = σ1 ++ σ2 ∧ F = F1 ++ F2 ∧ OwS ca K G H ρ σ1 F1 ∧ OwS ca K G H ρ' σ2 F2
  | [], _, σ, F, h => ⟨[], σ, [], F, rfl, rfl, OwS.nil, h⟩
  | o :: ρ, _, _, _, ⟨w, σ', F1, F2, e, h, r, ef⟩ => by
    obtain ⟨σ1, σ2, A, B, e1, e2, r1, r2⟩ := OwS.unapp r
    exact ⟨w :: σ1, σ2, F1 ++ A, B, by rw [e, e1]; rfl, by rw [ef, e2, List.append_assoc], OwS.cons h r1, r2⟩
/-- one slot taken out, and put back otherwise -/
theorem OwS.split : ∀ {ρ : Rn} {σ : St} {F : List Addr} {i : Nat} {o : Option M}, OwS ca K G H ρ σ F → ρ[i]? = some o → ∃ w A Fi B, F = A ++ (Fi ++ B) ∧ σ[i]? = some w ∧ OwO ca K G H o w Fi ∧
    ∀ (G' : List Addr) (H' : Hp) (o' : Option M) (w' : Option V) (Fi' : List Addr), Le (cut H G) (cut H' G') → (∀ a ∈ A ++ B, H' a = H a) → (∀ a xs, H a = some (.tup xs) → H' a = some (.tup xs)) → OwO ca K G' H' o' w' Fi' →
      OwS ca K G' H' (ρ.set i o') (σ.set i w') (A ++ (Fi' ++ B))
  | [], _, _, _, _, _, e => by simp at e
  | o :: ρ, _, _, 0, o2, ⟨w, σ', F1, F2, e, h, r, ef⟩, ei => by
    have e' : o = o2 := Option.some.inj ei
    subst e' e ef
    refine ⟨w, [], F1, F2, rfl, rfl, h, fun G' H' o' w' Fi' l k t h' => ?_⟩
    exact ⟨w', σ', Fi', F2, rfl, h', r.mono l (fun a ha => k a ha) t, rfl⟩
  | o :: ρ, _, _, i + 1, o2, ⟨w, σ', F1, F2, e, h, r, ef⟩, ei => by
    obtain ⟨w2, A, Fi, B, e2, e3, h2, back⟩ := OwS.split (i := i) r (by simpa using ei)
    subst e ef e2
    refine ⟨w2, F1 ++ A, Fi, B, by simp [List.append_assoc], by simpa using e3, h2, fun G' H' o' w' Fi' l k t h' => ?_⟩
    have q := back G' H' o' w' Fi' l (fun a ha => k a (by rcases List.mem_append.mp ha with z | z <;> simp [z])) t h'
    rw [List.append_assoc]
    exact ⟨w, _, F1, _, rfl, h.mono l (fun a ha => k a (by simp [ha])) t, q, rfl⟩
end

/-! ### the state of a def -/
section
variable (ca : Str → Option Addr) (K : PySem.W.Frag)
/-- H0: the heap at the def's entry, Fa: the callers' cells; ρ, σ: the slots; F: the cells of the slots -/
structure EnvF (H0 : Hp) (Fa : List Addr) (ρ : Rn) (σ : St) (H : Hp) (F : List Addr) : Prop where
  le : Le H0 H
  keep : ∀ a ∈ Fa, H a = H0 a
  mu : ∀ a ∈ Fa, Mu (H0 a)
  nd : F.Nodup
  fresh : ∀ a ∈ F, H0 a = none
  own : OwS ca K (Fa ++ F) H ρ σ F
def Env (H0 : Hp) (Fa : List Addr) (ρ : Rn) (σ : St) (H : Hp) : Prop := ∃ F, EnvF ca K H0 Fa ρ σ H F
end
section
variable {ca : Str → Option Addr} {K : PySem.W.Frag} {H0 H H' : Hp} {Fa F F' : List Addr} {ρ : Rn} {σ : St} {m : M} {v : V}
theorem EnvF.muG (E : EnvF ca K H0 Fa ρ σ H F) : ∀ a ∈ Fa ++ F, Mu (H a) := fun a ha => by
  rcases List.mem_append.mp ha with ha | ha
  · rw [E.keep a ha]; exact E.mu a ha
  · exact E.own.mu a ha
theorem EnvF.apart (E : EnvF ca K H0 Fa ρ σ H F) : ∀ a ∈ F, a ∉ Fa := fun a ha hb => (E.mu a hb).ne (E.fresh a ha)
/-- the same, behind steps that leave the guarded cells -/
theorem EnvF.go (E : EnvF ca K H0 Fa ρ σ H F) (l : Le H H') (k : ∀ a ∈ Fa ++ F, H' a = H a) : EnvF ca K H0 Fa ρ σ H' F where
  le := E.le.trans l
  keep := fun a ha => (k a (List.mem_append_left _ ha)).trans (E.keep a ha)
  mu := E.mu
  nd := E.nd
  fresh := E.fresh
  own := E.own.mono (l.cut (fun a n _ => n) (fun a ha => by rw [k a ha]; exact (E.muG a ha).ne)) (fun a ha => k a (List.mem_append_right _ ha)) l.tup
/-- the cells told in another order -/
theorem EnvF.re (E : EnvF ca K H0 Fa ρ σ H F) {ρ' : Rn} {σ' : St} (nd : F'.Nodup) (sub : ∀ a ∈ F', a ∈ F) (own : OwS ca K (Fa ++ F') H ρ' σ' F') : EnvF ca K H0 Fa ρ' σ' H F' :=
  ⟨E.le, E.keep, E.mu, nd, fun a ha => E.fresh a (sub a ha), own⟩
theorem le_shrink {G G' : List Addr} (s : ∀ a ∈ G', a ∈ G) (gd : ∀ a ∈ G', H a ≠ none) : Le (cut H G) (cut H G') := (Le.refl H).cut (fun a n _ z => n (s a z)) gd
/-- a value more, on top -/
theorem EnvF.push (E : EnvF ca K H0 Fa ρ σ H F) (l : Le H H') (k : ∀ a ∈ Fa ++ F, H' a = H a) (nd : F'.Nodup) (fr : ∀ a ∈ F', H a = none) (h : Ow ca K (Fa ++ (F' ++ F)) H' m v F') :
    EnvF ca K H0 Fa (some m :: ρ) (some v :: σ) H' (F' ++ F) where
  le := E.le.trans l
  keep := fun a ha => (k a (List.mem_append_left _ ha)).trans (E.keep a ha)
  mu := E.mu
  nd := List.nodup_append.mpr ⟨nd, E.nd, fun a ha b hb e => by
    subst e
    exact (E.muG a (List.mem_append_right _ hb)).ne (fr a ha)⟩
  fresh := fun a ha => by
    rcases List.mem_append.mp ha with ha | ha
    · exact E.le.dom a (fr a ha)
    · exact E.fresh a ha
  own := by
    refine OwS.cons ⟨v, rfl, h⟩ (E.own.mono (l.cut (fun a n hn => ?_) (fun a ha => ?_)) (fun a ha => k a (List.mem_append_right _ ha)) l.tup)
    · simp only [List.mem_append, not_or] at n ⊢
      exact ⟨n.1, fun z => hn (fr a z), n.2⟩
    · simp only [List.mem_append] at ha
      rcases ha with ha | ha | ha
      · rw [k a (List.mem_append_left _ ha)]; exact (E.muG a (List.mem_append_left _ ha)).ne
      · exact (h.mu a ha).ne
      · rw [k a (List.mem_append_right _ ha)]; exact (E.muG a (List.mem_append_right _ ha)).ne
theorem Env.go (E : EnvF ca K H0 Fa ρ σ H F) (l : Le H H') (k : ∀ a ∈ Fa ++ F, H' a = H a) : Env ca K H0 Fa ρ σ H' := ⟨F, E.go l k⟩
/-- data on top -/
theorem EnvF.pushD {d : D} (E : EnvF ca K H0 Fa ρ σ H F) (l : Le H H') (k : ∀ a ∈ Fa ++ F, H' a = H a) (h : Is ca K (cut H' (Fa ++ F)) d v) : EnvF ca K H0 Fa (some (.dat d) :: ρ) (some v :: σ) H' F :=
  E.push (F' := []) l k List.nodup_nil (fun _ z => nomatch z) (ow_dat.mpr ⟨rfl, h⟩)
theorem EnvF.pop {o : Option M} {w : Option V} (E : EnvF ca K H0 Fa (o :: ρ) (w :: σ) H F) : Env ca K H0 Fa ρ σ H := by
  obtain ⟨w', σ', F1, F2, e, h, r, ef⟩ := E.own
  injection e with e1 e2
  subst e1 e2 ef
  refine ⟨F2, E.re (List.nodup_append.mp E.nd).2.1 (fun a ha => List.mem_append_right _ ha) (r.mono (le_shrink (fun a ha => ?_) fun a ha => ?_) (fun _ _ => rfl) fun _ _ z => z)⟩
  · rcases List.mem_append.mp ha with z | z <;> simp [z]
  · refine (E.muG a ?_).ne
    rcases List.mem_append.mp ha with z | z <;> simp [z]
theorem Env.pop {o : Option M} {w : Option V} : Env ca K H0 Fa (o :: ρ) (w :: σ) H → Env ca K H0 Fa ρ σ H := fun ⟨_, E⟩ => E.pop
/-- the tree on top is data now -/
theorem EnvF.frz (E : EnvF ca K H0 Fa (some m :: ρ) (some v :: σ) H F) : Env ca K H0 Fa (some (.dat m.er) :: ρ) (some v :: σ) H := by
  obtain ⟨w', σ', F1, F2, e, ⟨v', ev, h⟩, r, ef⟩ := E.own
  injection e with e1 e2
  subst e1 e2 ef
  cases ev
  have sub : ∀ a ∈ Fa ++ F2, a ∈ Fa ++ (F1 ++ F2) := fun a ha => by rcases List.mem_append.mp ha with z | z <;> simp [z]
  have nd := List.nodup_append.mp E.nd
  refine ⟨F2, E.re nd.2.1 (fun a ha => List.mem_append_right _ ha) ?_⟩
  have q : Is ca K (cut H (Fa ++ F2)) m.er v := h.er (fun a n z => n (sub a z)) (fun a ha z => by
    rcases List.mem_append.mp z with z | z
    · exact E.apart a (List.mem_append_left _ ha) z
    · exact nd.2.2 a ha a z rfl) fun a xs ha z => (E.muG a (sub a z)).noTup ha
  exact OwS.cons (F1 := []) ⟨v, rfl, ow_dat.mpr ⟨rfl, q⟩⟩ (r.mono (le_shrink sub fun a ha => (E.muG a (sub a ha)).ne) (fun _ _ => rfl) fun _ _ z => z)
theorem Env.frz : Env ca K H0 Fa (some m :: ρ) (some v :: σ) H → Env ca K H0 Fa (some (.dat m.er) :: ρ) (some v :: σ) H := fun ⟨_, E⟩ => E.frz
/-- what a slot holds as data -/
theorem EnvF.get {d : D} {i : Nat} (E : EnvF ca K H0 Fa ρ σ H F) (h : ρ[i]? = some (some (.dat d))) : ∃ v, σ[i]? = some (some v) ∧ Is ca K (cut H (Fa ++ F)) d v := by
  obtain ⟨w, A, Fi, B, _, e2, ⟨v, e3, o⟩, _⟩ := E.own.split h
  exact ⟨v, by rw [e2, e3], (ow_dat.mp o).2⟩
theorem Env.get {d : D} {i : Nat} (h : ρ[i]? = some (some (.dat d))) : Env ca K H0 Fa ρ σ H → ∃ F v, EnvF ca K H0 Fa ρ σ H F ∧ σ[i]? = some (some v) ∧ Is ca K (cut H (Fa ++ F)) d v := fun ⟨F, E⟩ => by
  obtain ⟨v, a, b⟩ := E.get h
  exact ⟨F, v, E, a, b⟩
theorem Env.len : Env ca K H0 Fa ρ σ H → ρ.length = σ.length := fun ⟨_, E⟩ => E.own.len
theorem le_of_cut (gd : ∀ a ∈ F, H a ≠ none) : Le (cut H F) H :=
  ⟨fun _ _ h => (cut_some h).2, fun _ _ _ _ h => (cut_some h).2, fun _ _ h => (rd_cut h).2, fun _ _ h => (rd_cut h).2, fun _ _ h => (rd_cut h).2, fun a h => by
    by_cases g : a ∈ F
    · exact absurd h (gd a g)
    · rw [cut_out g]; exact h⟩
/-- data as it stands in the whole heap -/
theorem EnvF.whole {d : D} (E : EnvF ca K H0 Fa ρ σ H F) (h : Is ca K (cut H (Fa ++ F)) d v) : Is ca K H d v := h.le (le_of_cut fun a ha => (E.muG a ha).ne)
/-- the value on top goes to a slot -/
theorem EnvF.store {i : Nat} {o : Option M} {w : Option V} {ρ1 : Rn} {σ1 : St} (E : EnvF ca K H0 Fa (o :: ρ1) (w :: σ1) H F) (hi : i < ρ1.length) : Env ca K H0 Fa (ρ1.set i o) (σ1.set i w) H := by
  obtain ⟨w', σ', F1, F2, e, h, r, ef⟩ := E.own
  injection e with e1 e2
  subst e1 e2 ef
  obtain ⟨w2, A, Fi, B, eF, e3, h2, back⟩ := r.split (List.getElem?_eq_getElem hi)
  subst eF
  have sub : ∀ a ∈ Fa ++ (A ++ (F1 ++ B)), a ∈ Fa ++ (F1 ++ (A ++ (Fi ++ B))) := fun a ha => by
    simp only [List.mem_append] at ha ⊢
    rcases ha with z | z | z | z <;> simp [z]
  have ls := le_shrink (H := H) sub fun a ha => (E.muG a (sub a ha)).ne
  refine ⟨A ++ (F1 ++ B), E.re ?_ (fun a ha => ?_) (back _ H o w F1 ls (fun _ _ => rfl) (fun _ _ z => z) (h.mono ls (fun _ _ => rfl) fun _ _ z => z))⟩
  · have nd := E.nd
    simp only [List.nodup_append, List.mem_append] at nd ⊢
    obtain ⟨n1, ⟨nA, ⟨nFi, nB, d1⟩, d2⟩, d3⟩ := nd
    refine ⟨nA, ⟨n1, nB, fun a ha b hb => d3 a ha b (.inr (.inr hb))⟩, fun a ha b hb => ?_⟩
    rcases hb with hb | hb
    · exact fun z => d3 b hb a (.inl ha) z.symm
    · exact d2 a ha b (.inr hb)
  · simp only [List.mem_append] at ha ⊢
    rcases ha with z | z | z <;> simp [z]
end
end DA
set_option maxHeartbeats 4000000
/-! DA3: what expressions, tests, targets, statements and defs are worth, as functions of data -/
namespace DA
open PySem PySem.Spec PyProof.Rows L2

/-- no answer is told | an error of a class | a value -/
inductive Out (α : Type) where
  | stuck | exc (n : Str) | ok (a : α)
def Out.bind {α β : Type} : Out α → (α → Out β) → Out β
  | .stuck, _ => .stuck
  | .exc n, _ => .exc n
  | .ok a, f => f a
def Out.map {α β : Type} (f : α → β) : Out α → Out β
  | .stuck => .stuck
  | .exc n => .exc n
  | .ok a => .ok (f a)
def OutE {α : Type} (o : Out α) (P : α → Prop) (X : Str → Prop) : Prop := match o with
  | .stuck => False
  | .exc n => X n
  | .ok a => P a
theorem bind_ok {α β : Type} (a : α) (f : α → Out β) : (Out.ok a).bind f = f a := rfl
theorem bind_exc {α β : Type} (n : Str) (f : α → Out β) : (Out.exc n).bind f = .exc n := rfl
theorem bind_stuck {α β : Type} (f : α → Out β) : (Out.stuck : Out α).bind f = .stuck := rfl
theorem map_ok {α β : Type} (a : α) (f : α → β) : (Out.ok a).map f = .ok (f a) := rfl
theorem map_exc {α β : Type} (n : Str) (f : α → β) : (Out.exc n).map f = .exc n := rfl
theorem map_stuck {α β : Type} (f : α → β) : (Out.stuck : Out α).map f = .stuck := rfl
theorem OutE.bind {α β : Type} {o : Out α} {f : α → Out β} {P : β → Prop} {X : Str → Prop} (h : OutE (o.bind f) P X) : OutE o (fun a => OutE (f a) P X) X := by
  cases o with
  | stuck => exact h
  | exc n => exact h
  | ok a => exact h
theorem OutE.map {α β : Type} {o : Out α} {f : α → β} {P : β → Prop} {X : Str → Prop} (h : OutE (o.map f) P X) : OutE o (fun a => P (f a)) X := by
  cases o with
  | stuck => exact h
  | exc n => exact h
  | ok a => exact h
theorem OutE.imp {α : Type} {o : Out α} {P P' : α → Prop} {X X' : Str → Prop} (h : OutE o P X) (hp : ∀ a, P a → P' a) (hx : ∀ n, X n → X' n) : OutE o P' X' := by
  cases o with
  | stuck => exact h
  | exc n => exact hx n h
  | ok a => exact hp a h

/-- how a statement goes on -/
inductive Fl where
  | nx | bk | ct | rt (m : M)
abbrev SOut := Out (Fl × Rn)

structure Frm (H0 : Hp) (Fa : List Addr) (H : Hp) : Prop where
  le : Le H0 H
  keep : ∀ a ∈ Fa, H a = H0 a
section
variable {ca : Str → Option Addr} {K : PySem.W.Frag} {H0 H H' : Hp} {Fa F F' : List Addr} {ρ ts : Rn} {σ us : L2.St} {m : M} {v : V} {d : D}
theorem EnvF.frm (E : EnvF ca K H0 Fa ρ σ H F) : Frm H0 Fa H := ⟨E.le, E.keep⟩
theorem Env.frm : Env ca K H0 Fa ρ σ H → Frm H0 Fa H := fun ⟨_, E⟩ => E.frm
/-- the data on top, taken off -/
theorem EnvF.popD (E : EnvF ca K H0 Fa (some (.dat d) :: ρ) (some v :: σ) H F) : EnvF ca K H0 Fa ρ σ H F ∧ Is ca K (cut H (Fa ++ F)) d v := by
  obtain ⟨w', σ', F1, F2, e, ⟨v', ev, h⟩, r, ef⟩ := E.own
  injection e with e1 e2
  subst e1 e2 ef
  cases ev
  obtain ⟨rfl, h⟩ := ow_dat.mp h
  exact ⟨⟨E.le, E.keep, E.mu, E.nd, E.fresh, r⟩, h⟩
theorem EnvF.top (E : EnvF ca K H0 Fa ρ σ H F) (h : Is ca K (cut H (Fa ++ F)) d v) : EnvF ca K H0 Fa (some (.dat d) :: ρ) (some v :: σ) H F := E.pushD (Le.refl H) (fun _ _ => rfl) h
theorem drop_get {α : Type} {ts ρ : List α} {i : Nat} : (ts ++ ρ)[ts.length + i]? = ρ[i]? := by
  rw [List.getElem?_append_right (Nat.le_add_right _ _), Nat.add_sub_cancel_left]
theorem drop_set {α : Type} {ts ρ : List α} {i : Nat} {x : α} : (ts ++ ρ).set (ts.length + i) x = ts ++ ρ.set i x := by
  rw [List.set_append_right _ _ (Nat.le_add_right _ _), Nat.add_sub_cancel_left]
end

section
variable (ca : Str → Option Addr)
/-- te is worth f ρ, data -/
def EvD (K : PySem.W.Frag) (W : WX) (te : TE) (f : Rn → Out D) : Prop := ∀ (H0 : Hp) (Fa : List Addr) (ts : Rn) (us : L2.St) (ρ : Rn) (σ : L2.St) (H : Hp) (Q : VK), ts.length = us.length → Env ca K H0 Fa (ts ++ ρ) (us ++ σ) H →
  OutE (f ρ) (fun d => ∀ v H2 F, EnvF ca K H0 Fa (ts ++ ρ) (us ++ σ) H2 F → Is ca K (cut H2 (Fa ++ F)) d v → Q v H2) (fun n => ∀ a H2, ca n = some a → Env ca K H0 Fa (ts ++ ρ) (us ++ σ) H2 → W (.ref a) none σ H2) → te σ H Q
/-- te is worth f ρ, a tree of new cells -/
def EvM (K : PySem.W.Frag) (W : WX) (te : TE) (f : Rn → Out M) : Prop := ∀ (H0 : Hp) (Fa : List Addr) (ts : Rn) (us : L2.St) (ρ : Rn) (σ : L2.St) (H : Hp) (Q : VK), ts.length = us.length → Env ca K H0 Fa (ts ++ ρ) (us ++ σ) H →
  OutE (f ρ) (fun m => ∀ v H2, Env ca K H0 Fa (some m :: (ts ++ ρ)) (some v :: (us ++ σ)) H2 → Q v H2) (fun n => ∀ a H2, ca n = some a → Env ca K H0 Fa (ts ++ ρ) (us ++ σ) H2 → W (.ref a) none σ H2) → te σ H Q
def EvB (K : PySem.W.Frag) (W : WX) (tt : TT) (f : Rn → Out Bool) : Prop := ∀ (H0 : Hp) (Fa : List Addr) (ts : Rn) (us : L2.St) (ρ : Rn) (σ : L2.St) (H : Hp) (Q : Bool → Hp → Prop), ts.length = us.length → Env ca K H0 Fa (ts ++ ρ) (us ++ σ) H →
  OutE (f ρ) (fun b => ∀ H2, Env ca K H0 Fa (ts ++ ρ) (us ++ σ) H2 → Q b H2) (fun n => ∀ a H2, ca n = some a → Env ca K H0 Fa (ts ++ ρ) (us ++ σ) H2 → W (.ref a) none σ H2) → tt σ H Q
def EvA (K : PySem.W.Frag) (W : WX) (ta : TA) (f : Rn → Out (List D)) : Prop := ∀ (H0 : Hp) (Fa : List Addr) (ts : Rn) (us : L2.St) (ρ : Rn) (σ : L2.St) (H : Hp) (Q : List V → Hp → Prop), ts.length = us.length → Env ca K H0 Fa (ts ++ ρ) (us ++ σ) H →
  OutE (f ρ) (fun ds => ∀ vs H2 F, EnvF ca K H0 Fa (ts ++ ρ) (us ++ σ) H2 F → IsL ca K (cut H2 (Fa ++ F)) ds vs → Q vs H2) (fun n => ∀ a H2, ca n = some a → Env ca K H0 Fa (ts ++ ρ) (us ++ σ) H2 → W (.ref a) none σ H2) → ta σ H Q
def SPost (K : PySem.W.Frag) (W : WX) (H0 : Hp) (Fa : List Addr) (ts : Rn) (us : L2.St) (D : Ends) : SOut → Prop
  | .stuck => False
  | .exc n => ∀ a σ' H2, ca n = some a → Frm H0 Fa H2 → W (.ref a) none σ' H2
  | .ok (.nx, ρ') => ∀ σ' H2, Env ca K H0 Fa (ts ++ ρ') (us ++ σ') H2 → D.nx σ' H2
  | .ok (.bk, ρ') => ∀ σ' H2, Env ca K H0 Fa (ts ++ ρ') (us ++ σ') H2 → D.bk σ' H2
  | .ok (.ct, ρ') => ∀ σ' H2, Env ca K H0 Fa (ts ++ ρ') (us ++ σ') H2 → D.ct σ' H2
  | .ok (.rt m, _) => ∀ v H2, Env ca K H0 Fa [some m] [some v] H2 → D.rt v H2
def StM (K : PySem.W.Frag) (W : WX) (t : TS) (s : Rn → SOut) : Prop := ∀ (H0 : Hp) (Fa : List Addr) (ts : Rn) (us : L2.St) (ρ : Rn) (σ : L2.St) (H : Hp) (D : Ends), ts.length = us.length → Env ca K H0 Fa (ts ++ ρ) (us ++ σ) H →
  SPost ca K W H0 Fa ts us D (s ρ) → t D σ H
def TgM (K : PySem.W.Frag) (t : TG) (g : D → Rn → Out Rn) : Prop := ∀ (H0 : Hp) (Fa : List Addr) (ts : Rn) (us : L2.St) (ρ : Rn) (σ : L2.St) (H : Hp) (F : List Addr) (d : D) (v : V) (Q : L2.St → Hp → Prop), ts.length = us.length → EnvF ca K H0 Fa (ts ++ ρ) (us ++ σ) H F → Is ca K (cut H (Fa ++ F)) d v →
  OutE (g d ρ) (fun ρ' => ∀ σ' H2, Env ca K H0 Fa (ts ++ ρ') (us ++ σ') H2 → Q σ' H2) (fun _ => False) → t v σ H Q
end

section
variable (ca : Str → Option Addr) (X : Cx) (W : WX)
def ED (e : Expr) (f : Rn → Out D) : Prop := ∃ te, PE X e te ∧ EvD ca X.K W te f
def EM (e : Expr) (f : Rn → Out M) : Prop := ∃ te, PE X e te ∧ EvM ca X.K W te f
def EB (e : Expr) (f : Rn → Out Bool) : Prop := ∃ te, PT X e te ∧ EvB ca X.K W te f
def EW (e : Expr) (f : Rn → Out Bool) : Prop := ∃ te, PW X e te ∧ EvB ca X.K W te f
def EA (es : List Expr) (f : Rn → Out (List D)) : Prop := ∃ te, PA X es te ∧ EvA ca X.K W te f
def SS (st : Stmt) (s : Rn → SOut) : Prop := ∃ t, PS X st t ∧ StM ca X.K W t s
def SSs (sts : List Stmt) (s : Rn → SOut) : Prop := ∃ t, PSs X sts t ∧ StM ca X.K W t s
def TGt (e : Expr) (g : D → Rn → Out Rn) : Prop := ∃ t, PG X e t ∧ TgM ca X.K t g
end

section
variable {ca : Str → Option Addr} {X : Cx} {W : WX} {e a b c : Expr} {pos : Pos}

/-! ### data and trees -/
theorem em_of {f : Rn → Out D} (h : ED ca X W e f) : EM ca X W e (fun ρ => (f ρ).map .dat) := by
  obtain ⟨te, p, h⟩ := h
  refine ⟨te, p, fun H0 Fa ts us ρ σ H Q hl E o => h H0 Fa ts us ρ σ H Q hl E (o.map.imp (fun d q v H2 F E2 i => q v H2 ⟨F, E2.top i⟩) fun n q => q)⟩
theorem ed_of {f : Rn → Out M} (h : EM ca X W e f) : ED ca X W e (fun ρ => (f ρ).map M.er) := by
  obtain ⟨te, p, h⟩ := h
  refine ⟨te, p, fun H0 Fa ts us ρ σ H Q hl E o => h H0 Fa ts us ρ σ H Q hl E (o.map.imp (fun m q v H2 E2 => ?_) fun n q => q)⟩
  obtain ⟨F, E3⟩ := E2.frz
  obtain ⟨E4, i⟩ := E3.popD
  exact q v H2 F E4 i

/-! ### names and constants -/
def rd (i : Nat) (ρ : Rn) : Out D := match ρ[i]? with
  | some (some (.dat d)) => .ok d
  | _ => .stuck
theorem ed_var (i : Nat) {x : Str} (hN : X.N[i]? = some x := by rfl) (hv : Vis X.env.scope x := by first | exact Or.inl rfl | exact Or.inr (Or.inl rfl) | exact Or.inr (Or.inr rfl)) (hd : (x == ("__debug__" : Str)) = false := by decide)
    (hcd : (x == ("__classdict__" : Str)) = false := by decide) : ED ca X W (.Name x pos) (rd i) := by
  refine ⟨_, pe_var hN hv hd hcd, fun H0 Fa ts us ρ σ H Q hl E o => ?_⟩
  unfold rd at o
  split at o
  · rename_i d hρ
    obtain ⟨F, v, E1, e1, i1⟩ := Env.get (i := ts.length + i) (by rw [drop_get]; exact hρ) E
    rw [hl, drop_get] at e1
    exact ⟨v, e1, o v H F E1 i1⟩
  · exact o.elim
theorem ed_c {d : D} {v : V} (p : PE X e (tC v)) (hi : ∀ H, Is ca X.K H d v) : ED ca X W e (fun _ => .ok d) := by
  refine ⟨_, p, fun H0 Fa ts us ρ σ H Q hl E o => ?_⟩
  obtain ⟨F, E⟩ := E
  exact o v H F E (hi _)
theorem ed_int {i : Int} {j : Nat} : ED ca X W (.Constant (.int i) j pos) (fun _ => .ok (.int i)) := ed_c pe_int fun _ => is_int.mpr rfl
theorem ed_bl {i : Bool} {j : Nat} : ED ca X W (.Constant (.bool i) j pos) (fun _ => .ok (.bl i)) := ed_c pe_bl fun _ => is_bl.mpr rfl
theorem ed_str {i : Str} {j : Nat} : ED ca X W (.Constant (.str i) j pos) (fun _ => .ok (.str i)) := ed_c pe_str fun _ => is_str.mpr rfl
theorem ed_non {j : Nat} : ED ca X W (.Constant .none j pos) (fun _ => .ok .non) := ed_c pe_non fun _ => is_non.mpr rfl

/-! ### operators, by values -/
/-- what an operator of two values does, as data -/
def OpD (ca : Str → Option Addr) (K : PySem.W.Frag) (r : R2) (g : D → D → Out D) : Prop := ∀ (G : List Addr) (H : Hp) (d1 d2 : D) (v1 v2 : V) (Q : VK), (∀ a ∈ G, Mu (H a)) → Is ca K (cut H G) d1 v1 → Is ca K (cut H G) d2 v2 →
  OutE (g d1 d2) (fun d => ∀ v H2, (∀ a u, H a = some u → H2 a = some u) → Is ca K (cut H2 G) d v → Q v H2) (fun _ => False) → r v1 v2 H Q
def UnD (ca : Str → Option Addr) (K : PySem.W.Frag) (r : V → Hp → VK → Prop) (g : D → Out D) : Prop := ∀ (G : List Addr) (H : Hp) (d1 : D) (v1 : V) (Q : VK), (∀ a ∈ G, Mu (H a)) → Is ca K (cut H G) d1 v1 →
  OutE (g d1) (fun d => ∀ v H2, (∀ a u, H a = some u → H2 a = some u) → Is ca K (cut H2 G) d v → Q v H2) (fun _ => False) → r v1 H Q
def CaD (ca : Str → Option Addr) (K : PySem.W.Frag) (r : List V → Hp → VK → Prop) (g : List D → Out D) : Prop := ∀ (G : List Addr) (H : Hp) (ds : List D) (vs : List V) (Q : VK), (∀ a ∈ G, Mu (H a)) → IsL ca K (cut H G) ds vs →
  OutE (g ds) (fun d => ∀ v H2, (∀ a u, H a = some u → H2 a = some u) → Is ca K (cut H2 G) d v → Q v H2) (fun _ => False) → r vs H Q
theorem EnvF.same {H0 H H' : Hp} {Fa F : List Addr} {ρ : Rn} {σ : L2.St} {K : PySem.W.Frag} (E : EnvF ca K H0 Fa ρ σ H F) (k : ∀ a u, H a = some u → H' a = some u) : EnvF ca K H0 Fa ρ σ H' F := E.go (Le.of_same k) fun a ha => by
  have n := (E.muG a ha).ne
  cases q : H a with
  | none => exact absurd q n
  | some u => exact k a u q
theorem OutE.noexc {α : Type} {o : Out α} {P : α → Prop} {X Y : Str → Prop} (ne : ∀ n, o ≠ .exc n) (h : OutE o P X) : OutE o P Y := by
  cases o with
  | stuck => exact h
  | exc n => exact absurd rfl (ne n)
  | ok a => exact h
/-- an inner error is not carried -/
def Out.nx {α : Type} : Out α → Out α
  | .exc _ => .stuck
  | o => o
theorem OutE.nx {α : Type} {o : Out α} {P : α → Prop} {X Y : Str → Prop} (h : OutE o.nx P X) : OutE o P Y := by
  cases o with
  | stuck => exact h
  | exc n => exact h.elim
  | ok a => exact h
theorem ed_op {op : Operator} {r : R2} {f g : Rn → Out D} {h : D → D → Out D} (ho : OpR X (binaryOp op) r) (hd : OpD ca X.K r h) (ha : ED ca X W a f) (hb : ED ca X W b g) :
    ED ca X W (.BinOp a op b pos) (fun ρ => (f ρ).bind fun x => (g ρ).bind fun y => (h x y).nx) := by
  obtain ⟨ta, pa, ha⟩ := ha
  obtain ⟨tb, pb, hb⟩ := hb
  refine ⟨_, pe_op ho pa pb, fun H0 Fa ts us ρ σ H Q hl E o => ?_⟩
  refine ha H0 Fa ts us ρ σ H _ hl E (o.bind.imp (fun x o v H2 F E2 i => ?_) fun n q => q)
  refine hb H0 Fa (some (.dat x) :: ts) (some v :: us) ρ σ H2 _ (by simp [hl]) ⟨F, E2.top i⟩ (o.bind.imp (fun y o v' H3 F E3 i' => ?_) fun n q a' H3 c E3 => q a' H3 c E3.pop)
  obtain ⟨E4, i⟩ := E3.popD
  exact hd (Fa ++ F) H3 x y v v' Q E4.muG i i' (o.nx.imp (fun d o v2 H4 k i4 => o v2 H4 F (E4.same k) i4) fun _ z => z)
theorem ed_un {op : UnaryOp} {r : V → Hp → VK → Prop} {f : Rn → Out D} {h : D → Out D} (ho : UnR X (unaryOp op) r) (hd : UnD ca X.K r h) (ha : ED ca X W a f) : ED ca X W (.UnaryOp op a pos) (fun ρ => (f ρ).bind fun x => (h x).nx) := by
  obtain ⟨ta, pa, ha⟩ := ha
  refine ⟨_, pe_un ho pa, fun H0 Fa ts us ρ σ H Q hl E o => ?_⟩
  refine ha H0 Fa ts us ρ σ H _ hl E (o.bind.imp (fun x o v H2 F E2 i => ?_) fun n q => q)
  exact hd (Fa ++ F) H2 x v Q E2.muG i (o.nx.imp (fun d o v2 H4 k i4 => o v2 H4 F (E2.same k) i4) fun _ z => z)
theorem ed_cmp {op : CmpOp} {r : R2} {f g : Rn → Out D} {h : D → D → Out D} (ho : OpR X (compareOp op) r) (hd : OpD ca X.K r h) (ha : ED ca X W a f) (hb : ED ca X W b g) (hm : behindInMarks op b = false := by first | exact nomark _ | rfl) :
    ED ca X W (.Compare a [op] [b] pos) (fun ρ => (f ρ).bind fun x => (g ρ).bind fun y => (h x y).nx) := by
  obtain ⟨ta, pa, ha⟩ := ha
  obtain ⟨tb, pb, hb⟩ := hb
  refine ⟨_, pe_cmpR ho pa pb hm, fun H0 Fa ts us ρ σ H Q hl E o => ?_⟩
  refine ha H0 Fa ts us ρ σ H _ hl E (o.bind.imp (fun x o v H2 F E2 i => ?_) fun n q => q)
  refine hb H0 Fa (some (.dat x) :: ts) (some v :: us) ρ σ H2 _ (by simp [hl]) ⟨F, E2.top i⟩ (o.bind.imp (fun y o v' H3 F E3 i' => ?_) fun n q a' H3 c E3 => q a' H3 c E3.pop)
  obtain ⟨E4, i⟩ := E3.popD
  exact hd (Fa ++ F) H3 x y v v' Q E4.muG i i' (o.nx.imp (fun d o v2 H4 k i4 => o v2 H4 F (E4.same k) i4) fun _ z => z)

/-! ### tests -/
def asB : D → Out Bool
  | .bl b => .ok b
  | _ => .stuck
theorem eb_cmp {op : CmpOp} {r : R2} {f g : Rn → Out D} {h : D → D → Out D} (ho : OpR X (compareOp op) r) (hd : OpD ca X.K r h) (ha : ED ca X W a f) (hb : ED ca X W b g) (hm : behindInMarks op b = false := by first | exact nomark _ | rfl) :
    EB ca X W (.Compare a [op] [b] pos) (fun ρ => (f ρ).bind fun x => (g ρ).bind fun y => (h x y).nx.bind asB) := by
  obtain ⟨ta, pa, ha⟩ := ha
  obtain ⟨tb, pb, hb⟩ := hb
  refine ⟨_, pt_cmpR ho pa pb hm, fun H0 Fa ts us ρ σ H Q hl E o => ?_⟩
  refine ha H0 Fa ts us ρ σ H _ hl E (o.bind.imp (fun x o v H2 F E2 i => ?_) fun n q => q)
  refine hb H0 Fa (some (.dat x) :: ts) (some v :: us) ρ σ H2 _ (by simp [hl]) ⟨F, E2.top i⟩ (o.bind.imp (fun y o v' H3 F E3 i' => ?_) fun n q a' H3 c E3 => q a' H3 c E3.pop)
  obtain ⟨E4, i⟩ := E3.popD
  refine hd (Fa ++ F) H3 x y v v' _ E4.muG i i' (o.bind.nx.imp (fun d o v2 H4 k i4 => ?_) fun _ z => z)
  cases d with
  | bl b => exact ⟨b, is_bl.mp i4, o H4 ⟨F, E4.same k⟩⟩
  | _ => exact o.elim
theorem eb_val {f : Rn → Out D} (h : ED ca X W e f) (he : ∀ whole, isTrue e X.env whole = (do let v ← whole; standAt e.pos; holding [v] (truthy v)) := by intro _; rfl) : EB ca X W e (fun ρ => (f ρ).bind asB) := by
  obtain ⟨te, p, h⟩ := h
  refine ⟨_, pt_val p he, fun H0 Fa ts us ρ σ H Q hl E o => ?_⟩
  refine h H0 Fa ts us ρ σ H _ hl E (o.bind.imp (fun x o v H2 F E2 i => ?_) fun n q => q)
  cases x with
  | bl b => exact ⟨b, is_bl.mp i, o H2 ⟨F, E2⟩⟩
  | _ => exact o.elim
theorem eb_not {f : Rn → Out Bool} (h : EB ca X W a f) : EB ca X W (.UnaryOp .Not a pos) (fun ρ => (f ρ).map (!·)) := by
  obtain ⟨te, p, h⟩ := h
  exact ⟨_, pt_not p, fun H0 Fa ts us ρ σ H Q hl E o => h H0 Fa ts us ρ σ H _ hl E (o.map.imp (fun b q H2 E2 => q H2 E2) fun _ z => z)⟩
theorem ew_and1 {f : Rn → Out Bool} (h : EB ca X W a f) : EW ca X W (.BoolOp .And [a] pos) f := let ⟨_, p, h⟩ := h; ⟨_, pw_and1 p, h⟩
theorem ew_or1 {f : Rn → Out Bool} (h : EB ca X W a f) : EW ca X W (.BoolOp .Or [a] pos) f := let ⟨_, p, h⟩ := h; ⟨_, pw_or1 p, h⟩
theorem ew_and {f g : Rn → Out Bool} {r : List Expr} (ha : EB ca X W a f) (hb : EW ca X W (.BoolOp .And (b :: r) pos) g) : EW ca X W (.BoolOp .And (a :: b :: r) pos) (fun ρ => (f ρ).bind fun x => if x then g ρ else .ok false) := by
  obtain ⟨ta, pa, ha⟩ := ha
  obtain ⟨tb, pb, hb⟩ := hb
  refine ⟨_, pw_and pa pb, fun H0 Fa ts us ρ σ H Q hl E o => ?_⟩
  refine ha H0 Fa ts us ρ σ H _ hl E (o.bind.imp (fun x o H2 E2 => ?_) fun n q => q)
  cases x with
  | true => exact hb H0 Fa ts us ρ σ H2 Q hl E2 o
  | false => exact o H2 E2
theorem ew_or {f g : Rn → Out Bool} {r : List Expr} (ha : EB ca X W a f) (hb : EW ca X W (.BoolOp .Or (b :: r) pos) g) : EW ca X W (.BoolOp .Or (a :: b :: r) pos) (fun ρ => (f ρ).bind fun x => if x then .ok true else g ρ) := by
  obtain ⟨ta, pa, ha⟩ := ha
  obtain ⟨tb, pb, hb⟩ := hb
  refine ⟨_, pw_or pa pb, fun H0 Fa ts us ρ σ H Q hl E o => ?_⟩
  refine ha H0 Fa ts us ρ σ H _ hl E (o.bind.imp (fun x o H2 E2 => ?_) fun n q => q)
  cases x with
  | true => exact o H2 E2
  | false => exact hb H0 Fa ts us ρ σ H2 Q hl E2 o
theorem eb_w {f : Rn → Out Bool} (h : EW ca X W e f) : EB ca X W e f := let ⟨_, p, h⟩ := h; ⟨_, p.pt, h⟩
/-- and, or, not as values: truths -/
theorem ed_one {op : BoolOp} {f : Rn → Out D} (h : ED ca X W a f) : ED ca X W (.BoolOp op [a] pos) f := let ⟨_, p, h⟩ := h; ⟨_, pe_one p, h⟩
theorem ed_and {f g : Rn → Out D} {r : List Expr} (ha : ED ca X W a f) (hb : ED ca X W (.BoolOp .And (b :: r) pos) g) : ED ca X W (.BoolOp .And (a :: b :: r) pos) (fun ρ => ((f ρ).bind asB).bind fun x => if x then g ρ else .ok (.bl false)) := by
  obtain ⟨ta, pa, ha⟩ := ha
  obtain ⟨tb, pb, hb⟩ := hb
  refine ⟨_, pe_and pa pb, fun H0 Fa ts us ρ σ H Q hl E o => ?_⟩
  refine ha H0 Fa ts us ρ σ H _ hl E (o.bind.bind.imp (fun x o v H2 F E2 i => ?_) fun n q => q)
  cases x with
  | bl x =>
    refine ⟨x, is_bl.mp i, ?_⟩
    cases x with
    | true => exact hb H0 Fa ts us ρ σ H2 Q hl ⟨F, E2⟩ o
    | false => exact o _ H2 F E2 (is_bl.mpr rfl)
  | _ => exact o.elim
theorem ed_or {f g : Rn → Out D} {r : List Expr} (ha : ED ca X W a f) (hb : ED ca X W (.BoolOp .Or (b :: r) pos) g) : ED ca X W (.BoolOp .Or (a :: b :: r) pos) (fun ρ => ((f ρ).bind asB).bind fun x => if x then .ok (.bl true) else g ρ) := by
  obtain ⟨ta, pa, ha⟩ := ha
  obtain ⟨tb, pb, hb⟩ := hb
  refine ⟨_, pe_or pa pb, fun H0 Fa ts us ρ σ H Q hl E o => ?_⟩
  refine ha H0 Fa ts us ρ σ H _ hl E (o.bind.bind.imp (fun x o v H2 F E2 i => ?_) fun n q => q)
  cases x with
  | bl x =>
    refine ⟨x, is_bl.mp i, ?_⟩
    cases x with
    | true => exact o _ H2 F E2 (is_bl.mpr rfl)
    | false => exact hb H0 Fa ts us ρ σ H2 Q hl ⟨F, E2⟩ o
  | _ => exact o.elim
theorem ed_not {f : Rn → Out D} (ha : ED ca X W a f) : ED ca X W (.UnaryOp .Not a pos) (fun ρ => ((f ρ).bind asB).map fun x => .bl (!x)) := by
  obtain ⟨ta, pa, ha⟩ := ha
  refine ⟨_, pe_not pa, fun H0 Fa ts us ρ σ H Q hl E o => ?_⟩
  refine ha H0 Fa ts us ρ σ H _ hl E (o.map.bind.imp (fun x o v H2 F E2 i => ?_) fun n q => q)
  cases x with
  | bl x => exact ⟨x, is_bl.mp i, o _ H2 F E2 (is_bl.mpr rfl)⟩
  | _ => exact o.elim
theorem ed_if {t : Rn → Out Bool} {f g : Rn → Out D} (hc : EB ca X W c t) (ha : ED ca X W a f) (hb : ED ca X W b g) : ED ca X W (.IfExp c a b pos) (fun ρ => (t ρ).bind fun x => if x then f ρ else g ρ) := by
  obtain ⟨tc, pc, hc⟩ := hc
  obtain ⟨ta, pa, ha⟩ := ha
  obtain ⟨tb, pb, hb⟩ := hb
  refine ⟨_, pe_ifExp pc pa pb, fun H0 Fa ts us ρ σ H Q hl E o => ?_⟩
  refine hc H0 Fa ts us ρ σ H _ hl E (o.bind.imp (fun x o H2 E2 => ?_) fun n q => q)
  cases x with
  | true => exact ha H0 Fa ts us ρ σ H2 Q hl E2 o
  | false => exact hb H0 Fa ts us ρ σ H2 Q hl E2 o

/-! ### arguments -/
theorem ea_nil : EA ca X W [] (fun _ => .ok []) := ⟨_, pa_nil, fun H0 Fa ts us ρ σ H Q hl ⟨F, E⟩ o => o [] H F E IsL.nil⟩
theorem ea_cons {es : List Expr} {f : Rn → Out D} {g : Rn → Out (List D)} (ha : ED ca X W e f) (hr : EA ca X W es g) (hs : starEach (e :: es) X.env = (false, eval e X.env) :: starEach es X.env := by rfl) :
    EA ca X W (e :: es) (fun ρ => (f ρ).bind fun x => (g ρ).map (x :: ·)) := by
  obtain ⟨ta, pa, ha⟩ := ha
  obtain ⟨tr, pr, hr⟩ := hr
  refine ⟨_, pa_cons pa pr hs, fun H0 Fa ts us ρ σ H Q hl E o => ?_⟩
  refine ha H0 Fa ts us ρ σ H _ hl E (o.bind.imp (fun x o v H2 F E2 i => ?_) fun n q => q)
  refine hr H0 Fa (some (.dat x) :: ts) (some v :: us) ρ σ H2 _ (by simp [hl]) ⟨F, E2.top i⟩ (o.map.imp (fun xs o vs H3 F E3 i' => ?_) fun n q a' H3 c E3 => q a' H3 c E3.pop)
  obtain ⟨E4, i⟩ := E3.popD
  exact o (v :: vs) H3 F E4 (IsL.cons i i')
/-- a tuple display -/
theorem ed_tup {es : List Expr} {f : Rn → Out (List D)} {x1 : Nat} (h : EA ca X W es f) : ED ca X W (.Tuple es x1 pos) (fun ρ => (f ρ).bind fun xs => if xs.length ≤ sizeLine then .ok (.tup xs) else .stuck) := by
  obtain ⟨t, p, h⟩ := h
  refine ⟨_, pe_tup p, fun H0 Fa ts us ρ σ H Q hl E o => ?_⟩
  refine h H0 Fa ts us ρ σ H _ hl E (o.bind.imp (fun xs o vs H2 F E2 i => ?_) fun n q => q)
  by_cases z : xs.length ≤ sizeLine
  · rw [if_pos z] at o
    refine ⟨by rw [← i.len]; exact z, fun p hp => o _ _ F (E2.go (Le.new hp) fun a ha => upd_ne fun e => ?_) (is_tup.mpr ⟨p, vs, rfl, ?_, i.le ((Le.new hp).cut (fun _ n _ => n) fun a ha => ?_)⟩)⟩
    · subst e; exact (E2.muG _ ha).ne hp
    · rw [cut_out fun z => (E2.muG _ z).ne hp]; exact upd_same
    · rw [upd_ne fun e => ?_]
      · exact (E2.muG a ha).ne
      · subst e; exact (E2.muG _ ha).ne hp
  · rw [if_neg z] at o; exact o.elim
/-- a list display: a new cell of data -/
theorem em_lst {es : List Expr} {f : Rn → Out (List D)} (h : EA ca X W es f) : EM ca X W (.List es pos) (fun ρ => (f ρ).bind fun xs => if xs.length ≤ sizeLine then .ok (.lst (xs.map .dat)) else .stuck) := by
  obtain ⟨t, p, h⟩ := h
  refine ⟨_, pe_lst p, fun H0 Fa ts us ρ σ H Q hl E o => ?_⟩
  refine h H0 Fa ts us ρ σ H _ hl E (o.bind.imp (fun xs o vs H2 F E2 i => ?_) fun n q => q)
  by_cases z : xs.length ≤ sizeLine
  · rw [if_pos z] at o
    refine ⟨by rw [← i.len]; exact z, fun p hp => o _ _ ⟨_, E2.push (F' := [p]) (Le.new hp) (fun a ha => upd_ne fun e => ?_) (by simp) (fun a ha => ?_) (ow_lst.mpr ⟨p, vs, [], rfl, upd_same, OwL.of_dats (i.le ((Le.new hp).cut (fun a n hn => ?_) fun a ha => ?_)), rfl⟩)⟩⟩
    · subst e; exact (E2.muG _ ha).ne hp
    · have e : a = p := by simpa using ha
      subst e; exact hp
    · simp only [List.mem_append, List.mem_cons, not_or, List.not_mem_nil, or_false] at n ⊢
      exact ⟨n.1, ⟨fun e => hn (by rw [e]; exact hp), n.2⟩⟩
    · by_cases e : a = p
      · subst e; rw [upd_same]; simp
      · rw [upd_ne e]
        refine (E2.muG a ?_).ne
        simp only [List.mem_append, List.mem_cons, List.not_mem_nil, or_false] at ha ⊢
        rcases ha with z | z | z
        · exact .inl z
        · exact absurd z e
        · exact .inr z
  · rw [if_neg z] at o; exact o.elim
end
end DA
set_option maxHeartbeats 4000000
/-! DA4: statements, loops, comprehensions, calls, defs -/
namespace DA
open PySem PySem.Spec PyProof.Rows L2

section
variable {ca : Str → Option Addr} {K : PySem.W.Frag} {H0 H H' : Hp} {Fa F F' : List Addr} {ρ ts : Rn} {σ us : L2.St} {m : M} {v : V} {d : D}
/-- a part of the stack is kept -/
theorem EnvF.part {A B C : Rn} {a b c : L2.St} (E : EnvF ca K H0 Fa (A ++ (B ++ C)) (a ++ (b ++ c)) H F) (h1 : A.length = a.length) (h2 : B.length = b.length) : Env ca K H0 Fa (A ++ C) (a ++ c) H := by
  obtain ⟨σ1, σ2, F1, F2, e1, rfl, r1, r2⟩ := E.own.unapp
  obtain ⟨σ3, σ4, F3, F4, e2, rfl, r3, r4⟩ := r2.unapp
  have l1 := r1.len
  have l3 := r3.len
  obtain ⟨x1, x2⟩ := List.append_inj e1 (by rw [← h1, l1])
  subst x1
  obtain ⟨x3, x4⟩ := List.append_inj (x2.trans e2) (by rw [← h2, l3])
  subst x3 x4
  have sub : ∀ a ∈ Fa ++ (F1 ++ F4), a ∈ Fa ++ (F1 ++ (F3 ++ F4)) := fun a ha => by
    simp only [List.mem_append] at ha ⊢
    rcases ha with z | z | z <;> simp [z]
  have ls := le_shrink (H := H) sub fun a ha => (E.muG a (sub a ha)).ne
  refine ⟨F1 ++ F4, E.re ?_ (fun a ha => ?_) ((r1.app r4).mono ls (fun _ _ => rfl) fun _ _ z => z)⟩
  · have nd := E.nd
    simp only [List.nodup_append, List.mem_append] at nd ⊢
    exact ⟨nd.1, nd.2.1.2.1, fun a ha b hb => nd.2.2 a ha b (.inr hb)⟩
  · simp only [List.mem_append] at ha ⊢
    rcases ha with z | z <;> simp [z]
theorem Env.part {A B C : Rn} {a b c : L2.St} (h1 : A.length = a.length) (h2 : B.length = b.length) : Env ca K H0 Fa (A ++ (B ++ C)) (a ++ (b ++ c)) H → Env ca K H0 Fa (A ++ C) (a ++ c) H := fun ⟨_, E⟩ => E.part h1 h2
theorem Env.tail {A C : Rn} {a c : L2.St} (h1 : A.length = a.length) (E : Env ca K H0 Fa (A ++ C) (a ++ c) H) : Env ca K H0 Fa C c H := Env.part (A := []) (a := []) rfl h1 E
theorem Env.only {o : Option M} {w : Option V} (E : Env ca K H0 Fa (o :: ρ) (w :: σ) H) : Env ca K H0 Fa [o] [w] H := by
  have l := Env.len E
  have q : Env ca K H0 Fa ([o] ++ (ρ ++ [])) ([w] ++ (σ ++ [])) H := by simpa using E
  simpa using Env.part (A := [o]) (a := [w]) (B := ρ) (b := σ) (C := []) (c := []) rfl (by simpa using l) q
theorem Env.head {A C : Rn} {a c : L2.St} (h1 : A.length = a.length) (E : Env ca K H0 Fa (A ++ C) (a ++ c) H) : Env ca K H0 Fa A a H := by
  have l := Env.len E
  have q : Env ca K H0 Fa (A ++ (C ++ [])) (a ++ (c ++ [])) H := by simpa using E
  simpa using Env.part (A := A) (a := a) (B := C) (b := c) (C := []) (c := []) h1 (by simp at l; omega) q
end

/-- what holds of the context that a body runs in -/
structure JX (X : Cx) (W : WX) (k : Nat) : Prop where
  calm : X.calm = true
  tk : Takes X W
  nd : X.N.Nodup
  own : PassesOwn (model X.prog X.w) X.A X.env X.xe
  room : Room k X.A

section
variable {ca : Str → Option Addr} {X : Cx} {W : WX} {e a b c : Expr} {pos : Pos} {st : Stmt} {sts : List Stmt} {s s' : Rn → SOut}
/-- one after another -/
def sSeq (s s' : Rn → SOut) (ρ : Rn) : SOut := (s ρ).bind fun p => match p.1 with
  | .nx => s' p.2
  | f => .ok (f, p.2)
theorem ss_nil : SSs ca X W [] (fun ρ => .ok (.nx, ρ)) := ⟨_, pss_nil, fun H0 Fa ts us ρ σ H D hl E o => o σ H E⟩
theorem ss_cons (h : SS ca X W st s) (r : SSs ca X W sts s') : SSs ca X W (st :: sts) (sSeq s s') := by
  obtain ⟨t, p, h⟩ := h
  obtain ⟨u, q, r⟩ := r
  refine ⟨_, pss_cons p q, fun H0 Fa ts us ρ σ H D hl E o => h H0 Fa ts us ρ σ H _ hl E ?_⟩
  unfold sSeq at o
  cases e : s ρ with
  | stuck => rw [e] at o; exact o
  | exc n => rw [e] at o; exact o
  | ok p =>
    obtain ⟨f, ρ'⟩ := p
    rw [e] at o
    cases f with
    | nx => exact fun σ' H2 E2 => r H0 Fa ts us ρ' σ' H2 D hl E2 o
    | bk => exact o
    | ct => exact o
    | rt m => exact o
theorem ss_one (h : SS ca X W st s) : SSs ca X W [st] s := let ⟨_, p, h⟩ := h; ⟨_, pss_one p, h⟩
theorem ss_pass : SS ca X W (.Pass pos) (fun ρ => .ok (.nx, ρ)) := ⟨_, ps_pass, fun H0 Fa ts us ρ σ H D hl E o => o σ H E⟩
theorem ss_brk : SS ca X W (.Break pos) (fun ρ => .ok (.bk, ρ)) := ⟨_, ps_break, fun H0 Fa ts us ρ σ H D hl E o => o σ H E⟩
theorem ss_cont : SS ca X W (.Continue pos) (fun ρ => .ok (.ct, ρ)) := ⟨_, ps_continue, fun H0 Fa ts us ρ σ H D hl E o => o σ H E⟩
/-- from an expression's answer to a statement's -/
theorem SPost.ofE {α : Type} {K : PySem.W.Frag} {H0 : Hp} {Fa : List Addr} {ts ρ : Rn} {us σ : L2.St} {D : Ends} {o : Out α} {f : α → SOut} {P : α → Prop} (h : SPost ca K W H0 Fa ts us D (o.bind f)) (hp : ∀ x, SPost ca K W H0 Fa ts us D (f x) → P x) :
    OutE o P (fun n => ∀ a H2, ca n = some a → Env ca K H0 Fa (ts ++ ρ) (us ++ σ) H2 → W (.ref a) none σ H2) := by
  cases o with
  | stuck => exact h
  | exc n => exact fun a H2 c E => h a σ H2 c (Env.frm E)
  | ok x => exact hp x h
def sSet (i : Nat) (f : Rn → Out M) (ρ : Rn) : SOut := (f ρ).bind fun m => if i < ρ.length then .ok (.nx, ρ.set i (some m)) else .stuck
theorem ss_set (i : Nat) {k : Nat} {x : Str} {p : Pos} {f : Rn → Out M} (J : JX X W k) (h : EM ca X W e f) (hi : X.N[i]? = some x := by rfl) (hx : Loc X.env.scope x := by first | exact Or.inl rfl | exact Or.inr rfl) (hs : swapsWith e (some (.Name x p)) pos.line X.env = pure false := by rfl)
    (hf : X.fn x = true ∨ X.env.scope.names.lookup x = some .local := by first | exact .inl rfl | exact .inr rfl) : SS ca X W (.Assign [.Name x p] e pos) (sSet i f) := by
  obtain ⟨te, pe, h⟩ := h
  refine ⟨_, ps_set J.nd hi hx pe hs hf, fun H0 Fa ts us ρ σ H D hl E o => h H0 Fa ts us ρ σ H _ hl E (SPost.ofE o fun m o v H2 E2 => ?_)⟩
  by_cases z : i < ρ.length
  · rw [if_pos z] at o
    refine o _ H2 ?_
    obtain ⟨F, E3⟩ := E2
    have q := E3.store (i := ts.length + i) (by simp; omega)
    rw [drop_set] at q
    rw [hl, drop_set] at q
    exact q
  · rw [if_neg z] at o; exact o.elim
def sRet (f : Rn → Out M) (ρ : Rn) : SOut := (f ρ).bind fun m => .ok (.rt m, ρ)
theorem ss_ret {f : Rn → Out M} (h : EM ca X W e f) : SS ca X W (.Return (some e) pos) (sRet f) := by
  obtain ⟨te, pe, h⟩ := h
  exact ⟨_, ps_ret pe, fun H0 Fa ts us ρ σ H D hl E o => h H0 Fa ts us ρ σ H _ hl E (SPost.ofE o fun m o v H2 E2 => o v H2 E2.only)⟩
theorem ss_retN : SS ca X W (.Return none pos) (fun ρ => .ok (.rt (.dat .non), ρ)) := by
  refine ⟨_, ps_retN, fun H0 Fa ts us ρ σ H D hl E o => ?_⟩
  obtain ⟨F, E⟩ := E
  exact o .non H (Env.only ⟨F, E.top (d := .non) (is_non.mpr rfl)⟩)
def sDrop (f : Rn → Out M) (ρ : Rn) : SOut := (f ρ).bind fun _ => .ok (.nx, ρ)
theorem ss_expr {f : Rn → Out M} (h : EM ca X W e f) (hs : swapsWith e none pos.line X.env = pure false := by rfl) : SS ca X W (.Expr e pos) (sDrop f) := by
  obtain ⟨te, pe, h⟩ := h
  exact ⟨_, ps_expr pe hs, fun H0 Fa ts us ρ σ H D hl E o => h H0 Fa ts us ρ σ H _ hl E (SPost.ofE o fun m o v H2 E2 => o σ H2 E2.pop)⟩
def sIf (t : Rn → Out Bool) (s s' : Rn → SOut) (ρ : Rn) : SOut := (t ρ).bind fun x => if x then s ρ else s' ρ
theorem ss_if {t : Rn → Out Bool} {st1 st2 : List Stmt} (hc : EB ca X W c t) (ha : SSs ca X W st1 s) (hb : SSs ca X W st2 s') : SS ca X W (.If c st1 st2 pos) (sIf t s s') := by
  obtain ⟨tc, pc, hc⟩ := hc
  obtain ⟨ta, pa, ha⟩ := ha
  obtain ⟨tb, pb, hb⟩ := hb
  refine ⟨_, ps_if pc pa pb, fun H0 Fa ts us ρ σ H D hl E o => hc H0 Fa ts us ρ σ H _ hl E (SPost.ofE o fun x o H2 E2 => ?_)⟩
  cases x with
  | true => exact ha H0 Fa ts us ρ σ H2 D hl E2 o
  | false => exact hb H0 Fa ts us ρ σ H2 D hl E2 o
/-- raise C('..'), C a class of the program's own -/
theorem ss_raise {k : Nat} {C : Addr} {n : Str} {p : Expr} {t : L2.St → Hp → XK → Prop} (J : JX X W k) (hC : ca n = some C) (hp : PMk X p t) (ht : ∀ σ H Q, t σ H Q = Q (.ref C) none H) : SS ca X W (.Raise (some p) none pos) (fun _ => .exc n) := by
  refine ⟨_, ps_raise J.calm J.tk hp, fun H0 Fa ts us ρ σ H D hl E o => ?_⟩
  show t σ H _
  rw [ht]
  exact o C σ H hC (Env.frm E)

/-! ### targets -/
/-- besides: only the slots at is are set -/
def TgI (ca : Str → Option Addr) (K : PySem.W.Frag) (t : TG) (is : List Nat) (g : D → Rn → Out Rn) : Prop := ∀ (H0 : Hp) (Fa : List Addr) (ts : Rn) (us : L2.St) (ρ : Rn) (σ : L2.St) (H : Hp) (F : List Addr) (d : D) (v : V) (Q : L2.St → Hp → Prop), ts.length = us.length → EnvF ca K H0 Fa (ts ++ ρ) (us ++ σ) H F → Is ca K (cut H (Fa ++ F)) d v →
  OutE (g d ρ) (fun ρ' => ∀ σ' H2, Env ca K H0 Fa (ts ++ ρ') (us ++ σ') H2 → σ'.length = σ.length → (∀ j, j ∉ is → σ'[j]? = σ[j]?) → Q σ' H2) (fun _ => False) → t v σ H Q
def TGi (ca : Str → Option Addr) (X : Cx) (e : Expr) (is : List Nat) (g : D → Rn → Out Rn) : Prop := ∃ t, PG X e t ∧ TgI ca X.K t is g
def gSet (i : Nat) (d : D) (ρ : Rn) : Out Rn := if i < ρ.length then .ok (ρ.set i (some (.dat d))) else .stuck
theorem tg_name (i : Nat) {x : Str} (nd : X.N.Nodup) (hi : X.N[i]? = some x := by rfl) (hx : Loc X.env.scope x := by first | exact Or.inl rfl | exact Or.inr rfl) (hf : X.fn x = true ∨ X.env.scope.names.lookup x = some .local := by first | exact .inl rfl | exact .inr rfl) : TGi ca X (.Name x pos) [i] (gSet i) := by
  refine ⟨_, pg_name nd hi hx hf, fun H0 Fa ts us ρ σ H F d v Q hl E i1 o => ?_⟩
  unfold gSet at o
  by_cases z : i < ρ.length
  · rw [if_pos z] at o
    refine o _ H ?_ (by simp) fun j hj => ?_
    · have q := (E.top i1).store (i := ts.length + i) (by simp; omega)
      rw [drop_set] at q
      rw [hl, drop_set] at q
      exact q
    · rw [List.getElem?_set_ne]
      intro e; subst e; simp at hj
  · rw [if_neg z] at o; exact o.elim
def TgsI (ca : Str → Option Addr) (K : PySem.W.Frag) (t : TGs) (is : List Nat) (g : List D → Rn → Out Rn) : Prop := ∀ (H0 : Hp) (Fa : List Addr) (ts : Rn) (us : L2.St) (ρ : Rn) (σ : L2.St) (H : Hp) (F : List Addr) (ds : List D) (vs : List V) (Q : L2.St → Hp → Prop), ts.length = us.length → EnvF ca K H0 Fa (ts ++ ρ) (us ++ σ) H F → IsL ca K (cut H (Fa ++ F)) ds vs →
  OutE (g ds ρ) (fun ρ' => ∀ σ' H2, Env ca K H0 Fa (ts ++ ρ') (us ++ σ') H2 → σ'.length = σ.length → (∀ j, j ∉ is → σ'[j]? = σ[j]?) → Q σ' H2) (fun _ => False) → t vs σ H Q
def TGsi (ca : Str → Option Addr) (X : Cx) (es : List Expr) (is : List Nat) (g : List D → Rn → Out Rn) : Prop := ∃ t, PGs X es t ∧ TgsI ca X.K t is g
def gsNil (ds : List D) (ρ : Rn) : Out Rn := match ds with | [] => .ok ρ | _ => .stuck
def gsCons (g : D → Rn → Out Rn) (r : List D → Rn → Out Rn) (ds : List D) (ρ : Rn) : Out Rn := match ds with | [] => .stuck | d :: ds => (g d ρ).bind (r ds)
theorem tgs_nil : TGsi ca X [] [] gsNil := by
  refine ⟨_, pgs_nil, fun H0 Fa ts us ρ σ H F ds vs Q hl E i1 o => ?_⟩
  cases ds with
  | nil => exact ⟨isL_nil.mp i1, o σ H ⟨F, E⟩ rfl fun _ _ => rfl⟩
  | cons d ds => exact o.elim
/-- many data on the stack -/
theorem EnvF.tops {K : PySem.W.Frag} {H0 H : Hp} {Fa F : List Addr} {ρ : Rn} {σ : L2.St} (E : EnvF ca K H0 Fa ρ σ H F) : ∀ {ds : List D} {vs : List V}, IsL ca K (cut H (Fa ++ F)) ds vs → EnvF ca K H0 Fa ((ds.map fun d => some (.dat d)) ++ ρ) (vs.map some ++ σ) H F
  | [], _, h => by rw [isL_nil.mp h]; exact E
  | d :: ds, _, h => by
    obtain ⟨v, vs', rfl, h, r⟩ := isL_cons.mp h
    exact (EnvF.tops E r).top h
theorem EnvF.untops {K : PySem.W.Frag} {H0 H : Hp} {Fa F : List Addr} {ρ : Rn} {σ : L2.St} : ∀ {ds : List D} {vs : List V}, ds.length = vs.length → EnvF ca K H0 Fa ((ds.map fun d => some (.dat d)) ++ ρ) (vs.map some ++ σ) H F → EnvF ca K H0 Fa ρ σ H F ∧ IsL ca K (cut H (Fa ++ F)) ds vs
  | [], [], _, E => ⟨E, IsL.nil⟩
  | d :: ds, v :: vs, hl, E => by
    obtain ⟨E1, i⟩ := EnvF.popD (ρ := (ds.map fun d => some (.dat d)) ++ ρ) (σ := vs.map some ++ σ) E
    obtain ⟨E2, r⟩ := EnvF.untops (ds := ds) (vs := vs) (by simpa using hl) E1
    exact ⟨E2, IsL.cons i r⟩
  | [], v :: vs, hl, _ => by simp at hl
  | d :: ds, [], hl, _ => by simp at hl
theorem tgs_cons {es : List Expr} {is js : List Nat} {g : D → Rn → Out Rn} {r : List D → Rn → Out Rn} (h : TGi ca X e is g) (hr : TGsi ca X es js r) (hs : (assignEach (e :: es) X.env).map (·.2) = assign e X.env :: (assignEach es X.env).map (·.2) := by rfl) :
    TGsi ca X (e :: es) (is ++ js) (gsCons g r) := by
  obtain ⟨t, p, h⟩ := h
  obtain ⟨u, q, hr⟩ := hr
  refine ⟨_, pgs_cons p q hs, fun H0 Fa ts us ρ σ H F ds vs Q hl E i1 o => ?_⟩
  cases ds with
  | nil => exact o.elim
  | cons d ds =>
    obtain ⟨v, vs', rfl, i2, ir⟩ := isL_cons.mp i1
    have ln := ir.len
    refine ⟨v, vs', rfl, ?_⟩
    have E2 := E.tops ir
    have i3 : Is ca X.K (cut H (Fa ++ F)) d v := i2
    refine h H0 Fa ((ds.map fun d => some (.dat d)) ++ ts) (vs'.map some ++ us) ρ σ H F d v _ (by simp [hl, ln]) (by rw [List.append_assoc, List.append_assoc]; exact E2) i3 (OutE.bind o |>.imp (fun ρ' o σ' H2 E3 l3 k3 => ?_) fun _ z => z)
    rw [List.append_assoc, List.append_assoc] at E3
    obtain ⟨F3, E3⟩ := E3
    obtain ⟨E4, ir'⟩ := EnvF.untops ln E3
    refine hr H0 Fa ts us ρ' σ' H2 F3 ds vs' Q hl E4 ir' (o.imp (fun ρ2 o σ2 H3 E5 l5 k5 => o σ2 H3 E5 (l5.trans l3) fun j hj => ?_) fun _ z => z)
    simp only [List.mem_append, not_or] at hj
    exact (k5 j hj.2).trans (k3 j hj.1)
def gTupD (n : Nat) (g : List D → Rn → Out Rn) (d : D) (ρ : Rn) : Out Rn := match d with
  | .tup ds => if ds.length = n then g ds ρ else .stuck
  | _ => .stuck
theorem tg_tup {es : List Expr} {is : List Nat} {n k : Nat} {g : List D → Rn → Out Rn} (hc : X.calm = true) (h : TGsi ca X es is g) (hn : (assignEach es X.env).length = n := by rfl) (hst : (assignEach es X.env).findIdx? (·.1) = none := by rfl) :
    TGi ca X (.Tuple es k pos) is (gTupD n g) := by
  obtain ⟨t, p, h⟩ := h
  refine ⟨_, pg_tup hc p hn hst, fun H0 Fa ts us ρ σ H F d v Q hl E i1 o => ?_⟩
  unfold gTupD at o
  cases d with
  | tup ds =>
    by_cases z : ds.length = n
    · simp only [z, if_true] at o
      obtain ⟨a, vs, rfl, ha, r⟩ := is_tup.mp i1
      exact ⟨a, vs, rfl, .inl (.inl (cut_some ha).2), by rw [← r.len]; exact z, h H0 Fa ts us ρ σ H F ds vs Q hl E r o⟩
    · simp only [z, if_false] at o; exact o.elim
  | _ => exact o.elim

/-! ### what is walked -/
/-- the iterator J gives the data ds, while what is told of ms at vs stands -/
def ItOk (ca : Str → Option Addr) (K : PySem.W.Frag) (J : It) (ds : List D) (ms : Rn) (vs : L2.St) : Prop := ∀ (H0 : Hp) (Fa : List Addr) (pre : Rn) (pus : L2.St) (ρ : Rn) (σ : L2.St) (H : Hp) (F : List Addr) (i : Nat), pre.length = pus.length → EnvF ca K H0 Fa (pre ++ (ms ++ ρ)) (pus ++ (vs ++ σ)) H F →
  (∀ d, ds[i]? = some d → J.go i H ∧ ∀ x H', J.yld i H x H' → EnvF ca K H0 Fa (pre ++ (ms ++ ρ)) (pus ++ (vs ++ σ)) H' F ∧ Is ca K (cut H' (Fa ++ F)) d x) ∧ (ds.length ≤ i → J.stop i H)
/-- the data at a place of the stack -/
theorem EnvF.at0 {K : PySem.W.Frag} {H0 H : Hp} {Fa F : List Addr} {pre ρ : Rn} {pus σ : L2.St} {d : D} {v : V} (E : EnvF ca K H0 Fa (pre ++ (some (.dat d) :: ρ)) (pus ++ (some v :: σ)) H F) (hl : pre.length = pus.length) : Is ca K (cut H (Fa ++ F)) d v := by
  obtain ⟨v', e, i⟩ := E.get (i := pre.length + 0) (by rw [drop_get]; rfl)
  rw [hl, drop_get] at e
  injection e with e
  injection e with e
  subst e
  exact i
theorem EnvF.at1 {K : PySem.W.Frag} {H0 H : Hp} {Fa F : List Addr} {pre ρ : Rn} {pus σ : L2.St} {d : D} {v : V} {o : Option M} {w : Option V} (E : EnvF ca K H0 Fa (pre ++ (o :: some (.dat d) :: ρ)) (pus ++ (w :: some v :: σ)) H F) (hl : pre.length = pus.length) : Is ca K (cut H (Fa ++ F)) d v := by
  obtain ⟨v', e, i⟩ := E.get (i := pre.length + 1) (by rw [drop_get]; rfl)
  rw [hl, drop_get] at e
  injection e with e
  injection e with e
  subst e
  exact i
def ItM (ca : Str → Option Addr) (K : PySem.W.Frag) (W : WX) (wi : TI) (f : Rn → Out (List D)) : Prop := ∀ (H0 : Hp) (Fa : List Addr) (ts : Rn) (us : L2.St) (ρ : Rn) (σ : L2.St) (H : Hp) (R : It → Hp → Prop), ts.length = us.length → Env ca K H0 Fa (ts ++ ρ) (us ++ σ) H →
  OutE (f ρ) (fun ds => ∀ J H2 ms vs, ms.length = vs.length → Env ca K H0 Fa (ms ++ (ts ++ ρ)) (vs ++ (us ++ σ)) H2 → ItOk ca K J ds ms vs → R J H2) (fun n => ∀ a H2, ca n = some a → Env ca K H0 Fa (ts ++ ρ) (us ++ σ) H2 → W (.ref a) none σ H2) → wi σ H R
def EI (ca : Str → Option Addr) (X : Cx) (W : WX) (tg e : Expr) (f : Rn → Out (List D)) : Prop := ∃ wi, PI X tg e wi ∧ ItM ca X.K W wi f
theorem PI.or {tg : Expr} {w1 w2 : TI} (h1 : PI X tg e w1) (h2 : PI X tg e w2) : PI X tg e (fun σ H R => w1 σ H R ∨ w2 σ H R) := ⟨fun pins s σ H R I h => h.elim (h1.run pins s σ H R I) (h2.run pins s σ H R I)⟩
def seqOf : D → Out (List D)
  | .lst ds => .ok ds
  | .tup ds => .ok ds
  | _ => .stuck
theorem itOk_list {K : PySem.W.Frag} {a : Addr} {ds : List D} : ItOk ca K (Itl K a) ds [some (.dat (.lst ds))] [some (.ref a)] := by
  intro H0 Fa pre pus ρ σ H F i hp E
  have i1 := EnvF.at0 E hp
  obtain ⟨a', vs, ea, hq, r⟩ := is_lst.mp (E.whole i1)
  cases ea
  obtain ⟨a', vs', ea, hq', r'⟩ := is_lst.mp i1
  cases ea
  refine ⟨fun d hd => ?_, fun h => ⟨vs, hq, by rw [← r.len]; exact h⟩⟩
  obtain ⟨x, hx, _⟩ := r.get hd
  refine ⟨⟨vs, x, hq, hx⟩, fun y H' ⟨eH, hy⟩ => ?_⟩
  subst eH
  refine ⟨E, ?_⟩
  obtain ⟨z, hz, iz⟩ := r'.get hd
  have q : SqL K H' a vs' := by
    rcases hq' with h | h
    · exact .inl (rd_cut h).2
    · exact .inr h
  have e := hy vs' q
  rw [hz] at e
  cases e
  exact iz
theorem itOk_tup {K : PySem.W.Frag} {a : Addr} {ds : List D} : ItOk ca K (Itt K a) ds [some (.dat (.tup ds))] [some (.ref a)] := by
  intro H0 Fa pre pus ρ σ H F i hp E
  have i1 := EnvF.at0 E hp
  obtain ⟨a', vs', ea, hq', r'⟩ := is_tup.mp i1
  cases ea
  have hq : H a = some (.tup vs') := (cut_some hq').2
  refine ⟨fun d hd => ?_, fun h => ⟨vs', .inl (.inl hq), by rw [← r'.len]; exact h⟩⟩
  obtain ⟨x, hx, ix⟩ := r'.get hd
  refine ⟨⟨vs', x, .inl (.inl hq), hx⟩, fun y H' ⟨eH, hy⟩ => ?_⟩
  subst eH
  refine ⟨E, ?_⟩
  have e := hy vs' (.inl (.inl hq))
  rw [hx] at e
  cases e
  exact ix
theorem ei_seq {tg : Expr} {f : Rn → Out D} (h : ED ca X W e f) : EI ca X W tg e (fun ρ => (f ρ).bind seqOf) := by
  obtain ⟨te, p, h⟩ := h
  refine ⟨_, PI.or (pi_list p) (pi_tup p), fun H0 Fa ts us ρ σ H R hl E o => ?_⟩
  dsimp only at o
  cases ef : f ρ with
  | stuck => rw [ef] at o; exact o.elim
  | exc n =>
    rw [ef] at o
    exact .inl (h H0 Fa ts us ρ σ H _ hl E (by rw [ef]; exact o))
  | ok d =>
    rw [ef] at o
    cases d with
    | lst ds =>
      refine .inl (h H0 Fa ts us ρ σ H _ hl E (by
        rw [ef]
        intro v H2 F E2 i
        obtain ⟨a, vs, rfl, hq, r⟩ := is_lst.mp (E2.whole i)
        exact ⟨a, rfl, ⟨vs, hq⟩, o (Itl X.K a) H2 [some (.dat (.lst ds))] [some (.ref a)] rfl ⟨F, E2.top i⟩ itOk_list⟩))
    | tup ds =>
      refine .inr (h H0 Fa ts us ρ σ H _ hl E (by
        rw [ef]
        intro v H2 F E2 i
        obtain ⟨a, vs, rfl, hq, r⟩ := is_tup.mp (E2.whole i)
        exact ⟨a, rfl, ⟨vs, .inl (.inl hq)⟩, o (Itt X.K a) H2 [some (.dat (.tup ds))] [some (.ref a)] rfl ⟨F, E2.top i⟩ itOk_tup⟩))
    | _ => exact o.elim

/-! ### for -/
/-- behind a turn: k is the rest of the loop -/
def loopK (k : Rn → SOut) (p : Fl × Rn) : SOut := match p.1 with
  | .nx => k p.2
  | .ct => k p.2
  | .bk => .ok (.nx, p.2)
  | .rt m => .ok (.rt m, p.2)
def forD (tg : D → Rn → Out Rn) (body : Rn → SOut) : List D → Rn → SOut
  | [], ρ => .ok (.nx, ρ)
  | d :: ds, ρ => (tg d ρ).nx.bind fun ρ1 => (body ρ1).bind (loopK (forD tg body ds))
def sFor (f : Rn → Out (List D)) (tg : D → Rn → Out Rn) (body : Rn → SOut) (ρ : Rn) : SOut := (f ρ).bind fun ds => forD tg body ds ρ
theorem TgI.run {K : PySem.W.Frag} {t : TG} {is : List Nat} {g : D → Rn → Out Rn} (h : TgI ca K t is g) {H0 : Hp} {Fa : List Addr} {ts : Rn} {us : L2.St} {ρ : Rn} {σ : L2.St} {H : Hp} {F : List Addr} {d : D} {v : V} {Q : L2.St → Hp → Prop} (hl : ts.length = us.length)
    (E : EnvF ca K H0 Fa (ts ++ ρ) (us ++ σ) H F) (i : Is ca K (cut H (Fa ++ F)) d v) {Y : Str → Prop} (o : OutE (g d ρ).nx (fun ρ' => ∀ σ' H2, Env ca K H0 Fa (ts ++ ρ') (us ++ σ') H2 → σ'.length = σ.length → (∀ j, j ∉ is → σ'[j]? = σ[j]?) → Q σ' H2) Y) : t v σ H Q := by
  refine h H0 Fa ts us ρ σ H F d v Q hl E i ?_
  cases e : g d ρ with
  | stuck => rw [e] at o; exact o
  | exc n => rw [e] at o; exact o
  | ok x => rw [e] at o; exact o
theorem ss_for {k : Nat} {tg iter : Expr} {body : List Stmt} {is : List Nat} {f : Rn → Out (List D)} {g : D → Rn → Out Rn} (J : JX X W k) (hi : EI ca X W tg iter f) (hg : TGi ca X tg is g) (hb : SSs ca X W body s) (hs : ∀ x, foldedSetIterable iter X.env x = pure x := by intro _; rfl) :
    SS ca X W (.For tg iter body [] pos) (sFor f g s) := by
  obtain ⟨wi, pi, hi⟩ := hi
  obtain ⟨tt, pg, hg⟩ := hg
  obtain ⟨tb, pb, hb⟩ := hb
  refine ⟨_, ps_for J.own J.calm pi pg pb hs, fun H0 Fa ts us ρ σ H D hl E o => hi H0 Fa ts us ρ σ H _ hl E (SPost.ofE o fun ds o Jt H2 ms vs hm E2 ok => ?_)⟩
  refine ⟨fun i n σ' H' => ∃ ρ', n = ds.length - i ∧ Env ca X.K H0 Fa (ms ++ (ts ++ ρ')) (vs ++ (us ++ σ')) H' ∧ SPost ca X.K W H0 Fa ts us D (forD g s (ds.drop i) ρ'), ⟨_, ρ, rfl, E2, o⟩, ?_⟩
  rintro i n σ' H' ⟨ρ', rfl, ⟨F, E'⟩, o⟩
  obtain ⟨hgo, hstop⟩ := ok H0 Fa [] [] (ts ++ ρ') (us ++ σ') H' F i rfl E'
  by_cases hlt : i < ds.length
  · have hd : ds[i]? = some ds[i] := List.getElem?_eq_getElem hlt
    obtain ⟨go, yl⟩ := hgo _ hd
    refine .inr ⟨go, fun σ2 H2 => ∃ ρ2, Env ca X.K H0 Fa (ms ++ (ts ++ ρ2)) (vs ++ (us ++ σ2)) H2 ∧ SPost ca X.K W H0 Fa ts us D (forD g s (ds.drop (i + 1)) ρ2), fun σ2 H2 ⟨ρ2, E3, o3⟩ => ⟨ds.length - (i + 1), by omega, ρ2, rfl, E3, o3⟩, fun x H3 hy => ?_⟩
    obtain ⟨E3, i3⟩ := yl x H3 hy
    have E3 : EnvF ca X.K H0 Fa (ms ++ (ts ++ ρ')) (vs ++ (us ++ σ')) H3 F := E3
    rw [List.drop_eq_getElem_cons hlt] at o
    unfold forD at o
    refine hg.run (ts := ms ++ ts) (us := vs ++ us) (by simp [hl, hm]) (by rw [List.append_assoc, List.append_assoc]; exact E3) i3 ((SPost.ofE (ρ := ρ) (σ := σ) o fun ρ1 o σ1 H4 E4 _ _ => ?_))
    refine hb H0 Fa (ms ++ ts) (vs ++ us) ρ1 σ1 H4 _ (by simp [hl, hm]) E4 ?_
    cases e : s ρ1 with
    | stuck => rw [e] at o; exact o
    | exc n => rw [e] at o; exact o
    | ok p =>
      obtain ⟨fl, ρ2⟩ := p
      rw [e] at o
      cases fl with
      | nx =>
        intro σ2 H5 E5
        rw [List.append_assoc, List.append_assoc] at E5
        exact ⟨ρ2, E5, o⟩
      | ct =>
        intro σ2 H5 E5
        rw [List.append_assoc, List.append_assoc] at E5
        exact ⟨ρ2, E5, o⟩
      | bk =>
        intro σ2 H5 E5
        rw [List.append_assoc, List.append_assoc] at E5
        exact o σ2 H5 (E5.tail hm)
      | rt m => exact o
  · refine .inl ⟨hstop (by omega), ?_⟩
    rw [List.drop_eq_nil_of_le (by omega)] at o
    exact o σ' H' (Env.tail hm ⟨F, E'⟩)

/-! ### while -/
def whN (c : Rn → Out Bool) (b : Rn → SOut) : Nat → Rn → SOut
  | 0, _ => .stuck
  | n + 1, ρ => (c ρ).bind fun t => if t then (b ρ).bind (loopK (whN c b n)) else .ok (.nx, ρ)
theorem whN_up {c : Rn → Out Bool} {b : Rn → SOut} : ∀ (n : Nat) (ρ : Rn), whN c b n ρ ≠ .stuck → whN c b (n + 1) ρ = whN c b n ρ
  | 0, ρ, h => absurd rfl h
  | n + 1, ρ, h => by
    unfold whN at h ⊢
    cases ec : c ρ with
    | stuck => rfl
    | exc x => rfl
    | ok t =>
      rw [ec] at h
      cases t with
      | false => rfl
      | true =>
        simp only [bind_ok, if_true] at h ⊢
        cases eb : b ρ with
        | stuck => rfl
        | exc x => rfl
        | ok p =>
          obtain ⟨fl, ρ2⟩ := p
          rw [eb] at h
          simp only [bind_ok, loopK] at h ⊢
          cases fl with
          | nx => exact whN_up n ρ2 h
          | ct => exact whN_up n ρ2 h
          | bk => rfl
          | rt m => rfl
theorem whN_le {c : Rn → Out Bool} {b : Rn → SOut} {ρ : Rn} {n : Nat} (h : whN c b n ρ ≠ .stuck) : ∀ k, whN c b (n + k) ρ = whN c b n ρ
  | 0 => rfl
  | k + 1 => by
    have ih := whN_le h k
    rw [← ih, ← Nat.add_assoc]
    exact whN_up (n + k) ρ (by rw [ih]; exact h)
open Classical in
noncomputable def whD (c : Rn → Out Bool) (b : Rn → SOut) (ρ : Rn) : SOut := if h : ∃ n, whN c b n ρ ≠ .stuck then whN c b (Classical.choose h) ρ else .stuck
theorem whD_of {c : Rn → Out Bool} {b : Rn → SOut} {ρ : Rn} {n : Nat} (h : whN c b n ρ ≠ .stuck) : whD c b ρ = whN c b n ρ := by
  have hx : ∃ n, whN c b n ρ ≠ .stuck := ⟨n, h⟩
  unfold whD
  rw [dif_pos hx]
  have h2 := Classical.choose_spec hx
  generalize Classical.choose hx = k at h2
  rcases Nat.le_total n k with l | l
  · obtain ⟨j, rfl⟩ := Nat.exists_eq_add_of_le l
    exact whN_le h j
  · obtain ⟨j, rfl⟩ := Nat.exists_eq_add_of_le l
    exact (whN_le h2 j).symm
theorem whD_no {c : Rn → Out Bool} {b : Rn → SOut} {ρ : Rn} (h : ∀ n, whN c b n ρ = .stuck) : whD c b ρ = .stuck := by
  unfold whD
  rw [dif_neg (fun ⟨n, hn⟩ => hn (h n))]
/-- one turn -/
theorem whD_eq (c : Rn → Out Bool) (b : Rn → SOut) (ρ : Rn) : whD c b ρ = (c ρ).bind fun t => if t then (b ρ).bind (loopK (whD c b)) else .ok (.nx, ρ) := by
  have step : ∀ n, whN c b (n + 1) ρ = (c ρ).bind fun t => if t then (b ρ).bind (loopK (whN c b n)) else .ok (.nx, ρ) := fun n => by rw [whN]
  have fin : ∀ o : SOut, (∀ n, whN c b (n + 1) ρ = o) → whD c b ρ = o := fun o h => by
    by_cases z : o = .stuck
    · subst z
      exact whD_no fun n => match n with | 0 => rfl | n + 1 => h n
    · have e := h 0
      exact (whD_of (n := 1) (by rw [e]; exact z)).trans e
  cases ec : c ρ with
  | stuck => exact fin _ fun n => by rw [step, ec]; rfl
  | exc x => exact fin _ fun n => by rw [step, ec]; rfl
  | ok t =>
    cases t with
    | false => exact fin _ fun n => by rw [step, ec]; rfl
    | true =>
      cases eb : b ρ with
      | stuck => exact fin _ fun n => by rw [step, ec, bind_ok, if_pos rfl, eb]; rfl
      | exc x => exact fin _ fun n => by rw [step, ec, bind_ok, if_pos rfl, eb]; rfl
      | ok p =>
        obtain ⟨fl, ρ2⟩ := p
        have st : ∀ n, whN c b (n + 1) ρ = loopK (whN c b n) (fl, ρ2) := fun n => by rw [step, ec, bind_ok, if_pos rfl, eb]; rfl
        have go : (∀ n, whN c b (n + 1) ρ = whN c b n ρ2) → whD c b ρ = whD c b ρ2 := fun hh => by
          by_cases z : ∃ n, whN c b n ρ2 ≠ .stuck
          · obtain ⟨n, hn⟩ := z
            rw [whD_of hn, whD_of (n := n + 1) (by rw [hh]; exact hn), hh]
          · have z' : ∀ n, whN c b n ρ2 = .stuck := fun n => Classical.byContradiction fun q => z ⟨n, q⟩
            rw [whD_no z', whD_no fun n => match n with | 0 => rfl | n + 1 => (hh n).trans (z' n)]
        rw [bind_ok, if_pos rfl, bind_ok]
        cases fl with
        | nx => exact go st
        | ct => exact go st
        | bk => exact fin _ st
        | rt m => exact fin _ st
theorem ss_while {k : Nat} {t : Rn → Out Bool} {body : List Stmt} (J : JX X W k) (hc : EB ca X W c t) (hb : SSs ca X W body s) : SS ca X W (.While c body [] pos) (whD t s) := by
  obtain ⟨tc, pc, hc⟩ := hc
  obtain ⟨tb, pb, hb⟩ := hb
  refine ⟨_, ps_while J.own pc pb, fun H0 Fa ts us ρ σ H D hl E o => ?_⟩
  have hx : ∃ n, whN t s n ρ ≠ .stuck := Classical.byContradiction fun z => by
    rw [whD_no fun n => Classical.byContradiction fun q => z ⟨n, q⟩] at o
    exact o
  obtain ⟨n0, hn0⟩ := hx
  rw [whD_of hn0] at o
  refine ⟨fun n σ' H' => ∃ ρ', Env ca X.K H0 Fa (ts ++ ρ') (us ++ σ') H' ∧ SPost ca X.K W H0 Fa ts us D (whN t s n ρ'), ⟨n0, ρ, E, o⟩, ?_⟩
  rintro n σ' H' ⟨ρ', E', o⟩
  cases n with
  | zero => exact o.elim
  | succ n =>
    unfold whN at o
    refine hc H0 Fa ts us ρ' σ' H' _ hl E' (SPost.ofE o fun x o H2 E2 => ?_)
    cases x with
    | false => exact o σ' H2 E2
    | true =>
      rw [if_pos rfl] at o ⊢
      refine ⟨fun σ2 H2 => ∃ ρ2, Env ca X.K H0 Fa (ts ++ ρ2) (us ++ σ2) H2 ∧ SPost ca X.K W H0 Fa ts us D (whN t s n ρ2), fun σ2 H3 h => ⟨n, Nat.lt_succ_self n, h⟩, ?_⟩
      refine hb H0 Fa ts us ρ' σ' H2 _ hl E2 ?_
      cases e : s ρ' with
      | stuck => rw [e] at o; exact o
      | exc n => rw [e] at o; exact o
      | ok p =>
        obtain ⟨fl, ρ2⟩ := p
        rw [e] at o
        cases fl with
        | nx => exact fun σ2 H5 E5 => ⟨ρ2, E5, o⟩
        | ct => exact fun σ2 H5 E5 => ⟨ρ2, E5, o⟩
        | bk => exact o
        | rt m => exact o
end
end DA
set_option maxHeartbeats 4000000
/-! DA5: defs, calls; appends; comprehensions -/
namespace DA
open PySem PySem.Spec PyProof.Rows L2

/-! ### a def's promise -/
/-- the def is worth f: handed data, it hands back what f says; what stood stands -/
def PF (ca : Str → Option Addr) (K : PySem.W.Frag) (f : List D → Out M) : Sp := fun vs H Q E => ∃ (Fa : List Addr) (ds : List D), (∀ a ∈ Fa, Mu (H a)) ∧ IsL ca K (cut H Fa) ds vs ∧
  OutE (f ds) (fun m => ∀ v H2, Env ca K H Fa [some m] [some v] H2 → Q v H2) (fun n => ∀ a H2, ca n = some a → Frm H Fa H2 → E (.ref a) none H2)
def finD (o : SOut) : Out M := match o with
  | .stuck => .stuck
  | .exc n => .exc n
  | .ok (.rt m, _) => .ok m
  | .ok (.nx, _) => .ok (.dat .non)
  | .ok _ => .stuck
/-- the body s, with n parameters and k further names -/
def runD (n k : Nat) (s : Rn → SOut) (ds : List D) : Out M := if ds.length = n then finD (s ((ds.map fun d => some (.dat d)) ++ List.replicate k none)) else .stuck
section
variable {ca : Str → Option Addr} {K : PySem.W.Frag} {P : Program} {w : World} {mg : Str → Option Value} {base : Heap}
theorem own_none {G : List Addr} {H : Hp} : ∀ k, OwS ca K G H (List.replicate k none) (List.replicate k none) []
  | 0 => OwS.nil
  | k + 1 => OwS.cons (F1 := []) (show OwO ca K G H none none [] from rfl) (own_none k)
theorem env_start {H : Hp} {Fa : List Addr} {ds : List D} {vs : List V} (mu : ∀ a ∈ Fa, Mu (H a)) (i : IsL ca K (cut H Fa) ds vs) (k : Nat) : Env ca K H Fa ((ds.map fun d => some (.dat d)) ++ List.replicate k none) (vs.map some ++ List.replicate k none) H := by
  have E : EnvF ca K H Fa (List.replicate k none) (List.replicate k none) H [] := ⟨Le.refl H, fun _ _ => rfl, mu, List.nodup_nil, (fun _ z => nomatch z), own_none k⟩
  exact ⟨[], E.tops (by rw [List.append_nil]; exact i)⟩
theorem StM.run {t : TS} {s : Rn → SOut} {W : WX} {H : Hp} {Fa : List Addr} {ρ : Rn} {σ : L2.St} {Q : VK} {E : XK} (h : StM ca K W t s) (hW : ∀ c d σ' H', E c d H' → W c d σ' H') (E0 : Env ca K H Fa ρ σ H)
    (o : OutE (finD (s ρ)) (fun m => ∀ v H2, Env ca K H Fa [some m] [some v] H2 → Q v H2) (fun n => ∀ a H2, ca n = some a → Frm H Fa H2 → E (.ref a) none H2)) : t { nx := fun _ H' => Q .non H', rt := Q } σ H := by
  refine h H Fa [] [] ρ σ H _ rfl E0 ?_
  cases e : s ρ with
  | stuck => rw [e] at o; exact o
  | exc n => rw [e] at o; exact fun a σ' H2 c f => hW _ _ _ _ (o a H2 c f)
  | ok p =>
    obtain ⟨fl, ρ'⟩ := p
    rw [e] at o
    cases fl with
    | nx =>
      intro σ' H2 E2
      have E2 : Env ca K H Fa ρ' σ' H2 := E2
      refine o .non H2 ?_
      obtain ⟨F, E3⟩ := E2
      exact Env.only ⟨F, E3.top (d := .non) (is_non.mpr rfl)⟩
    | bk => exact o.elim
    | ct => exact o.elim
    | rt m => exact o
/-- a def of the text keeps its promise -/
theorem fn_ok {x qual : Str} {st : Stmt} {f : Addr} {fd : FuncData} {N ps : List Str} {k : Nat} {s : Rn → SOut} (F : Fun K x qual st f fd) (S : FnScope N ps (defScope st))
    (hbody : ∀ (cdv : Value) (A : Around) (outer : List PySem.Env) (s0 : Shared) (H : Hp) (E : XK), Room k (A.deeper (envOfC qual (defScope st) s0.heap.objs.size f cdv)) →
      SSs ca (cxOf (L2.CX P w) P w K mg base N qual (defScope st) f cdv A outer s0 H E) (fun c d _ H' => E c d H') (defBody st) s) : FnOk P w K mg base (L2.CX P w) (k + 1) f fd ps (PF ca K (runD ps.length (N.length - ps.length) s)) := by
  refine F.okX S (fun vs H Q E h => ?_) (fun cdv A outer s0 H vs Q E hr h => ?_)
  · obtain ⟨Fa, ds, mu, i, o⟩ := h
    unfold runD at o
    by_cases z : ds.length = ps.length
    · rw [← i.len, z]
    · rw [if_neg z] at o; exact o.elim
  · obtain ⟨Fa, ds, mu, i, o⟩ := h
    obtain ⟨t, p, hs⟩ := hbody cdv A outer s0 H E hr
    unfold runD at o
    by_cases z : ds.length = ps.length
    · rw [if_pos z] at o
      refine ⟨t, p, hs.run (fun _ _ _ _ e => e) ?_ o⟩
      have q := env_start (ca := ca) (K := K) mu i (N.length - ps.length)
      unfold L2.start
      rw [← i.len, z]
      exact q
    · rw [if_neg z] at o; exact o.elim
/-- the context of such a body -/
theorem jx_of {N : List Str} {qual : Str} {scope : Scope} {f : Addr} {cdv : Value} {A : Around} {outer : List PySem.Env} {s0 : Shared} {H : Hp} {E : XK} {k : Nat} (nd : N.Nodup) (hr : Room k (A.deeper (envOfC qual scope s0.heap.objs.size f cdv)))
    (h1 : (cxOf (L2.CX P w) P w K mg base N qual scope f cdv A outer s0 H E).stack = (cxOf (L2.CX P w) P w K mg base N qual scope f cdv A outer s0 H E).env :: (cxOf (L2.CX P w) P w K mg base N qual scope f cdv A outer s0 H E).outer := by rfl) :
    JX (cxOf (L2.CX P w) P w K mg base N qual scope f cdv A outer s0 H E) (fun c d _ H' => E c d H') k :=
  ⟨rfl, takes_of rfl rfl rfl rfl, nd, passes_of rfl, hr⟩
end

/-! ### calls -/
section
variable {ca : Str → Option Addr} {X : Cx} {W : WX} {e a b c : Expr} {es : List Expr} {pos p apos : Pos} {x m : Str}
/-- behind a call: the callee's new cells are new here -/
theorem EnvF.called {K : PySem.W.Frag} {H0 H H2 : Hp} {Fa F : List Addr} {ρ : Rn} {σ : L2.St} {mm : M} {v : V} (E : EnvF ca K H0 Fa ρ σ H F) (h : Env ca K H (Fa ++ F) [some mm] [some v] H2) : Env ca K H0 Fa (some mm :: ρ) (some v :: σ) H2 := by
  obtain ⟨F', E'⟩ := h
  obtain ⟨w', σ', F1, F2, e1, ⟨v', ev, ho⟩, ⟨e2, e3⟩, e4⟩ := E'.own
  injection e1 with e5 e6
  subst e5
  cases ev
  have eF : F' = F1 := by rw [e4, e3, List.append_nil]
  subst eF
  have same : ∀ a, a ∈ Fa ++ F ++ F' ↔ a ∈ Fa ++ (F' ++ F) := fun a => by
    simp only [List.mem_append]
    constructor
    · rintro ((z | z) | z) <;> simp [z]
    · rintro (z | z | z) <;> simp [z]
  refine ⟨_, E.push E'.le E'.keep E'.nd E'.fresh (ho.mono (le_shrink (fun a ha => (same a).mpr ha) fun a ha => (E'.muG a ((same a).mpr ha)).ne) (fun _ _ => rfl) fun _ _ z => z)⟩
theorem PF.call {K : PySem.W.Frag} {f : List D → Out M} {H0 H : Hp} {Fa F : List Addr} {ρ : Rn} {σ : L2.St} {ds : List D} {vs : List V} {Q : VK} {Ex : XK} (E : EnvF ca K H0 Fa ρ σ H F) (i : IsL ca K (cut H (Fa ++ F)) ds vs)
    (o : OutE (f ds) (fun m => ∀ v H2, Env ca K H0 Fa (some m :: ρ) (some v :: σ) H2 → Q v H2) (fun n => ∀ a H2, ca n = some a → Env ca K H0 Fa ρ σ H2 → Ex (.ref a) none H2)) : PF ca K f vs H Q Ex :=
  ⟨Fa ++ F, ds, E.muG, i, o.imp (fun m o v H2 E2 => o v H2 (E.called E2)) fun n o a H2 c fr => o a H2 c ⟨F, E.go fr.le fr.keep⟩⟩
theorem em_call {k j : Nat} {fa : Addr} {fd : FuncData} {ps : List Str} {f : List D → Out M} {g : Rn → Out (List D)} (J : JX X W k) (F : FnOk X.prog X.w X.K X.mg X.base (L2.CX X.prog X.w) j fa fd ps (PF ca X.K f)) (hj : j ≤ k) (hm : X.mg x = some (.ref fa)) (hk : PySem.W.keepIn X.K (.ref fa) = true)
    (hb : Binds X.K fd ps []) (ha : EA ca X W (e :: es) g) (hg : Gl X x := by rfl) (hdb : (x == ("__debug__" : Str)) = false := by decide) (he : starEach (e :: es) X.env = (false, eval e X.env) :: starEach es X.env := by rfl) (hpl : (backTo pos (starEach es X.env)).any (·.1) = false := by rfl) :
    EM ca X W (.Call (.Name x p) (e :: es) [] pos) (fun ρ => (g ρ).bind f) := by
  obtain ⟨ta, pa, ha⟩ := ha
  refine ⟨_, pe_callS F (J.room.mono hj) hg hm hk hb (fun σ => passAt J.tk σ) pa hdb he hpl, fun H0 Fa ts us ρ σ H Q hl E o => ?_⟩
  refine ha H0 Fa ts us ρ σ H _ hl E (o.bind.imp (fun ds o vs H2 F2 E2 i => ?_) fun n q => q)
  exact PF.call E2 i o

/-! ### a list that grows -/
/-- data put behind the list in a slot -/
theorem EnvF.append {K : PySem.W.Frag} {H0 H : Hp} {Fa F : List Addr} {ρ : Rn} {σ : L2.St} {i : Nat} {ms : List M} {d : D} {y : V} (E : EnvF ca K H0 Fa ρ σ H F) (h : ρ[i]? = some (some (.lst ms))) (hd : Is ca K (cut H (Fa ++ F)) d y) :
    ∃ l xs, σ[i]? = some (some (.ref l)) ∧ H l = some (.lst xs) ∧ xs.length = ms.length ∧ Env ca K H0 Fa (ρ.set i (some (.lst (ms ++ [.dat d])))) (σ.set i (some (.ref l))) (upd H l (.lst (xs ++ [y]))) := by
  obtain ⟨w, A, Fi, B, rfl, e2, ⟨v, e3, ho⟩, back⟩ := E.own.split h
  obtain ⟨l, xs, Fi', rfl, hl, hr, rfl⟩ := ow_lst.mp ho
  subst e3
  have hlG : l ∈ Fa ++ (A ++ (l :: Fi' ++ B)) := by simp
  have ne : ∀ b, b ∈ Fa ++ (A ++ (l :: Fi' ++ B)) → b ∉ [l] → b ≠ l := fun b _ n e => n (by simp [e])
  have nd := E.nd
  have nl : l ∉ A ++ (Fi' ++ B) := by
    intro z
    simp only [List.nodup_append, List.cons_append, List.nodup_cons, List.mem_append, List.mem_cons] at nd z
    rcases z with z | z | z
    · exact nd.2.2 l z l (.inl rfl) rfl
    · exact nd.2.1.1 (.inl z)
    · exact nd.2.1.1 (.inr z)
  have nFa : l ∉ Fa := E.apart l (by simp)
  have lc : Le (cut H (Fa ++ (A ++ (l :: Fi' ++ B)))) (cut (upd H l (.lst (xs ++ [y]))) (Fa ++ (A ++ (l :: Fi' ++ B)))) := by
    have q : cut (upd H l (.lst (xs ++ [y]))) (Fa ++ (A ++ (l :: Fi' ++ B))) = cut H (Fa ++ (A ++ (l :: Fi' ++ B))) := by
      funext b
      unfold cut
      by_cases z : b ∈ Fa ++ (A ++ (l :: Fi' ++ B))
      · rw [if_pos z, if_pos z]
      · rw [if_neg z, if_neg z, upd_ne (fun e => z (by rw [e]; exact hlG))]
    rw [q]; exact Le.refl _
  have tu : ∀ b ys, H b = some (.tup ys) → (upd H l (.lst (xs ++ [y]))) b = some (.tup ys) := fun b ys q => by
    rw [upd_ne (fun e => by subst e; rw [hl] at q; cases q)]; exact q
  refine ⟨l, xs, e2, hl, hr.len.symm, A ++ (l :: Fi' ++ B), ?_⟩
  refine ⟨?_, fun b hb => ?_, E.mu, nd, E.fresh, back _ _ _ _ (l :: Fi') lc (fun b hb => upd_ne fun e => nl ?_) tu ⟨_, rfl, ow_lst.mpr ⟨l, xs ++ [y], Fi', rfl, upd_same, ?_, rfl⟩⟩⟩
  · have hn : H0 l = none := E.fresh l (by simp)
    refine ⟨fun b ys q => ?_, fun b C dx fs q => ?_, fun b ys q => ?_, fun b ys q => ?_, fun b ys q => ?_, fun b q => ?_⟩
    · rw [upd_ne (ne_of_none q hn)]; exact E.le.tup b ys q
    · rw [upd_ne (ne_of_none q hn)]; exact E.le.ins b C dx fs q
    all_goals first
      | (have z := E.le.lst b ys q
         have nb : b ≠ l := fun e => rd_ne q (by rw [e]; exact hn)
         rcases z with z | ⟨o, z⟩
         · exact .inl ((upd_ne nb).trans z)
         · exact .inr ⟨o, (upd_ne nb).trans z⟩)
      | (have z := E.le.dT b ys q
         have nb : b ≠ l := fun e => rd_ne q (by rw [e]; exact hn)
         rcases z with z | ⟨o, z⟩
         · exact .inl ((upd_ne nb).trans z)
         · exact .inr ⟨o, (upd_ne nb).trans z⟩)
      | (have z := E.le.dK b ys q
         have nb : b ≠ l := fun e => rd_ne q (by rw [e]; exact hn)
         rcases z with z | ⟨o, z⟩
         · exact .inl ((upd_ne nb).trans z)
         · exact .inr ⟨o, (upd_ne nb).trans z⟩)
      | (by_cases nb : b = l
         · subst nb; rw [upd_same] at q; cases q
         · rw [upd_ne nb] at q; exact E.le.dom b q)
  · rw [upd_ne (fun e => nFa (by rw [← e]; exact hb))]; exact E.keep b hb
  · subst e
    simp only [List.mem_append] at hb ⊢
    rcases hb with z | z <;> simp [z]
  · have q := (hr.mono (G' := Fa ++ (A ++ (l :: Fi' ++ B))) lc (fun b hb => upd_ne fun e => nl (by subst e; simp [hb])) tu).app (OwL.of_dats (ds := [d]) (vs := [y]) (IsL.cons (hd.le lc) IsL.nil))
    simpa using q
end
end DA
set_option maxHeartbeats 1000000
/-! zip of two sequences, each a list or a tuple (the kit's own way for two tuples, turned to mixed pairs) -/
namespace DA
open PySem RZ
open PySem.Sem (wp)
def ZC : Bool → String
  | true => "tuple"
  | false => "list"
def ZI : Bool → String
  | true => "tuple_iterator"
  | false => "list_iterator"
def SqI (t : Bool) (h : Heap) (a : Addr) (items : Array Value) : Prop := ∃ o, h.get? a = some o ∧ o.cls = .type (ZC t) ∧ ∃ n, o.data = .seq items n
def ItI (t : Bool) (h : Heap) (a l : Addr) (i : Nat) : Prop := ∃ o, h.get? a = some o ∧ o.cls = .type (ZI t) ∧ o.data = .fields #[.ref l, .int i 0]
theorem SqI.at {t : Bool} {h h' : Heap} {a items} (x : SqI t h a items) (k : ∀ o, h.get? a = some o → h'.get? a = some o) : SqI t h' a items := let ⟨o, e, r⟩ := x; ⟨o, k o e, r⟩
theorem ItI.at {t : Bool} {h h' : Heap} {a l i} (x : ItI t h a l i) (k : ∀ o, h.get? a = some o → h'.get? a = some o) : ItI t h' a l i := let ⟨o, e, r⟩ := x; ⟨o, k o e, r⟩
theorem SqI.extBut {t : Bool} {h h' : Heap} {a b items} (x : SqI t h a items) (hs : Heap.ExtBut b h h') (hab : a ≠ b) : SqI t h' a items := x.at fun o e => hs a o hab e
theorem ItI.extBut {t : Bool} {h h' : Heap} {a b l i} (x : ItI t h a l i) (hs : Heap.ExtBut b h h') (hab : a ≠ b) : ItI t h' a l i := x.at fun o e => hs a o hab e
theorem SqI.push {t : Bool} {h : Heap} {a items} (x : SqI t h a items) (o : Obj) : SqI t (h.push o) a items := x.at fun _ e => Heap.get?_push_of_some _ e
section
variable {prog : Program} {w : World} {A : Around} {E : Value → Shared → Prop} {s : Shared}
theorem nextOf_i {t : Bool} {it l : Addr} {i : Nat} {items} {x : Value} {Q : Value → Shared → Prop} (hit : ItI t s.heap it l i)
    (hl : SqI t s.heap l items) (hx : items[i]? = some x)
    (hQ : ∀ h', ItI t h' it l (i + 1) → Heap.SameBut it s.heap h' → Q x { s with heap := h' }) :
    wpAny (model prog w) A (Builtin.SmallTypes.nextOf (.ref it)) Q E s := by
  cases t with
  | true => exact nextOf_tuple_item hit hl hx hQ
  | false => exact wpAny_nextOf_list_item hit hl hx hQ
theorem nextOf_e {t : Bool} {it l : Addr} {i : Nat} {items} {Q : Value → Shared → Prop} (hh : A.handled = none)
    (hit : ItI t s.heap it l i) (hl : SqI t s.heap l items) (hx : items[i]? = none)
    (hE : ∀ h' e, Heap.ExtBut it s.heap h' → (∃ o, h'.get? e = some o ∧ o.cls = .type "StopIteration") → E (.ref e) { s with heap := h' }) :
    wpAny (model prog w) A (Builtin.SmallTypes.nextOf (.ref it)) Q E s := by
  cases t with
  | true => exact nextOf_tuple_end hh hit hl hx hE
  | false => exact wpAny_nextOf_list_end hh hit hl hx hE
theorem pyIter_g {t : Bool} {l : Addr} {items} {Q : Value → Shared → Prop} (hl : SqI t s.heap l items)
    (hQ : Q (.ref s.heap.objs.size) { s with heap := s.heap.push { cls := .type (ZI t), data := .fields #[.ref l, .int 0 0] } }) :
    wpAny (model prog w) A (pyIter (.ref l)) Q E s := by
  cases t with
  | true => exact wpAny_pyIter_tuple hl hQ
  | false => exact wpAny_pyIter_list hl hQ

theorem zipG_next_item {t1 t2 : Bool} {z TI TO i1 i2 l1 l2 : Addr} {k1 k2 : Nat} {xs ys : Array Value} {x y a b : Value} {Q : Value → Shared → Prop} (D : ZipApart z TI TO i1 i2 l1 l2)
    (hz : IsZip s.heap z TI TO .none) (hTI : IsPair s.heap TI (.ref i1) (.ref i2)) (hTO : IsPair s.heap TO a b)
    (h1 : ItI t1 s.heap i1 l1 k1) (h2 : ItI t2 s.heap i2 l2 k2) (hl1 : SqI t1 s.heap l1 xs) (hl2 : SqI t2 s.heap l2 ys) (hx : xs[k1]? = some x) (hy : ys[k2]? = some y)
    (hQ : ∀ h', IsZip h' z TI TO (rawInt s.heap.objs.size) → IsPair h' TO x y → ItI t1 h' i1 l1 (k1 + 1) → ItI t2 h' i2 l2 (k2 + 1) → IsPair h' s.heap.objs.size x y → h'.objs.size = s.heap.objs.size + 1 →
      (∀ c o, c ≠ z → c ≠ TO → c ≠ i1 → c ≠ i2 → s.heap.get? c = some o → h'.get? c = some o) → Q (.ref s.heap.objs.size) { s with heap := h' }) :
    wpAny (model prog w) A (Builtin.«zip.__next__» ⟨[.ref z], []⟩) (fun fin s' => ∃ v, fin = .done (.ret v) ∧ Q v s') E s := by
  show wpAny _ _ (field (.ref z) 2 >>= _) _ _ _
  refine wpAny_bind (wpAny_field hz rfl (x := .bool false) rfl ?_)
  show wpAny _ _ (field (.ref z) 3 >>= _) _ _ _
  refine wpAny_bind (wpAny_field hz rfl (x := .ref TI) rfl ?_)
  refine wpAny_bind (wpAny_seqItems hTI rfl ?_)
  show wpAny _ _ (Builtin.SmallTypes.ownedTupleIsFree (.ref z) >>= _) _ _ _
  refine wpAny_bind ?_
  unfold Builtin.SmallTypes.ownedTupleIsFree
  refine wpAny_bind (wpAny_field hz rfl (x := .none) rfl (wpAny_pure ?_))
  simp only [if_true]
  refine wpAny_bind (wpAny_rule ?_)
  refine wpAny_bind (wpAny_field hz rfl (x := .ref TO) rfl ?_)
  refine wpAny_bind (wpAny_setField_rec hz (by simp) fun h₁ hz₁ hs₁ => ?_)
  replace hz₁ : IsZip h₁ z TI TO .ellipsis := hz₁
  refine wpAny_bind ?_
  simp only [List.zipIdx_cons, List.zipIdx_nil, List.forIn_cons, List.forIn_nil]

  refine wpAny_bind (wpAny_bind (wpAny_onRaise ?_))
  show wpAny _ _ (Builtin.SmallTypes.nextOf (.ref i1) >>= _) _ _ _
  refine wpAny_bind (nextOf_i (h1.extBut hs₁.extBut D.i1z) (hl1.extBut hs₁.extBut D.l1z) hx fun h₂ h1₂ hs₂ => wpAny_pure ?_)
  have hTO₂ : IsPair h₂ TO a b := hs₂.extBut _ _ D.TOi1 (hs₁.extBut _ _ D.TOz hTO)
  refine wpAny_bind (wpAny_seqItems hTO₂ rfl ?_)
  refine wpAny_bind (wpAny_updateSeq_pair hTO₂ fun h₃ hTO₃ hs₃ => ?_)
  replace hTO₃ : IsPair h₃ TO x b := hTO₃
  refine wpAny_bind (wpAny_letGo (wpAny_pure ?_))

  refine wpAny_bind (wpAny_bind (wpAny_onRaise ?_))
  show wpAny _ _ (Builtin.SmallTypes.nextOf (.ref i2) >>= _) _ _ _
  refine wpAny_bind (nextOf_i (((h2.extBut hs₁.extBut D.i2z).extBut hs₂.extBut D.i12.symm).extBut hs₃.extBut D.TOi2.symm)
    (((hl2.extBut hs₁.extBut D.l2z).extBut hs₂.extBut D.l2i1).extBut hs₃.extBut D.l2TO) hy fun h₄ h2₄ hs₄ => wpAny_pure ?_)
  have hTO₄ : IsPair h₄ TO x b := hs₄.extBut _ _ D.TOi2 hTO₃
  refine wpAny_bind (wpAny_seqItems hTO₄ rfl ?_)
  refine wpAny_bind (wpAny_updateSeq_pair hTO₄ fun h₅ hTO₅ hs₅ => ?_)
  replace hTO₅ : IsPair h₅ TO x y := hTO₅
  refine wpAny_bind (wpAny_letGo (wpAny_pure (wpAny_pure ?_)))

  refine wpAny_bind (wpAny_seqItems hTO₅ rfl ?_)
  refine wpAny_bind (wpAny_newTuple ?_)
  have hsz : h₅.objs.size = s.heap.objs.size := by rw [hs₅.1, hs₄.1, hs₃.1, hs₂.1, hs₁.1]
  have hz₅ : IsZip h₅ z TI TO .ellipsis := hs₅.extBut _ _ D.TOz.symm (hs₄.extBut _ _ D.i2z.symm (hs₃.extBut _ _ D.TOz.symm (hs₂.extBut _ _ D.i1z.symm hz₁)))
  have hk₅ : ∀ c o, c ≠ z → c ≠ TO → c ≠ i1 → c ≠ i2 → s.heap.get? c = some o → h₅.get? c = some o := fun c o c1 c2 c3 c4 e =>
    hs₅.extBut _ _ c2 (hs₄.extBut _ _ c4 (hs₃.extBut _ _ c2 (hs₂.extBut _ _ c3 (hs₁.extBut _ _ c1 e))))
  have h1₅ : ItI t1 h₅ i1 l1 (k1 + 1) := ((h1₂.extBut hs₃.extBut D.TOi1.symm).extBut hs₄.extBut D.i12).extBut hs₅.extBut D.TOi1.symm
  have h2₅ : ItI t2 h₅ i2 l2 (k2 + 1) := h2₄.extBut hs₅.extBut D.TOi2.symm
  have hzlt : z < h₅.objs.size := Heap.lt_size hz₅
  have hTOlt : TO < h₅.objs.size := Heap.lt_size hTO₅
  have hi1lt : i1 < h₅.objs.size := by obtain ⟨_, e, _⟩ := h1₅; exact Heap.lt_size e
  have hi2lt : i2 < h₅.objs.size := by obtain ⟨_, e, _⟩ := h2₅; exact Heap.lt_size e
  show wpAny _ _ (Builtin.SmallTypes.ownedTupleHandOut (.ref z) (.ref h₅.objs.size) >>= _) _ _ _
  refine wpAny_bind ?_
  unfold Builtin.SmallTypes.ownedTupleHandOut
  have hz₆ : IsZip (h₅.push { cls := .type "tuple", data := .seq #[x, y] }) z TI TO .ellipsis := Heap.get?_push_of_some _ hz₅
  refine wpAny_bind (wpAny_setField_rec hz₆ (by simp) fun h₇ hz₇ hs₇ => ?_)
  replace hz₇ : IsZip h₇ z TI TO (rawInt h₅.objs.size) := hz₇
  refine wpAny_setField_rec hz₇ (by simp) fun h₈ hz₈ hs₈ => ?_
  replace hz₈ : IsZip h₈ z TI TO (rawInt h₅.objs.size) := hz₈
  have up : ∀ c o, c ≠ z → h₅.get? c = some o → h₈.get? c = some o := fun c o c1 e => hs₈.extBut _ _ c1 (hs₇.extBut _ _ c1 (Heap.get?_push_of_some _ e))
  have hT₈ : IsPair h₈ h₅.objs.size x y := hs₈.extBut _ _ (Nat.ne_of_gt hzlt) (hs₇.extBut _ _ (Nat.ne_of_gt hzlt) (Heap.get?_push_size _ rfl))
  have hz8 : h₈.objs.size = h₅.objs.size + 1 := by rw [hs₈.1, hs₇.1, Heap.size_push]
  rw [hsz] at hz₈ hT₈ hz8
  refine wpAny_pure ⟨_, rfl, ?_⟩
  show Q (.ref h₅.objs.size) _
  rw [hsz]
  exact hQ h₈ hz₈ (up _ _ D.TOz hTO₅) (h1₅.at fun o e => up _ o D.i1z e) (h2₅.at fun o e => up _ o D.i2z e) hT₈ hz8 fun c o c1 c2 c3 c4 e => up c o c1 (hk₅ c o c1 c2 c3 c4 e)

theorem zipG_next_end {t1 t2 : Bool} {z TI TO i1 i2 l1 l2 : Addr} {k1 k2 : Nat} {xs ys : Array Value} {a b : Value} {Q : Fin → Shared → Prop} (hh : A.handled = none) (D : ZipApart z TI TO i1 i2 l1 l2)
    (hz : IsZip s.heap z TI TO .none) (hTI : IsPair s.heap TI (.ref i1) (.ref i2)) (hTO : IsPair s.heap TO a b)
    (h1 : ItI t1 s.heap i1 l1 k1) (h2 : ItI t2 s.heap i2 l2 k2) (hl1 : SqI t1 s.heap l1 xs) (hl2 : SqI t2 s.heap l2 ys) (hend : xs[k1]? = none ∨ ys[k2]? = none)
    (hE : ∀ h' e, (∀ c o, c ≠ z → c ≠ TO → c ≠ i1 → c ≠ i2 → s.heap.get? c = some o → h'.get? c = some o) → (∃ o, h'.get? e = some o ∧ o.cls = .type "StopIteration") → E (.ref e) { s with heap := h' }) :
    wpAny (model prog w) A (Builtin.«zip.__next__» ⟨[.ref z], []⟩) Q E s := by
  show wpAny _ _ (field (.ref z) 2 >>= _) _ _ _
  refine wpAny_bind (wpAny_field hz rfl (x := .bool false) rfl ?_)
  show wpAny _ _ (field (.ref z) 3 >>= _) _ _ _
  refine wpAny_bind (wpAny_field hz rfl (x := .ref TI) rfl ?_)
  refine wpAny_bind (wpAny_seqItems hTI rfl ?_)
  show wpAny _ _ (Builtin.SmallTypes.ownedTupleIsFree (.ref z) >>= _) _ _ _
  refine wpAny_bind ?_
  unfold Builtin.SmallTypes.ownedTupleIsFree
  refine wpAny_bind (wpAny_field hz rfl (x := .none) rfl (wpAny_pure ?_))
  simp only [if_true]
  refine wpAny_bind (wpAny_rule ?_)
  refine wpAny_bind (wpAny_field hz rfl (x := .ref TO) rfl ?_)
  refine wpAny_bind (wpAny_setField_rec hz (by simp) fun h₁ hz₁ hs₁ => ?_)
  replace hz₁ : IsZip h₁ z TI TO .ellipsis := hz₁
  refine wpAny_bind ?_
  simp only [List.zipIdx_cons, List.zipIdx_nil, List.forIn_cons, List.forIn_nil]
  refine wpAny_bind (wpAny_bind (wpAny_onRaise ?_))
  show wpAny _ _ (Builtin.SmallTypes.nextOf (.ref i1) >>= _) _ _ _
  cases hx : xs[k1]? with
  | none =>
    refine wpAny_bind (nextOf_e hh (h1.extBut hs₁.extBut D.i1z) (hl1.extBut hs₁.extBut D.l1z) hx fun h₂ e hs₂ he => ?_)
    obtain ⟨oe, hoe, hce⟩ := he
    have hz₂ : IsZip h₂ z TI TO .ellipsis := hs₂ _ _ D.i1z.symm hz₁
    have hez : e ≠ z := fun x => by subst x; rw [hz₂] at hoe; cases hoe; simp at hce
    refine wpAny_setField_rec hz₂ (by simp) fun h₃ _ hs₃ => hE h₃ e (fun c o c1 _ c3 _ x => hs₃.extBut _ _ c1 (hs₂ _ _ c3 (hs₁.extBut _ _ c1 x))) ⟨oe, hs₃.extBut _ _ hez hoe, hce⟩
  | some x =>
    have hy : ys[k2]? = none := by rcases hend with h | h; rw [hx] at h; cases h; exact h
    refine wpAny_bind (nextOf_i (h1.extBut hs₁.extBut D.i1z) (hl1.extBut hs₁.extBut D.l1z) hx fun h₂ h1₂ hs₂ => wpAny_pure ?_)
    have hTO₂ : IsPair h₂ TO a b := hs₂.extBut _ _ D.TOi1 (hs₁.extBut _ _ D.TOz hTO)
    refine wpAny_bind (wpAny_seqItems hTO₂ rfl ?_)
    refine wpAny_bind (wpAny_updateSeq_pair hTO₂ fun h₃ hTO₃ hs₃ => ?_)
    refine wpAny_bind (wpAny_letGo (wpAny_pure ?_))
    refine wpAny_bind (wpAny_bind (wpAny_onRaise ?_))
    show wpAny _ _ (Builtin.SmallTypes.nextOf (.ref i2) >>= _) _ _ _
    refine wpAny_bind (nextOf_e hh (((h2.extBut hs₁.extBut D.i2z).extBut hs₂.extBut D.i12.symm).extBut hs₃.extBut D.TOi2.symm)
      (((hl2.extBut hs₁.extBut D.l2z).extBut hs₂.extBut D.l2i1).extBut hs₃.extBut D.l2TO) hy fun h₄ e hs₄ he => ?_)
    obtain ⟨oe, hoe, hce⟩ := he
    have hz₄ : IsZip h₄ z TI TO .ellipsis := hs₄ _ _ D.i2z.symm (hs₃.extBut _ _ D.TOz.symm (hs₂.extBut _ _ D.i1z.symm hz₁))
    have hez : e ≠ z := fun x => by subst x; rw [hz₄] at hoe; cases hoe; simp at hce
    refine wpAny_setField_rec hz₄ (by simp) fun h₅ _ hs₅ => hE h₅ e (fun c o c1 c2 c3 c4 x => hs₅.extBut _ _ c1 (hs₄ _ _ c4 (hs₃.extBut _ _ c2 (hs₂.extBut _ _ c3 (hs₁.extBut _ _ c1 x))))) ⟨oe, hs₅.extBut _ _ hez hoe, hce⟩

theorem pyNext_zipG_item {t1 t2 : Bool} {z TI TO i1 i2 l1 l2 : Addr} {k1 k2 : Nat} {xs ys : Array Value} {x y a b : Value} {Q : Option Value → Shared → Prop} (D : ZipApart z TI TO i1 i2 l1 l2)
    (hz : IsZip s.heap z TI TO .none) (hTI : IsPair s.heap TI (.ref i1) (.ref i2)) (hTO : IsPair s.heap TO a b)
    (h1 : ItI t1 s.heap i1 l1 k1) (h2 : ItI t2 s.heap i2 l2 k2) (hl1 : SqI t1 s.heap l1 xs) (hl2 : SqI t2 s.heap l2 ys) (hx : xs[k1]? = some x) (hy : ys[k2]? = some y)
    (hQ : ∀ h', IsZip h' z TI TO (rawInt s.heap.objs.size) → IsPair h' TO x y → ItI t1 h' i1 l1 (k1 + 1) → ItI t2 h' i2 l2 (k2 + 1) → IsPair h' s.heap.objs.size x y → h'.objs.size = s.heap.objs.size + 1 →
      (∀ c o, c ≠ z → c ≠ TO → c ≠ i1 → c ≠ i2 → s.heap.get? c = some o → h'.get? c = some o) → Q (some (.ref s.heap.objs.size)) { s with heap := h' }) :
    wpAny (model prog w) A (pyNext (.ref z)) Q E s := by
  have hT : s.TypeIs (.ref z) "zip" := ⟨_, hz, rfl⟩
  unfold pyNext
  exact wpAny_bind (wpAny_attempt (wpAny_callSpecial?_slot (name := Str.ofString "__next__") hT F.slot_zip_next
    (wpAny_call_entry F.slot_zip_next hT F.entry_zip_next
      (zipG_next_item D hz hTI hTO h1 h2 hl1 hl2 hx hy fun h' a1 a2 a3 a4 a5 a6 a7 => wpAny_pure (hQ h' a1 a2 a3 a4 a5 a6 a7)) (F.args_zip_next_1 _))))

theorem pyNext_zipG_end {t1 t2 : Bool} {z TI TO i1 i2 l1 l2 : Addr} {k1 k2 : Nat} {xs ys : Array Value} {a b : Value} {Q : Option Value → Shared → Prop} (hh : A.handled = none) (D : ZipApart z TI TO i1 i2 l1 l2)
    (hz : IsZip s.heap z TI TO .none) (hTI : IsPair s.heap TI (.ref i1) (.ref i2)) (hTO : IsPair s.heap TO a b)
    (h1 : ItI t1 s.heap i1 l1 k1) (h2 : ItI t2 s.heap i2 l2 k2) (hl1 : SqI t1 s.heap l1 xs) (hl2 : SqI t2 s.heap l2 ys) (hend : xs[k1]? = none ∨ ys[k2]? = none)
    (hQ : ∀ h', (∀ c o, c ≠ z → c ≠ TO → c ≠ i1 → c ≠ i2 → s.heap.get? c = some o → h'.get? c = some o) → Q none { s with heap := h' }) : wpAny (model prog w) A (pyNext (.ref z)) Q E s := by
  have hT : s.TypeIs (.ref z) "zip" := ⟨_, hz, rfl⟩
  unfold pyNext
  refine wpAny_bind (wpAny_attempt (wpAny_callSpecial?_slot (name := Str.ofString "__next__") hT F.slot_zip_next
    (wpAny_call_entry F.slot_zip_next hT F.entry_zip_next (zipG_next_end hh D hz hTI hTO h1 h2 hl1 hl2 hend fun h' e hk he => ?_) (F.args_zip_next_1 _))))
  obtain ⟨o, ho, hc⟩ := he
  refine wpAny_bind (wpAny_isInstance (T := "StopIteration") (b := true) ⟨o, ho, hc⟩ isSubtype_stop ?_)
  exact wpAny_pure (hQ _ hk)
end


abbrev zipGH1 (t1 : Bool) (h : Heap) (l1 : Addr) : Heap := h.push { cls := .type (ZI t1), data := .fields #[.ref l1, .int 0 0] }
abbrev zipGH2 (t1 t2 : Bool) (h : Heap) (l1 l2 : Addr) : Heap := (zipGH1 t1 h l1).push { cls := .type (ZI t2), data := .fields #[.ref l2, .int 0 0] }
abbrev zipGH3 (t1 t2 : Bool) (h : Heap) (l1 l2 : Addr) : Heap := (zipGH2 t1 t2 h l1 l2).push { cls := .type "tuple", data := .seq #[.ref h.objs.size, .ref (zipGH1 t1 h l1).objs.size] }
abbrev zipGH4 (t1 t2 : Bool) (h : Heap) (l1 l2 : Addr) : Heap := (zipGH3 t1 t2 h l1 l2).push { cls := .type "tuple", data := .seq #[.none, .none] }
abbrev zipGH5 (t1 t2 : Bool) (h : Heap) (l1 l2 : Addr) : Heap := (zipGH4 t1 t2 h l1 l2).push { cls := .type "zip", data := .fields #[.none, .bool false, .bool false, .ref (zipGH2 t1 t2 h l1 l2).objs.size, .ref (zipGH3 t1 t2 h l1 l2).objs.size] }

theorem meets_zipG_new (t1 t2 : Bool) (l1 l2 : Addr) (xs ys : Array Value) :
    Meets (Builtin.«zip.__new__» ⟨[.type "zip", .ref l1, .ref l2], []⟩) (fun _ R s => SqI t1 s.heap l1 xs ∧ SqI t2 s.heap l2 ys ∧
      R (.ok (.ret (.ref (zipGH4 t1 t2 s.heap l1 l2).objs.size))) { s with heap := zipGH5 t1 t2 s.heap l1 l2 }) :=
  .of_wp fun prog w A R s h => by
    obtain ⟨hp, g, d, tk, os⟩ := s; obtain ⟨hl1, hl2, h⟩ := h
    have hsub := sub_zip
    have hL1 : SqI t1 (Shared.heap ⟨hp, g, d, tk, os⟩) l1 xs := hl1
    have hL2 : SqI t2 (Shared.heap ⟨hp.push { cls := .type (ZI t1), data := .fields #[.ref l1, .int 0 0] }, g, d, tk, os⟩) l2 ys := hl2.push _
    wp_walk using pyIter_g hL1, pyIter_g hL2
    exact ⟨_, rfl, h⟩

section
variable {prog : Program} {w : World} {A : Around} {E : Value → Shared → Prop} {s : Shared}

theorem call_zipG {t1 t2 : Bool} {l1 l2 : Addr} {xs ys : Array Value} {Q : Value → Shared → Prop} (hl1 : SqI t1 s.heap l1 xs) (hl2 : SqI t2 s.heap l2 ys)
    (h : ∀ h', IsZip h' (s.heap.objs.size + 4) (s.heap.objs.size + 2) (s.heap.objs.size + 3) .none → IsPair h' (s.heap.objs.size + 2) (.ref s.heap.objs.size) (.ref (s.heap.objs.size + 1)) →
      IsPair h' (s.heap.objs.size + 3) .none .none → ItI t1 h' s.heap.objs.size l1 0 → ItI t2 h' (s.heap.objs.size + 1) l2 0 → h'.objs.size = s.heap.objs.size + 5 →
      (∀ c o, s.heap.get? c = some o → h'.get? c = some o) → Q (.ref (s.heap.objs.size + 4)) { s with heap := h' }) :
    wpAny (model prog w) A (call (.type "zip") [.ref l1, .ref l2]) Q E s := by
  refine callType_new F.called_zip (by decide) (F.typeCall_zip_2 _ _) (F.newCall_zip_2 _ _) (fun obj => F.args_object_init_3 obj _ _) F.entry_zip_new
    (meets_zipG_new t1 t2 l1 l2 xs ys) ⟨hl1, hl2, ?_⟩
  have z1 : (zipGH1 t1 s.heap l1).objs.size = s.heap.objs.size + 1 := Heap.size_push ..
  have z2 : (zipGH2 t1 t2 s.heap l1 l2).objs.size = s.heap.objs.size + 2 := by rw [Heap.size_push, z1]
  have z3 : (zipGH3 t1 t2 s.heap l1 l2).objs.size = s.heap.objs.size + 3 := by rw [Heap.size_push, z2]
  have z4 : (zipGH4 t1 t2 s.heap l1 l2).objs.size = s.heap.objs.size + 4 := by rw [Heap.size_push, z3]
  have z5 : (zipGH5 t1 t2 s.heap l1 l2).objs.size = s.heap.objs.size + 5 := by rw [Heap.size_push, z4]
  have g5 : (zipGH5 t1 t2 s.heap l1 l2).get? (zipGH4 t1 t2 s.heap l1 l2).objs.size = some _ := Heap.get?_push_size _ rfl
  have g4 : (zipGH5 t1 t2 s.heap l1 l2).get? (zipGH3 t1 t2 s.heap l1 l2).objs.size = some _ := Heap.get?_push_of_some _ (Heap.get?_push_size _ rfl)
  have g3 : (zipGH5 t1 t2 s.heap l1 l2).get? (zipGH2 t1 t2 s.heap l1 l2).objs.size = some _ := Heap.get?_push_of_some _ (Heap.get?_push_of_some _ (Heap.get?_push_size _ rfl))
  have g2 : (zipGH5 t1 t2 s.heap l1 l2).get? (zipGH1 t1 s.heap l1).objs.size = some _ := Heap.get?_push_of_some _ (Heap.get?_push_of_some _ (Heap.get?_push_of_some _ (Heap.get?_push_size _ rfl)))
  have g1 : (zipGH5 t1 t2 s.heap l1 l2).get? s.heap.objs.size = some _ := Heap.get?_push_of_some _ (Heap.get?_push_of_some _ (Heap.get?_push_of_some _ (Heap.get?_push_of_some _ (Heap.get?_push_size _ rfl))))
  show _ ∧ _
  rw [z2, z3, z4] at g5
  rw [z1, z2] at g3
  rw [z3] at g4
  rw [z1] at g2
  rw [z4]
  exact ⟨⟨_, g5, rfl⟩, h _ g5 g3 g4 ⟨_, g1, rfl, rfl⟩ ⟨_, g2, rfl, rfl⟩ z5 fun c o x =>
    Heap.get?_push_of_some _ (Heap.get?_push_of_some _ (Heap.get?_push_of_some _ (Heap.get?_push_of_some _ (Heap.get?_push_of_some _ x))))⟩
end


open PySem PySem.Spec PyProof.Rows L2
def SqG (t : Bool) (K : PySem.W.Frag) (H : Hp) (a : Addr) (xs : List V) : Prop := match t with
  | true => SqT K H a xs
  | false => SqL K H a xs
theorem gSeq {X : Cx} {pins : List (Addr × Obj)} {σ : L2.St} {H : Hp} {s : Shared} {t : Bool} {a : Addr} {xs : List V} (I : Inv X pins σ H s) (h : SqG t X.K H a xs) : ∃ its : List Value, Vals xs its ∧ SqI t s.heap a its.toArray := by
  cases t with
  | true => obtain ⟨its, rv, p, _⟩ := I.tuple h; exact ⟨its, rv, p⟩
  | false => obtain ⟨its, rv, p, _⟩ := I.list h; exact ⟨its, rv, p.isList⟩
theorem gInj {X : Cx} {pins : List (Addr × Obj)} {σ : L2.St} {H : Hp} {s : Shared} {t : Bool} {a : Addr} {xs ys : List V} (I : Inv X pins σ H s) (h : SqG t X.K H a xs) (h' : SqG t X.K H a ys) : xs = ys := by
  cases t with
  | true => exact I.tuple_inj h h'
  | false => exact I.list_inj h h'
/-- the tuples at a and b as they stand at each turn, the items in new pairs -/
def ItzG (t1 t2 : Bool) (K : PySem.W.Frag) (a b : Addr) : It :=
  ⟨fun i H => ∃ (xs ys : List V) (x y : V), SqG t1 K H a xs ∧ SqG t2 K H b ys ∧ xs[i]? = some x ∧ ys[i]? = some y,
    fun i H v H' => ∃ T x y, v = .ref T ∧ H T = none ∧ H' = upd H T (.tup [x, y]) ∧ (∀ xs, SqG t1 K H a xs → xs[i]? = some x) ∧ ∀ ys, SqG t2 K H b ys → ys[i]? = some y,
    fun i H => ∃ xs ys : List V, SqG t1 K H a xs ∧ SqG t2 K H b ys ∧ (xs.length ≤ i ∨ ys.length ≤ i)⟩
theorem turn_zipG {t1 t2 : Bool} {P : Program} {w : World} {K : PySem.W.Frag} {elts : List Expr} {kk : Nat} {tpos : Pos} {a b z TI TO i1 i2 : Addr} (D : ZipApart z TI TO i1 i2 a b) :
    Turn P w K (.Tuple elts kk tpos) (ItzG t1 t2 K a b) [z, TI, TO, i1, i2] z (fun i h => IsZip h z TI TO .none ∧ IsPair h TI (.ref i1) (.ref i2) ∧ (∃ x y, IsPair h TO x y) ∧ ItI t1 h i1 a i ∧ ItI t2 h i2 b i) where
  mem := by simp
  obj := fun i h st c hc => by
    obtain ⟨hz, hTI, ⟨x, y, hTO⟩, ⟨o1, e1, _, d1⟩, ⟨o2, e2, _, d2⟩⟩ := st
    have e' : c = z ∨ c = TI ∨ c = TO ∨ c = i1 ∨ c = i2 := by simpa using hc
    rcases e' with q | q | q | q | q
    · rw [q]; exact ⟨_, hz, fun v q => nomatch q⟩
    · rw [q]; exact ⟨_, hTI, fun v q => nomatch q⟩
    · rw [q]; exact ⟨_, hTO, fun v q => nomatch q⟩
    · rw [q]; exact ⟨o1, e1, fun v q => by rw [d1] at q; cases q⟩
    · rw [q]; exact ⟨o2, e2, fun v q => by rw [d2] at q; cases q⟩
  keep := fun i h h' st k => by
    obtain ⟨hz, hTI, ⟨x, y, hTO⟩, h1, h2⟩ := st
    exact ⟨k z (by simp) _ hz, k TI (by simp) _ hTI, ⟨x, y, k TO (by simp) _ hTO⟩, h1.at fun o q => k i1 (by simp) o q, h2.at fun o q => k i2 (by simp) o q⟩
  item := by
    intro X hP hw hK hc i pins s σ H E I hf st hg
    subst hP hw hK
    obtain ⟨hz, hTI, ⟨x0, y0, hTO⟩, h1, h2⟩ := st
    obtain ⟨xs, ys, x, y, hqx, hqy, hx, hy⟩ := hg
    obtain ⟨its, rv, p⟩ := gSeq I hqx
    obtain ⟨its2, rv2, p2⟩ := gSeq I hqy
    obtain ⟨u, hu, ru⟩ := rv.get hx
    obtain ⟨u2, hu2, ru2⟩ := rv2.get hy
    have hzl : z < s.heap.objs.size := Heap.lt_size hz
    refine pyNext_zipG_item D hz hTI hTO h1 h2 p p2 (x := u) (y := u2) (by simpa using hu) (by simpa using hu2) fun h' z' TO' h1' h2' hT hsz hk => ?_
    refine ⟨_, rfl, wpAny_letOwnedTupleGo_zip (s := { s with heap := h' }) z' fun h'' z'' sb => ?_⟩
    have hT2 : h''.get? s.heap.objs.size = some { cls := .type "tuple", data := .seq #[u, u2] } := (sb.2 _ (Nat.ne_of_gt hzl)).trans hT
    have new : ObjOk X.prog X.w (upd H s.heap.objs.size (.tup [x, y])) h'' s.heap.objs.size (.tup [x, y]) :=
      ⟨by show 2 ≤ sizeLine; decide, [u, u2], .cons ru (.cons ru2 .nil), ⟨_, hT2, rfl, _, rfl⟩⟩
    have I1 : Inv X pins σ (upd H s.heap.objs.size (.tup [x, y])) { s with heap := h'' } :=
      I.turnedNew (t' := s.toks) (ch := [z, TI, TO, i1, i2]) (fun c o hb q => (sb.2 c (fun q' => hb (by simp [q']))).trans (hk c o (fun q' => hb (by simp [q'])) (fun q' => hb (by simp [q'])) (fun q' => hb (by simp [q'])) (fun q' => hb (by simp [q'])) q)) hf (Nat.le_refl _) new
    refine ⟨.ref s.heap.objs.size, _, I1, rfl, ⟨_, x, y, rfl, I.hok.fresh (Nat.le_refl _), rfl, fun l hl => by rw [gInj I hl hqx]; exact hx, fun l hl => by rw [gInj I hl hqy]; exact hy⟩, ⟨z'', ?_, ⟨u, u2, ?_⟩, ?_, ?_⟩, fun c hcm => ?_⟩
    · exact (sb.2 _ D.TIz).trans (hk _ _ D.TIz D.TITO D.TIi1 D.TIi2 hTI)
    · exact (sb.2 _ D.TOz).trans TO'
    · exact h1'.at fun o q => (sb.2 _ D.i1z).trans q
    · exact h2'.at fun o q => (sb.2 _ D.i2z).trans q
    · have hlt : c < s.heap.objs.size := by
        have e' : c = z ∨ c = TI ∨ c = TO ∨ c = i1 ∨ c = i2 := by simpa using hcm
        rcases e' with q | q | q | q | q
        · rw [q]; exact hzl
        · rw [q]; exact Heap.lt_size hTI
        · rw [q]; exact Heap.lt_size hTO
        · rw [q]; obtain ⟨_, e1, _⟩ := h1; exact Heap.lt_size e1
        · rw [q]; obtain ⟨_, e2, _⟩ := h2; exact Heap.lt_size e2
      rw [upd_ne (Nat.ne_of_lt hlt)]
      exact (hf c hcm).1
  done := by
    intro X hP hw hK hc i pins s σ H E I hf st hg
    subst hP hw hK
    obtain ⟨hz, hTI, ⟨x0, y0, hTO⟩, h1, h2⟩ := st
    obtain ⟨xs, ys, hqx, hqy, hend⟩ := hg
    obtain ⟨its, rv, p⟩ := gSeq I hqx
    obtain ⟨its2, rv2, p2⟩ := gSeq I hqy
    have l1 := rv.length
    have l2 := rv2.length
    have he : its.toArray[i]? = none ∨ its2.toArray[i]? = none := by
      rcases hend with q | q
      · exact .inl (by simp; omega)
      · exact .inr (by simp; omega)
    exact pyNext_zipG_end (I.ok.hd hc) D hz hTI hTO h1 h2 p p2 he fun h' hk => ⟨rfl, I.turnedL (t' := s.toks) (ch := [z, TI, TO, i1, i2]) (fun c o hb q =>
      hk c o (fun q' => hb (by simp [q'])) (fun q' => hb (by simp [q'])) (fun q' => hb (by simp [q'])) (fun q' => hb (by simp [q'])) q) hf⟩
  self := fun A i s Q E st h => wpAny_pyIter_zip st.1 h

def iZipG (K : PySem.W.Frag) (ta : TA) : TI := fun σ H R => ta σ H fun vs H1 => ∃ t1 t2 a b xs ys, vs = [.ref a, .ref b] ∧ SqG t1 K H1 a xs ∧ SqG t2 K H1 b ys ∧ R (ItzG t1 t2 K a b) H1
theorem pi_zipG {X : Cx} {e e2 : Expr} {ta : TA} {p pos tpos : Pos} {elts : List Expr} {kk : Nat} (hg : Gl X "zip") (hm : X.mg "zip" = none) (ha : PA X [e, e2] ta)
    (hs : starEach [e, e2] X.env = (false, eval e X.env) :: starEach [e2] X.env := by rfl) (hpl : (backTo pos (starEach [e2] X.env)).any (·.1) = false := by rfl) :
    PI X (.Tuple elts kk tpos) (.Call (.Name "zip" p) [e, e2] [] pos) (iZipG X.K ta) := by
  refine ⟨fun pins s σ H R I h => ?_⟩
  refine Call_ (ld_blt I hg hm PyProof.Rows.boot_zip (PyProof.Rows.callWith_type1 (thn (ha.run pos pins s σ H _ I h) fun us s1 ⟨vs, H1, I1, r1, q1⟩ => ?_) hs hpl))
  obtain ⟨t1, t2, a, b, xs, ys, ex, hqx, hqy, q⟩ := q1
  subst ex
  cases r1 with
  | cons r rr =>
    cases rr with
    | cons r' rr =>
      cases rr
      cases r
      cases r'
      obtain ⟨its, rv, p1⟩ := gSeq I1 hqx
      obtain ⟨its2, rv2, p2⟩ := gSeq I1 hqy
      obtain ⟨o1, ho1, _⟩ := id p1
      obtain ⟨o2, ho2, _⟩ := id p2
      refine call_zipG p1 p2 fun h' hz hTI hTO h1 h2 hsz hk => wpAny_pyIter_zip hz ?_
      have I2 : Inv X pins σ H1 { s1 with heap := h' } := I1.kept (t' := s1.toks) hk
      refine ⟨s1.heap.objs.size + 4, [s1.heap.objs.size + 4, s1.heap.objs.size + 2, s1.heap.objs.size + 3, s1.heap.objs.size, s1.heap.objs.size + 1], _, _, H1, rfl, I2, turn_zipG (PySem.W.ktu_apart s1.heap.objs.size a b (Heap.lt_size ho1) (Heap.lt_size ho2)), ⟨hz, hTI, ⟨_, _, hTO⟩, h1, h2⟩, fun c hcm => ?_, q⟩
      have hle : s1.heap.objs.size ≤ c := by
        have e' : c = s1.heap.objs.size + 4 ∨ c = s1.heap.objs.size + 2 ∨ c = s1.heap.objs.size + 3 ∨ c = s1.heap.objs.size ∨ c = s1.heap.objs.size + 1 := by simpa using hcm
        rcases e' with z | z | z | z | z <;> rw [z] <;> first | exact Nat.le_add_right _ _ | exact Nat.le_refl _
      exact I1.fpOk hle (I1.hok.fresh hle)
end DA
set_option maxHeartbeats 4000000
/-! DA6: walks of ranges and zips, comprehensions, xs.append -/
namespace DA
open PySem PySem.Spec PyProof.Rows L2

section
variable {ca : Str → Option Addr} {X : Cx} {W : WX} {e a b c tg : Expr} {es : List Expr} {pos p apos : Pos} {x m : Str}

/-! ### range, zip -/
def fits62 (i : Int) : Prop := -(2 ^ 62) ≤ i ∧ i < 2 ^ 62
noncomputable instance (i : Int) : Decidable (fits62 i) := Classical.propDecidable _
def rangeL (lo hi : Int) : List D := (List.range (hi - lo).toNat).map fun (k : Nat) => D.int (lo + k)
theorem rangeL_get {lo hi : Int} {i : Nat} {d : D} (h : (rangeL lo hi)[i]? = some d) : i < (hi - lo).toNat ∧ d = .int (lo + i) := by
  unfold rangeL at h
  rw [List.getElem?_map] at h
  by_cases z : i < (hi - lo).toNat
  · rw [List.getElem?_range z] at h
    exact ⟨z, (Option.some.inj h).symm⟩
  · rw [List.getElem?_eq_none (by simpa using z)] at h; cases h
theorem rangeL_len {lo hi : Int} : (rangeL lo hi).length = (hi - lo).toNat := by unfold rangeL; simp
theorem itOk_range {K : PySem.W.Frag} {lo hi : Int} {n : Nat} (hn : n = (hi - lo).toNat) : ItOk ca K (Itr lo n) (rangeL lo hi) [] [] := by
  subst hn
  intro H0 Fa pre pus ρ σ H F i hp E
  refine ⟨fun d hd => ?_, fun h => by rw [rangeL_len] at h; exact h⟩
  obtain ⟨hlt, rfl⟩ := rangeL_get hd
  refine ⟨hlt, fun x H' ⟨eH, ex⟩ => ?_⟩
  subst eH ex
  exact ⟨E, is_int.mpr rfl⟩
noncomputable def range1 : List D → Out (List D)
  | [.int j] => if fits62 j then .ok (rangeL 0 j) else .stuck
  | _ => .stuck
noncomputable def range2 : List D → Out (List D)
  | [.int i, .int j] => if fits62 i ∧ fits62 j then .ok (rangeL i j) else .stuck
  | _ => .stuck
theorem isL_1 {K : PySem.W.Frag} {H : Hp} {d : D} {vs : List V} (h : IsL ca K H [d] vs) : ∃ v, vs = [v] ∧ Is ca K H d v := by
  obtain ⟨v, vs', rfl, i, r⟩ := isL_cons.mp h
  rw [isL_nil.mp r]
  exact ⟨v, rfl, i⟩
theorem isL_2 {K : PySem.W.Frag} {H : Hp} {d d' : D} {vs : List V} (h : IsL ca K H [d, d'] vs) : ∃ v v', vs = [v, v'] ∧ Is ca K H d v ∧ Is ca K H d' v' := by
  obtain ⟨v, vs', rfl, i, r⟩ := isL_cons.mp h
  obtain ⟨v', rfl, i'⟩ := isL_1 r
  exact ⟨v, v', rfl, i, i'⟩
theorem isL_3 {K : PySem.W.Frag} {H : Hp} {d d' d2 : D} {vs : List V} (h : IsL ca K H [d, d', d2] vs) : ∃ v v' v2, vs = [v, v', v2] ∧ Is ca K H d v ∧ Is ca K H d' v' ∧ Is ca K H d2 v2 := by
  obtain ⟨v, vs', rfl, i, r⟩ := isL_cons.mp h
  obtain ⟨v', v2, rfl, i', i2⟩ := isL_2 r
  exact ⟨v, v', v2, rfl, i, i', i2⟩
theorem ei_range1 {f : Rn → Out (List D)} (hm : X.mg "range" = none) (h : EA ca X W [a] f) (hg : Gl X "range" := by rfl) (hs : starEach [a] X.env = [(false, eval a X.env)] := by rfl) : EI ca X W tg (.Call (.Name "range" p) [a] [] pos) (fun ρ => (f ρ).bind range1) := by
  obtain ⟨ta, pa, ha⟩ := h
  refine ⟨_, pi_range1 hg hm pa hs, fun H0 Fa ts us ρ σ H R hl E o => ha H0 Fa ts us ρ σ H _ hl E (o.bind.imp (fun ds o vs H2 F E2 i => ?_) fun n q => q)⟩
  unfold range1 at o
  split at o
  · rename_i j
    split at o
    · rename_i z
      obtain ⟨v, rfl, iv⟩ := isL_1 i
      rw [is_int.mp iv]
      exact ⟨j, rfl, z.1, z.2, o (Itr 0 j.toNat) H2 [] [] rfl ⟨F, E2⟩ (itOk_range (by simp))⟩
    · exact o.elim
  · exact o.elim
theorem ei_range2 {f : Rn → Out (List D)} (hm : X.mg "range" = none) (h : EA ca X W [a, b] f) (hg : Gl X "range" := by rfl) (hs : starEach [a, b] X.env = [(false, eval a X.env), (false, eval b X.env)] := by rfl) (hs2 : starEach [b] X.env = [(false, eval b X.env)] := by rfl) :
    EI ca X W tg (.Call (.Name "range" p) [a, b] [] pos) (fun ρ => (f ρ).bind range2) := by
  obtain ⟨ta, pa, ha⟩ := h
  refine ⟨_, pi_range2 hg hm pa hs hs2, fun H0 Fa ts us ρ σ H R hl E o => ha H0 Fa ts us ρ σ H _ hl E (o.bind.imp (fun ds o vs H2 F E2 i => ?_) fun n q => q)⟩
  unfold range2 at o
  split at o
  · rename_i j k
    split at o
    · rename_i z
      obtain ⟨v, v', rfl, iv, iv'⟩ := isL_2 i
      rw [is_int.mp iv, is_int.mp iv']
      exact ⟨j, k, rfl, ⟨z.1.1, z.1.2, z.2.1, z.2.2⟩, o (Itr j (k - j).toNat) H2 [] [] rfl ⟨F, E2⟩ (itOk_range rfl)⟩
    · exact o.elim
  · exact o.elim
def zipL (ds es : List D) : List D := List.zipWith (fun a b => D.tup [a, b]) ds es
theorem zipL_get {ds es : List D} {i : Nat} {d : D} (h : (zipL ds es)[i]? = some d) : ∃ x y, ds[i]? = some x ∧ es[i]? = some y ∧ d = .tup [x, y] := by
  unfold zipL at h
  rw [List.getElem?_zipWith] at h
  cases e1 : ds[i]? with
  | none => rw [e1] at h; simp at h
  | some x =>
    cases e2 : es[i]? with
    | none => rw [e1, e2] at h; simp at h
    | some y =>
      rw [e1, e2] at h
      exact ⟨x, y, rfl, rfl, (Option.some.inj h).symm⟩
theorem zipL_len {ds es : List D} {i : Nat} (h : (zipL ds es).length ≤ i) : ds.length ≤ i ∨ es.length ≤ i := by
  unfold zipL at h
  rw [List.length_zipWith] at h
  omega
/-- a pair laid anew -/
theorem pair_new {K : PySem.W.Frag} {H0 H : Hp} {Fa F : List Addr} {ρ : Rn} {σ : L2.St} {T : Addr} {x y : V} {d e : D} (E : EnvF ca K H0 Fa ρ σ H F) (hT : H T = none) (i1 : Is ca K (cut H (Fa ++ F)) d x) (i2 : Is ca K (cut H (Fa ++ F)) e y) :
    EnvF ca K H0 Fa ρ σ (upd H T (.tup [x, y])) F ∧ Is ca K (cut (upd H T (.tup [x, y])) (Fa ++ F)) (.tup [d, e]) (.ref T) := by
  have k : ∀ a u, H a = some u → (upd H T (.tup [x, y])) a = some u := fun a u q => by rw [upd_ne (ne_of_none q hT)]; exact q
  have E2 := E.same k
  have nT : T ∉ Fa ++ F := fun z => (E.muG T z).ne hT
  have l : Le (cut H (Fa ++ F)) (cut (upd H T (.tup [x, y])) (Fa ++ F)) := (Le.of_same k).cut (fun _ n _ => n) fun a ha => (E2.muG a ha).ne
  exact ⟨E2, is_tup.mpr ⟨T, [x, y], rfl, (cut_out nT).trans upd_same, IsL.cons (i1.le l) (IsL.cons (i2.le l) IsL.nil)⟩⟩
theorem sq_whole {K : PySem.W.Frag} {H : Hp} {G : List Addr} {a : Addr} {vs : List V} (h : SqL K (cut H G) a vs) : SqL K H a vs := by
  rcases h with h | h
  · exact .inl (rd_cut h).2
  · exact .inr h
def lstD (t : Bool) (ds : List D) : D := match t with
  | true => .tup ds
  | false => .lst ds
theorem is_lstD {K : PySem.W.Frag} {H : Hp} {G : List Addr} {t : Bool} {ds : List D} {v : V} (h : Is ca K (cut H G) (lstD t ds) v) : ∃ a vs, v = .ref a ∧ SqG t K H a vs ∧ IsL ca K (cut H G) ds vs := by
  cases t with
  | true => obtain ⟨a, vs, e, hq, r⟩ := is_tup.mp h; exact ⟨a, vs, e, .inl (.inl (cut_some hq).2), r⟩
  | false => obtain ⟨a, vs, e, hq, r⟩ := is_lst.mp h; exact ⟨a, vs, e, sq_whole hq, r⟩
theorem itOk_zipG {K : PySem.W.Frag} {t1 t2 : Bool} {a b : Addr} {ds es : List D} : ItOk ca K (ItzG t1 t2 K a b) (zipL ds es) [some (.dat (lstD t1 ds)), some (.dat (lstD t2 es))] [some (.ref a), some (.ref b)] := by
  intro H0 Fa pre pus ρ σ H F i hp E
  have i1 := EnvF.at0 (ρ := _ :: ρ) (σ := _ :: σ) E hp
  have i2 := EnvF.at1 E hp
  obtain ⟨a', vs, ea, q1, r⟩ := is_lstD i1
  cases ea
  obtain ⟨b', ws, eb, q2, r2⟩ := is_lstD i2
  cases eb
  refine ⟨fun d hd => ?_, fun h => ⟨vs, ws, q1, q2, by rw [← r.len, ← r2.len]; exact zipL_len h⟩⟩
  obtain ⟨x, y, hx, hy, rfl⟩ := zipL_get hd
  obtain ⟨u, hu, iu⟩ := r.get hx
  obtain ⟨w, hw, iw⟩ := r2.get hy
  refine ⟨⟨vs, ws, u, w, q1, q2, hu, hw⟩, fun z H' ⟨T, x', y', ez, hT, eH, f1, f2⟩ => ?_⟩
  subst ez eH
  have e1 := f1 vs q1
  have e2 := f2 ws q2
  rw [hu] at e1; rw [hw] at e2
  cases e1; cases e2
  exact pair_new E hT iu iw
def seqB : D → Option (Bool × List D)
  | .lst ds => some (false, ds)
  | .tup ds => some (true, ds)
  | _ => none
theorem seqB_eq {d : D} {t : Bool} {ds : List D} (h : seqB d = some (t, ds)) : d = lstD t ds := by
  cases d <;> cases h <;> rfl
def zip2 : List D → Out (List D)
  | [d, e] => match seqB d, seqB e with
    | some (_, ds), some (_, es) => .ok (zipL ds es)
    | _, _ => .stuck
  | _ => .stuck
theorem ei_zip {elts : List Expr} {kk : Nat} {tpos : Pos} {f : Rn → Out (List D)} (hm : X.mg "zip" = none) (h : EA ca X W [a, b] f) (hg : Gl X "zip" := by rfl)
    (hs : starEach [a, b] X.env = (false, eval a X.env) :: starEach [b] X.env := by rfl) (hpl : (backTo pos (starEach [b] X.env)).any (·.1) = false := by rfl) :
    EI ca X W (.Tuple elts kk tpos) (.Call (.Name "zip" p) [a, b] [] pos) (fun ρ => (f ρ).bind zip2) := by
  obtain ⟨ta, pa, ha⟩ := h
  refine ⟨_, pi_zipG hg hm pa hs hpl, fun H0 Fa ts us ρ σ H R hl E o => ha H0 Fa ts us ρ σ H _ hl E (o.bind.imp (fun ds o vs H2 F E2 i => ?_) fun n q => q)⟩
  unfold zip2 at o
  split at o
  · split at o
    · rename_i d e t1 x1 t2 x2 h1 h2
      rw [seqB_eq h1, seqB_eq h2] at i
      obtain ⟨v, v', rfl, i1, i2⟩ := isL_2 i
      obtain ⟨a', vs, rfl, hq, r⟩ := is_lstD i1
      obtain ⟨b', ws, rfl, hq2, r2⟩ := is_lstD i2
      exact ⟨_, _, a', b', vs, ws, rfl, hq, hq2, o (ItzG t1 t2 X.K a' b') H2 [some (.dat (lstD t1 x1)), some (.dat (lstD t2 x2))] [some (.ref a'), some (.ref b')] rfl ⟨F, (E2.top i2).top i1⟩ itOk_zipG⟩
    · exact o.elim
  · exact o.elim

/-! ### comprehensions -/
/-- the slots as a comprehension's block sees them: data alone, its own names empty -/
def wipeR (vs : List Nat) (ρ : Rn) : Rn := (List.range ρ.length).map fun j => if j ∈ vs then none else match ρ[j]? with
  | some (some (.dat d)) => some (.dat d)
  | _ => none
theorem wipe_get {σ : L2.St} {j : Nat} : ∀ {vs : List Nat}, j ∉ vs → (wipe σ vs)[j]? = σ[j]?
  | [], _ => rfl
  | v :: vs, h => by
    unfold wipe
    simp only [List.mem_cons, not_or] at h
    rw [List.getElem?_set_ne (fun e => h.1 e.symm)]
    exact wipe_get h.2
theorem wipe_at {σ : L2.St} {j : Nat} (hj : j < σ.length) : ∀ {vs : List Nat}, j ∈ vs → (wipe σ vs)[j]? = some none
  | [], h => by cases h
  | v :: vs, h => by
    unfold wipe
    by_cases e : v = j
    · subst e
      rw [List.getElem?_set_self (by rw [wipe_length]; exact hj)]
    · rw [List.getElem?_set_ne e]
      exact wipe_at hj (by rcases List.mem_cons.mp h with z | z; exact absurd z.symm e; exact z)
theorem wipe_same {σ σ' : L2.St} {vs : List Nat} (hl : σ'.length = σ.length) (h : ∀ j, j ∉ vs → σ'[j]? = σ[j]?) : wipe σ' vs = wipe σ vs := by
  refine List.ext_getElem? fun j => ?_
  by_cases hj : j ∈ vs
  · by_cases hlt : j < σ.length
    · rw [wipe_at hlt hj, wipe_at (by rw [hl]; exact hlt) hj]
    · rw [List.getElem?_eq_none (by rw [wipe_length, hl]; omega), List.getElem?_eq_none (by rw [wipe_length]; omega)]
  · rw [wipe_get hj, wipe_get hj, h j hj]
theorem wipe_wipe {σ : L2.St} {vs : List Nat} : wipe (wipe σ vs) vs = wipe σ vs := wipe_same (wipe_length _ _) fun j hj => wipe_get hj
theorem OwS.data {K : PySem.W.Frag} {G : List Addr} {H : Hp} : ∀ {ρ : Rn} {σ : L2.St}, ρ.length = σ.length → (∀ (j : Nat) (m : M), ρ[j]? = some (some m) → ∃ d v, m = .dat d ∧ σ[j]? = some (some v) ∧ Is ca K (cut H G) d v) → OwS ca K G H ρ σ []
  | [], [], _, _ => OwS.nil
  | o :: ρ, w :: σ, hl, h => by
    have r : OwS ca K G H ρ σ [] := OwS.data (by simpa using hl) fun j m q => by
      obtain ⟨d, v, e1, e2, i⟩ := h (j + 1) m (by simpa using q)
      exact ⟨d, v, e1, by simpa using e2, i⟩
    refine OwS.cons (F1 := []) ?_ r
    cases o with
    | none => exact rfl
    | some m =>
      obtain ⟨d, v, rfl, e2, i⟩ := h 0 m rfl
      have e2 : w = some v := Option.some.inj e2
      exact ⟨v, e2, ow_dat.mpr ⟨rfl, i⟩⟩
  | [], _ :: _, hl, _ => by simp at hl
  | _ :: _, [], hl, _ => by simp at hl
theorem wipeR_len {vs : List Nat} {ρ : Rn} : (wipeR vs ρ).length = ρ.length := by unfold wipeR; simp
theorem EnvF.block {K : PySem.W.Frag} {H0 H : Hp} {Fa F : List Addr} {ts ρ : Rn} {us σ : L2.St} (E : EnvF ca K H0 Fa (ts ++ ρ) (us ++ σ) H F) (hl : ts.length = us.length) (vs : List Nat) : EnvF ca K H0 Fa ((ts ++ ρ) ++ wipeR vs ρ) ((us ++ σ) ++ wipe σ vs) H F := by
  have len := E.own.len
  simp only [List.length_append] at len
  have q : OwS ca K (Fa ++ F) H (wipeR vs ρ) (wipe σ vs) [] := OwS.data (by rw [wipeR_len, wipe_length]; omega) fun j m q => by
    unfold wipeR at q
    rw [List.getElem?_map] at q
    by_cases hj : j < ρ.length
    · rw [List.getElem?_range hj] at q
      simp only [Option.map_some] at q
      by_cases hv : j ∈ vs
      · rw [if_pos hv] at q; cases q
      · rw [if_neg hv] at q
        split at q
        · rename_i d hd
          injection q with q
          injection q with q
          subst q
          obtain ⟨v, e, i⟩ := E.get (i := ts.length + j) (by rw [drop_get]; exact hd)
          rw [hl, drop_get] at e
          exact ⟨d, v, rfl, by rw [wipe_get hv]; exact e, i⟩
        · cases q
    · rw [List.getElem?_eq_none (by simpa using hj)] at q; cases q
  have z := E.own.app q
  rw [List.append_nil] at z
  exact ⟨E.le, E.keep, E.mu, E.nd, E.fresh, z⟩
/-- the tests of a comprehension -/
def ETs (ca : Str → Option Addr) (X : Cx) (W : WX) (ifs : List Expr) (t : Rn → Out Bool) : Prop := ∃ tt, PTs X ifs tt ∧ EvB ca X.K W tt t
theorem et_nil : ETs ca X W [] (fun _ => .ok true) := ⟨_, pts_nil, fun H0 Fa ts us ρ σ H Q hl E o => o H E⟩
theorem et_one {t : Rn → Out Bool} (h : EB ca X W a t) : ETs ca X W [a] t := let ⟨_, p, h⟩ := h; ⟨_, pts_one p, h⟩
def compD (g : D → Rn → Out Rn) (t : Rn → Out Bool) (f : Rn → Out D) (ρ : Rn) : List D → Out (List D)
  | [] => .ok []
  | d :: ds => (g d ρ).nx.bind fun ρ1 => (t ρ1).nx.bind fun x => if x then (f ρ1).nx.bind fun y => (compD g t f ρ ds).map (y :: ·) else compD g t f ρ ds
abbrev W0 : WX := fun _ _ _ _ => False
def lcD (fi : Rn → Out (List D)) (vs : List Nat) (g : D → Rn → Out Rn) (t : Rn → Out Bool) (f : Rn → Out D) (ρ : Rn) : Out M := (fi ρ).bind fun ds => (compD g t f (wipeR vs ρ) ds).nx.bind fun ys => if ys.length ≤ sizeLine then .ok (.lst (ys.map .dat)) else .stuck
theorem compD_get {g : D → Rn → Out Rn} {t : Rn → Out Bool} {f : Rn → Out D} {ρ : Rn} : ∀ {ds : List D} {i : Nat} {d : D}, ds[i]? = some d → ds.drop i = d :: ds.drop (i + 1) := fun {ds i d} h => by
  obtain ⟨hlt, e⟩ := List.getElem?_eq_some_iff.mp h
  rw [List.drop_eq_getElem_cons hlt, e]
theorem lc_den {K : PySem.W.Frag} {wi : TI} {tt : TG} {tte : TT} {te : TE} {is vs : List Nat} {fi : Rn → Out (List D)} {g : D → Rn → Out Rn} {t : Rn → Out Bool} {f : Rn → Out D} (hi : ItM ca K W wi fi) (hg : TgI ca K tt is g) (ht : EvB ca K W0 tte t) (he : EvD ca K W0 te f) (hsub : ∀ j ∈ is, j ∈ vs) :
    EvM ca K W (tLc wi tt tte te vs) (lcD fi vs g t f) := by
  intro H0 Fa ts us ρ σ H Q hl E o
  refine hi H0 Fa ts us ρ σ H _ hl E (OutE.bind o |>.imp (fun ds o Jt H1 ms ws hm E1 ok Dl hD => ?_) fun n q => q)
  cases eC : compD g t f (wipeR vs ρ) ds with
  | stuck => rw [eC] at o; exact o.elim
  | exc n => rw [eC] at o; exact o.elim
  | ok ys =>
    rw [eC] at o
    have o : OutE (if ys.length ≤ sizeLine then Out.ok (M.lst (ys.map .dat)) else .stuck) _ _ := o
    by_cases hz : ys.length ≤ sizeLine
    · rw [if_pos hz] at o
      have o : ∀ v H2, Env ca K H0 Fa (some (.lst (ys.map .dat)) :: (ts ++ ρ)) (some v :: (us ++ σ)) H2 → Q v H2 := o
      obtain ⟨F1, E1⟩ := E1
      -- the block's stack
      have E1b : EnvF ca K H0 Fa ((ms ++ (ts ++ ρ)) ++ wipeR vs ρ) ((ws ++ (us ++ σ)) ++ wipe σ vs) H1 F1 := by
        have q := EnvF.block (ts := ms ++ ts) (us := ws ++ us) (ρ := ρ) (σ := σ) (by rw [List.append_assoc, List.append_assoc]; exact E1) (by simp [hl, hm]) vs
        simpa only [List.append_assoc] using q
      have hnG : Dl ∉ Fa ++ F1 := fun z => (E1.muG Dl z).ne hD
      have E2 : EnvF ca K H0 Fa (some (.lst (([] : List D).map .dat)) :: ((ms ++ (ts ++ ρ)) ++ wipeR vs ρ)) (some (.ref Dl) :: ((ws ++ (us ++ σ)) ++ wipe σ vs)) (upd H1 Dl (.lst [])) ([Dl] ++ F1) :=
        E1b.push (F' := [Dl]) (Le.new hD) (fun a ha => upd_ne fun e => hnG (e ▸ ha)) (by simp) (fun a ha => by
          have e : a = Dl := by simpa using ha
          subst e; exact hD) (ow_lst.mpr ⟨Dl, [], [], rfl, upd_same, owL_nil.mpr ⟨rfl, rfl⟩, rfl⟩)
      have lenB : ((ms ++ (ts ++ ρ)) ++ wipeR vs ρ).length = ((ws ++ (us ++ σ)) ++ wipe σ vs).length := E1b.own.len
      refine ⟨fun i n H' => ∃ done, n = ds.length - i ∧ Env ca K H0 Fa (some (.lst (done.map .dat)) :: ((ms ++ (ts ++ ρ)) ++ wipeR vs ρ)) (some (.ref Dl) :: ((ws ++ (us ++ σ)) ++ wipe σ vs)) H' ∧ ∃ rest, compD g t f (wipeR vs ρ) (ds.drop i) = .ok rest ∧ ys = done ++ rest,
        ⟨_, [], rfl, ⟨_, E2⟩, ys, by simpa using eC, rfl⟩, ?_⟩
      rintro i n H' ⟨done, rfl, ⟨F', E'⟩, rest, hrest, hys⟩
      have E'' : EnvF ca K H0 Fa ([some (.lst (done.map .dat))] ++ (ms ++ ((ts ++ ρ) ++ wipeR vs ρ))) ([some (.ref Dl)] ++ (ws ++ ((us ++ σ) ++ wipe σ vs))) H' F' := by simpa only [List.append_assoc, List.singleton_append, List.cons_append, List.nil_append] using E'
      obtain ⟨hgo, hstop⟩ := ok H0 Fa _ _ _ _ H' F' i rfl E''
      by_cases hlt : i < ds.length
      · have hd : ds[i]? = some ds[i] := List.getElem?_eq_getElem hlt
        obtain ⟨go, yl⟩ := hgo _ hd
        refine .inr ⟨go, fun H3 => ∃ done', Env ca K H0 Fa (some (.lst (done'.map .dat)) :: ((ms ++ (ts ++ ρ)) ++ wipeR vs ρ)) (some (.ref Dl) :: ((ws ++ (us ++ σ)) ++ wipe σ vs)) H3 ∧ ∃ rest', compD g t f (wipeR vs ρ) (ds.drop (i + 1)) = .ok rest' ∧ ys = done' ++ rest',
          fun H3 ⟨done', E3, r3⟩ => ⟨ds.length - (i + 1), by omega, done', rfl, E3, r3⟩, fun x H3 hy => ?_⟩
        obtain ⟨E3, ix⟩ := yl x H3 hy
        have E4 : EnvF ca K H0 Fa ((some (.lst (done.map .dat)) :: (ms ++ (ts ++ ρ))) ++ wipeR vs ρ) ((some (.ref Dl) :: (ws ++ (us ++ σ))) ++ wipe σ vs) H3 F' := by simpa only [List.append_assoc, List.singleton_append, List.cons_append, List.nil_append] using E3
        rw [List.drop_eq_getElem_cons hlt] at hrest
        unfold compD at hrest
        have lenT : (some (M.lst (done.map .dat)) :: (ms ++ (ts ++ ρ))).length = (some (V.ref Dl) :: (ws ++ (us ++ σ))).length := by
          have z := E1.own.len
          simp only [List.length_cons]
          omega
        cases eg : g ds[i] (wipeR vs ρ) with
        | stuck => rw [eg] at hrest; cases hrest
        | exc n => rw [eg] at hrest; cases hrest
        | ok ρ1 =>
          rw [eg] at hrest
          have hrest : ((t ρ1).nx.bind fun x => if x then (f ρ1).nx.bind fun y => (compD g t f (wipeR vs ρ) (ds.drop (i + 1))).map (y :: ·) else compD g t f (wipeR vs ρ) (ds.drop (i + 1))) = .ok rest := hrest
          refine hg H0 Fa _ _ _ _ H3 F' ds[i] x _ lenT E4 ix ?_
          rw [eg]
          intro σ1 H5 E5 l5 k5
          have hw : wipe σ1 vs = wipe σ vs := by
            rw [← wipe_wipe (σ := σ)]
            exact wipe_same l5 fun j hj => k5 j fun z => hj (hsub j z)
          refine ⟨hw, ?_⟩
          refine ht H0 Fa _ _ ρ1 σ1 H5 _ lenT E5 ?_
          cases et : t ρ1 with
          | stuck => rw [et] at hrest; cases hrest
          | exc n => rw [et] at hrest; cases hrest
          | ok bb =>
            rw [et] at hrest
            have hrest : (if bb then (f ρ1).nx.bind fun y => (compD g t f (wipeR vs ρ) (ds.drop (i + 1))).map (y :: ·) else compD g t f (wipeR vs ρ) (ds.drop (i + 1))) = .ok rest := hrest
            intro H6 E6
            -- the slots of the block as they were
            have again : ∀ {dn : List D} {H7 : Hp}, Env ca K H0 Fa ((some (.lst (dn.map .dat)) :: (ms ++ (ts ++ ρ))) ++ ρ1) ((some (.ref Dl) :: (ws ++ (us ++ σ))) ++ σ1) H7 → Env ca K H0 Fa (some (.lst (dn.map .dat)) :: ((ms ++ (ts ++ ρ)) ++ wipeR vs ρ)) (some (.ref Dl) :: ((ws ++ (us ++ σ)) ++ wipe σ vs)) H7 := fun {dn H7} E7 => by
              obtain ⟨F8, E8⟩ := Env.head (by have z := E1.own.len; simp only [List.length_cons]; omega) E7
              have q := EnvF.block (ts := some (.lst (dn.map .dat)) :: (ms ++ ts)) (us := some (.ref Dl) :: (ws ++ us)) (ρ := ρ) (σ := σ) (F := F8) (by simpa only [List.append_assoc, List.cons_append] using E8) (by simp [hl, hm]) vs
              exact ⟨F8, by simpa only [List.append_assoc, List.cons_append] using q⟩
            cases bb with
            | false =>
              simp only [Bool.false_eq_true, if_false] at hrest ⊢
              exact ⟨done, again E6, rest, hrest, hys⟩
            | true =>
              simp only [if_true] at hrest ⊢
              refine he H0 Fa _ _ ρ1 σ1 H6 _ lenT E6 ?_
              cases ef : f ρ1 with
              | stuck => rw [ef] at hrest; cases hrest
              | exc n => rw [ef] at hrest; cases hrest
              | ok y =>
                rw [ef] at hrest
                have hrest : (compD g t f (wipeR vs ρ) (ds.drop (i + 1))).map (y :: ·) = .ok rest := hrest
                intro yv H7 F7 E7 iy
                cases ec : compD g t f (wipeR vs ρ) (ds.drop (i + 1)) with
                | stuck => rw [ec] at hrest; cases hrest
                | exc n => rw [ec] at hrest; cases hrest
                | ok rest' =>
                  rw [ec] at hrest
                  have er : y :: rest' = rest := by
                    have z : Out.ok (y :: rest') = Out.ok rest := hrest
                    injection z
                  obtain ⟨l, xs, e1, e2, e3, e4⟩ := E7.append (i := 0) (ms := done.map .dat) rfl iy
                  have el : Dl = l := by
                    injection e1 with e1
                    injection e1 with e1
                    injection e1
                  subst el
                  refine ⟨xs, e2, ?_, done ++ [y], again (dn := done ++ [y]) ?_, rest', rfl, by rw [hys, ← er, List.append_assoc]; rfl⟩
                  · rw [e3, List.length_map]
                    have z : ys.length = done.length + rest.length := by rw [hys, List.length_append]
                    rw [← er, List.length_cons] at z
                    omega
                  · rw [List.map_append]
                    exact e4
      · refine .inl ⟨hstop (by omega), o _ _ ?_⟩
        rw [List.drop_eq_nil_of_le (by omega)] at hrest
        have er : rest = [] := by
          have z : Out.ok [] = Out.ok rest := hrest
          injection z with z
          exact z.symm
        rw [hys, er, List.append_nil]
        have q : Env ca K H0 Fa ([some (.lst (done.map .dat))] ++ (ms ++ ((ts ++ ρ) ++ wipeR vs ρ))) ([some (.ref Dl)] ++ (ws ++ ((us ++ σ) ++ wipe σ vs))) H' := ⟨F', E''⟩
        have q2 := Env.part (A := [some (.lst (done.map .dat))]) (a := [some (.ref Dl)]) rfl hm q
        have lenS : (ts ++ ρ).length = (us ++ σ).length := by
          have z := E1.own.len
          simp only [List.length_append] at z ⊢
          omega
        have q3 : Env ca K H0 Fa (([some (.lst (done.map .dat))] ++ (ts ++ ρ)) ++ wipeR vs ρ) (([some (.ref Dl)] ++ (us ++ σ)) ++ wipe σ vs) H' := by simpa only [List.append_assoc] using q2
        exact Env.head (by simp only [List.length_append, List.length_cons, List.length_nil] at lenS ⊢; omega) q3
    · rw [if_neg hz] at o; exact o.elim
/-- [elt for target in iter if ..] -/
theorem em_lc {k : Nat} {elt iter : Expr} {ifs : List Expr} {scope : Scope} {own : List (Str × Nat)} {is : List Nat} {fi : Rn → Out (List D)} {g : D → Rn → Out Rn} {t : Rn → Out Bool} {f : Rn → Out D} {tt : TG} {tte : TT} {te : TE} (J : JX X W k) (hi : EI ca X W tg iter fi) (ok : BlkOk X.N X.env.scope scope own)
    (hgp : ∀ (s : Shared) (H : Hp) (C : Addr) (cl : List (Str × Addr)) (fp : List Addr), PG (X.blk s H scope (compEnvC scope cl C X.env) fp) tg tt) (hg : TgI ca X.K tt is g)
    (htp : ∀ (s : Shared) (H : Hp) (C : Addr) (cl : List (Str × Addr)) (fp : List Addr), PTs (X.blk s H scope (compEnvC scope cl C X.env) fp) ifs tte) (ht : EvB ca X.K W0 tte t)
    (hep : ∀ (s : Shared) (H : Hp) (C : Addr) (cl : List (Str × Addr)) (fp : List Addr), PE (X.blk s H scope (compEnvC scope cl C X.env) fp) elt te) (he : EvD ca X.K W0 te f) (hsub : ∀ j ∈ is, j ∈ own.map (·.2)) (hs : ∀ x, foldedSetIterable iter X.env x = pure x := by intro _; rfl) :
    EM ca X W (.ListComp elt [⟨tg, iter, ifs, 0⟩] scope pos) (lcD fi (own.map (·.2)) g t f) := by
  obtain ⟨wi, pi, hi⟩ := hi
  exact ⟨_, pe_lc J.calm J.nd pi ok hgp htp hep hs, lc_den hi hg ht he hsub⟩
end
end DA
set_option maxHeartbeats 4000000
/-! DA7: operators and built-ins on data -/
namespace DA
open PySem PySem.Spec PyProof.Rows L2

section
variable {ca : Str → Option Addr} {X : Cx} {W : WX} {e a b c tg : Expr} {es : List Expr} {pos p apos : Pos} {x m : Str} {K : PySem.W.Frag}

/-- a family of readings read as one -/
theorem em_lcF {k : Nat} {elt iter : Expr} {ifs : List Expr} {scope : Scope} {own : List (Str × Nat)} {is : List Nat} {fi : Rn → Out (List D)} {g : D → Rn → Out Rn} {t : Rn → Out Bool} {f : Rn → Out D} (J : JX X W k) (hi : EI ca X W tg iter fi) (ok : BlkOk X.N X.env.scope scope own)
    (hg : ∀ (s : Shared) (H : Hp) (C : Addr) (cl : List (Str × Addr)) (fp : List Addr), JX (X.blk s H scope (compEnvC scope cl C X.env) fp) W0 k → TGi ca (X.blk s H scope (compEnvC scope cl C X.env) fp) tg is g)
    (ht : ∀ (s : Shared) (H : Hp) (C : Addr) (cl : List (Str × Addr)) (fp : List Addr), JX (X.blk s H scope (compEnvC scope cl C X.env) fp) W0 k → ETs ca (X.blk s H scope (compEnvC scope cl C X.env) fp) W0 ifs t)
    (he : ∀ (s : Shared) (H : Hp) (C : Addr) (cl : List (Str × Addr)) (fp : List Addr), JX (X.blk s H scope (compEnvC scope cl C X.env) fp) W0 k → ED ca (X.blk s H scope (compEnvC scope cl C X.env) fp) W0 elt f)
    (hsub : ∀ j ∈ is, j ∈ own.map (·.2)) (hs : ∀ x, foldedSetIterable iter X.env x = pure x := by intro _; rfl) :
    EM ca X W (.ListComp elt [⟨tg, iter, ifs, 0⟩] scope pos) (lcD fi (own.map (·.2)) g t f) := by
  have jb : ∀ (s : Shared) (H : Hp) (C : Addr) (cl : List (Str × Addr)) (fp : List Addr), JX (X.blk s H scope (compEnvC scope cl C X.env) fp) W0 k := fun s H C cl fp => ⟨J.calm, takes0, J.nd, PassesOwn.never, J.room⟩
  have g1 := fun (z : Shared × Hp × Addr × List (Str × Addr) × List Addr) => hg z.1 z.2.1 z.2.2.1 z.2.2.2.1 z.2.2.2.2 (jb _ _ _ _ _)
  have t1 := fun (z : Shared × Hp × Addr × List (Str × Addr) × List Addr) => ht z.1 z.2.1 z.2.2.1 z.2.2.2.1 z.2.2.2.2 (jb _ _ _ _ _)
  have e1 := fun (z : Shared × Hp × Addr × List (Str × Addr) × List Addr) => he z.1 z.2.1 z.2.2.1 z.2.2.2.1 z.2.2.2.2 (jb _ _ _ _ _)
  refine em_lc (tt := fun v σ H Q => ∀ z, Classical.choose (g1 z) v σ H Q) (tte := fun σ H Q => ∀ z, Classical.choose (t1 z) σ H Q) (te := fun σ H Q => ∀ z, Classical.choose (e1 z) σ H Q) J hi ok ?_ ?_ ?_ ?_ ?_ ?_ hsub hs
  · intro s H C cl fp
    have q := (Classical.choose_spec (g1 (s, H, C, cl, fp))).1
    exact ⟨fun pins s1 σ H1 v u Q I r h => q.run pins s1 σ H1 v u Q I r (h (s, H, C, cl, fp))⟩
  · intro H0 Fa ts us ρ σ H F d v Q hl E i o z
    exact (Classical.choose_spec (g1 z)).2 H0 Fa ts us ρ σ H F d v Q hl E i o
  · intro s H C cl fp
    have q := (Classical.choose_spec (t1 (s, H, C, cl, fp))).1
    exact ⟨fun pins s1 σ H1 Q I h => q.run pins s1 σ H1 Q I (h (s, H, C, cl, fp))⟩
  · intro H0 Fa ts us ρ σ H Q hl E o z
    exact (Classical.choose_spec (t1 z)).2 H0 Fa ts us ρ σ H Q hl E o
  · intro s H C cl fp
    have q := (Classical.choose_spec (e1 (s, H, C, cl, fp))).1
    exact ⟨fun pins s1 σ H1 Q I h => q.run pins s1 σ H1 Q I (h (s, H, C, cl, fp))⟩
  · intro H0 Fa ts us ρ σ H Q hl E o z
    exact (Classical.choose_spec (e1 z)).2 H0 Fa ts us ρ σ H Q hl E o

/-! ### ints -/
def intOp (C : Int → Int → Prop) [∀ i j, Decidable (C i j)] (g : Int → Int → D) : D → D → Out D
  | .int i, .int j => if C i j then .ok (g i j) else .stuck
  | _, _ => .stuck
def intOp0 (g : Int → Int → D) : D → D → Out D
  | .int i, .int j => .ok (g i j)
  | _, _ => .stuck
/-- flat answers, as values -/
theorem opd_int {C : Int → Int → Prop} [∀ i j, Decidable (C i j)] {C' : Int → Int → Prop} {g : Int → Int → D} {g' : Int → Int → V} (hC : ∀ i j, C i j → C' i j) (hg : ∀ H i j, Is ca K H (g i j) (g' i j)) : OpD ca K (rI C' g') (intOp C g) := by
  intro G H d1 d2 v1 v2 Q mu i1 i2 o
  unfold intOp at o
  split at o
  · rename_i i j
    split at o
    · rename_i z
      exact ⟨i, j, is_int.mp i1, is_int.mp i2, hC i j z, o _ H (fun _ _ h => h) (hg _ i j)⟩
    · exact o.elim
  · exact o.elim
theorem opd_int0 {g : Int → Int → D} {g' : Int → Int → V} (hg : ∀ H i j, Is ca K H (g i j) (g' i j)) : OpD ca K (rI0 g') (intOp0 g) := by
  intro G H d1 d2 v1 v2 Q mu i1 i2 o
  unfold intOp0 at o
  split at o
  · rename_i i j
    exact ⟨i, j, is_int.mp i1, is_int.mp i2, o _ H (fun _ _ h => h) (hg _ i j)⟩
  · exact o.elim
def bits (i : Int) : Nat := Builtin.Int.intBits i
def MulC (i j : Int) : Prop := bits i ≤ 64 ∨ bits j ≤ 64 ∨ bits i + bits j ≤ 134217728
noncomputable instance (i j : Int) : Decidable (MulC i j) := Classical.propDecidable _
theorem MulC.ok {i j : Int} (h : MulC i j) : IntMulOk i j := by
  rcases h with h | h | h
  · exact .of_left h
  · exact .of_right h
  · exact .of_le (m := bits i) (n := bits j) (Nat.le_refl _) (Nat.le_refl _) h
theorem op_mulG : OpR X (binaryOp .Mult) (rI MulC fun i j => .int (i * j)) := opI fun _ _ _ _ _ _ _ hc q => mul_int q hc.ok
def DivC (_ j : Int) : Prop := j ≠ 0 ∧ j.natAbs.log2 < 9000
noncomputable instance (i j : Int) : Decidable (DivC i j) := Classical.propDecidable _
theorem op_fdivG : OpR X (binaryOp .FloorDiv) (rI DivC fun i j => .int (i.fdiv j)) := opI fun i j _ _ _ _ _ hc q => floordiv_int hc.1 q (.inl (PyProof.noPylong_of_log2 hc.2))
def NzC (_ j : Int) : Prop := j ≠ 0
noncomputable instance (i j : Int) : Decidable (NzC i j) := Classical.propDecidable _
def PowC (i j : Int) : Prop := 0 ≤ j ∧ j ≤ 1000000 ∧ i.natAbs < 2 ^ 64
noncomputable instance (i j : Int) : Decidable (PowC i j) := Classical.propDecidable _
def dAddI : D → D → Out D := intOp0 fun i j => .int (i + j)
def dSub : D → D → Out D := intOp0 fun i j => .int (i - j)
noncomputable def dMul : D → D → Out D := intOp MulC fun i j => .int (i * j)
noncomputable def dDiv : D → D → Out D := intOp DivC fun i j => .int (i.fdiv j)
noncomputable def dMod : D → D → Out D := intOp NzC fun i j => .int (i.fmod j)
noncomputable def dPow : D → D → Out D := intOp PowC fun i j => .int (i ^ j.toNat)
def bin (h : D → D → Out D) (f g : Rn → Out D) (ρ : Rn) : Out D := (f ρ).bind fun x => (g ρ).bind fun y => (h x y).nx
theorem ed_addI {f g : Rn → Out D} (ha : ED ca X W a f) (hb : ED ca X W b g) : ED ca X W (.BinOp a .Add b pos) (bin dAddI f g) := ed_op op_add (opd_int0 fun _ _ _ => is_int.mpr rfl) ha hb
theorem ed_sub {f g : Rn → Out D} (ha : ED ca X W a f) (hb : ED ca X W b g) : ED ca X W (.BinOp a .Sub b pos) (bin dSub f g) := ed_op op_sub (opd_int0 fun _ _ _ => is_int.mpr rfl) ha hb
theorem ed_mul {f g : Rn → Out D} (ha : ED ca X W a f) (hb : ED ca X W b g) : ED ca X W (.BinOp a .Mult b pos) (bin dMul f g) := ed_op op_mulG (opd_int (fun _ _ h => h) fun _ _ _ => is_int.mpr rfl) ha hb
theorem ed_div {f g : Rn → Out D} (ha : ED ca X W a f) (hb : ED ca X W b g) : ED ca X W (.BinOp a .FloorDiv b pos) (bin dDiv f g) := ed_op op_fdivG (opd_int (fun _ _ h => h) fun _ _ _ => is_int.mpr rfl) ha hb
theorem ed_mod {f g : Rn → Out D} (ha : ED ca X W a f) (hb : ED ca X W b g) : ED ca X W (.BinOp a .Mod b pos) (bin dMod f g) := ed_op op_modN (opd_int (fun _ _ h => h) fun _ _ _ => is_int.mpr rfl) ha hb
theorem ed_pow {f g : Rn → Out D} (ha : ED ca X W a f) (hb : ED ca X W b g) : ED ca X W (.BinOp a .Pow b pos) (bin dPow f g) := ed_op op_pow (opd_int (fun _ _ h => h) fun _ _ _ => is_int.mpr rfl) ha hb
def dNeg : D → Out D
  | .int i => .ok (.int (-i))
  | _ => .stuck
def una (h : D → Out D) (f : Rn → Out D) (ρ : Rn) : Out D := (f ρ).bind fun x => (h x).nx
theorem ed_neg {f : Rn → Out D} (ha : ED ca X W a f) : ED ca X W (.UnaryOp .USub a pos) (una dNeg f) := ed_un un_neg (fun G H d1 v1 Q mu i1 o => by
  unfold dNeg at o
  split at o
  · rename_i i
    exact ⟨i, is_int.mp i1, o _ H (fun _ _ h => h) (is_int.mpr rfl)⟩
  · exact o.elim) ha

/-! ### comparisons -/
def dLt : D → D → Out D := intOp0 fun i j => .bl (decide (i < j))
def dLe : D → D → Out D := intOp0 fun i j => .bl (decide (i ≤ j))
def dGt : D → D → Out D := intOp0 fun i j => .bl (decide (j < i))
def dGe : D → D → Out D := intOp0 fun i j => .bl (decide (j ≤ i))
def tst (h : D → D → Out D) (f g : Rn → Out D) (ρ : Rn) : Out Bool := (f ρ).bind fun x => (g ρ).bind fun y => (h x y).nx.bind asB
theorem ed_lt {f g : Rn → Out D} (ha : ED ca X W a f) (hb : ED ca X W b g) : ED ca X W (.Compare a [.Lt] [b] pos) (bin dLt f g) := ed_cmp op_lt (opd_int0 fun _ _ _ => is_bl.mpr rfl) ha hb
theorem ed_le {f g : Rn → Out D} (ha : ED ca X W a f) (hb : ED ca X W b g) : ED ca X W (.Compare a [.LtE] [b] pos) (bin dLe f g) := ed_cmp op_le (opd_int0 fun _ _ _ => is_bl.mpr rfl) ha hb
theorem ed_gt {f g : Rn → Out D} (ha : ED ca X W a f) (hb : ED ca X W b g) : ED ca X W (.Compare a [.Gt] [b] pos) (bin dGt f g) := ed_cmp op_gt (opd_int0 fun _ _ _ => is_bl.mpr rfl) ha hb
theorem ed_ge {f g : Rn → Out D} (ha : ED ca X W a f) (hb : ED ca X W b g) : ED ca X W (.Compare a [.GtE] [b] pos) (bin dGe f g) := ed_cmp op_ge (opd_int0 fun _ _ _ => is_bl.mpr rfl) ha hb
theorem eb_lt {f g : Rn → Out D} (ha : ED ca X W a f) (hb : ED ca X W b g) : EB ca X W (.Compare a [.Lt] [b] pos) (tst dLt f g) := eb_cmp op_lt (opd_int0 fun _ _ _ => is_bl.mpr rfl) ha hb
theorem eb_le {f g : Rn → Out D} (ha : ED ca X W a f) (hb : ED ca X W b g) : EB ca X W (.Compare a [.LtE] [b] pos) (tst dLe f g) := eb_cmp op_le (opd_int0 fun _ _ _ => is_bl.mpr rfl) ha hb
theorem eb_gt {f g : Rn → Out D} (ha : ED ca X W a f) (hb : ED ca X W b g) : EB ca X W (.Compare a [.Gt] [b] pos) (tst dGt f g) := eb_cmp op_gt (opd_int0 fun _ _ _ => is_bl.mpr rfl) ha hb
theorem eb_ge {f g : Rn → Out D} (ha : ED ca X W a f) (hb : ED ca X W b g) : EB ca X W (.Compare a [.GtE] [b] pos) (tst dGe f g) := eb_cmp op_ge (opd_int0 fun _ _ _ => is_bl.mpr rfl) ha hb
mutual
/-- as the library's data (no dicts, no instances) -/
def toP : D → Option PyData
  | .non => some .none
  | .bl b => some (.bool b)
  | .int i => some (.int i)
  | .str x => some (.str x)
  | .tup xs => (toPs xs).map .tuple
  | .lst xs => (toPs xs).map .list
  | .dic _ _ => none
  | .dik _ _ => none
  | .obj _ _ _ => none
  | .loc _ => none
def toPs : List D → Option (List PyData)
  | [] => some []
  | d :: ds => (toP d).bind fun q => (toPs ds).map (q :: ·)
end
mutual
theorem dp_of {H : Hp} : ∀ {d : D} {v : V} {q : PyData}, Is ca K H d v → toP d = some q → Dp K H v q
  | .non, _, _, i, h => by rw [is_non.mp i]; rw [toP] at h; cases h; exact .non
  | .bl b, _, _, i, h => by rw [is_bl.mp i]; rw [toP] at h; cases h; exact .bl b
  | .int n, _, _, i, h => by rw [is_int.mp i]; rw [toP] at h; cases h; exact .int n
  | .str x, _, _, i, h => by rw [is_str.mp i]; rw [toP] at h; cases h; exact .str x
  | .tup xs, _, _, i, h => by
    obtain ⟨a, vs, rfl, ha, r⟩ := is_tup.mp i
    rw [toP] at h
    cases e : toPs xs with
    | none => rw [e] at h; cases h
    | some qs =>
      rw [e] at h
      cases h
      exact .tup (.inl (.inl ha)) (dps_of r e)
  | .lst xs, _, _, i, h => by
    obtain ⟨a, vs, rfl, ha, r⟩ := is_lst.mp i
    rw [toP] at h
    cases e : toPs xs with
    | none => rw [e] at h; cases h
    | some qs =>
      rw [e] at h
      cases h
      exact .lst ha (dps_of r e)
  | .dic _ _, _, _, _, h => by rw [toP] at h; cases h
  | .dik _ _, _, _, _, h => by rw [toP] at h; cases h
  | .obj _ _ _, _, _, _, h => by rw [toP] at h; cases h
  | .loc _, _, _, _, h => by rw [toP] at h; cases h
theorem dps_of {H : Hp} : ∀ {ds : List D} {vs : List V} {qs : List PyData}, IsL ca K H ds vs → toPs ds = some qs → DpAll K H vs qs
  | [], _, _, i, h => by rw [isL_nil.mp i]; rw [toPs] at h; cases h; exact .nil
  | d :: ds, _, _, i, h => by
    obtain ⟨v, vs', rfl, i1, r⟩ := isL_cons.mp i
    rw [toPs] at h
    cases e : toP d with
    | none => rw [e] at h; cases h
    | some q =>
      cases e2 : toPs ds with
      | none => rw [e, e2] at h; cases h
      | some qs =>
        rw [e, e2] at h
        cases h
        exact .cons (dp_of i1 e) (dps_of r e2)
end
def eqP (x y : D) : Option Bool := match toP x, toP y with
  | some q, some r => if SeqAt.shaped q && SeqAt.shaped r then some (PyData.eqv q r) else none
  | _, _ => none
def dEq (x y : D) : Out D := match eqP x y with
  | some b => .ok (.bl b)
  | none => .stuck
def dNe (x y : D) : Out D := match eqP x y with
  | some b => .ok (.bl (!b))
  | none => .stuck
theorem opd_eq : OpD ca K (rEqD K) dEq := by
  intro G H d1 d2 v1 v2 Q mu i1 i2 o
  unfold dEq eqP at o
  cases e1 : toP d1 with
  | none => rw [e1] at o; exact o.elim
  | some q =>
    cases e2 : toP d2 with
    | none => rw [e1, e2] at o; exact o.elim
    | some r =>
      rw [e1, e2] at o
      dsimp only at o
      cases hs : SeqAt.shaped q && SeqAt.shaped r with
      | false => rw [hs] at o; exact o.elim
      | true =>
        rw [hs] at o
        obtain ⟨s1, s2⟩ := Bool.and_eq_true_iff.mp hs
        have w := le_of_cut (H := H) (F := G) fun a ha => (mu a ha).ne
        exact ⟨q, r, dp_of (i1.le w) e1, dp_of (i2.le w) e2, s1, s2, o _ H (fun _ _ h => h) (is_bl.mpr rfl)⟩
theorem opd_ne : OpD ca K (rNeD K) dNe := by
  intro G H d1 d2 v1 v2 Q mu i1 i2 o
  unfold dNe eqP at o
  cases e1 : toP d1 with
  | none => rw [e1] at o; exact o.elim
  | some q =>
    cases e2 : toP d2 with
    | none => rw [e1, e2] at o; exact o.elim
    | some r =>
      rw [e1, e2] at o
      dsimp only at o
      cases hs : SeqAt.shaped q && SeqAt.shaped r with
      | false => rw [hs] at o; exact o.elim
      | true =>
        rw [hs] at o
        obtain ⟨s1, s2⟩ := Bool.and_eq_true_iff.mp hs
        have w := le_of_cut (H := H) (F := G) fun a ha => (mu a ha).ne
        exact ⟨q, r, dp_of (i1.le w) e1, dp_of (i2.le w) e2, s1, s2, o _ H (fun _ _ h => h) (is_bl.mpr rfl)⟩
theorem ed_eq {k : Nat} (J : JX X W k) {f g : Rn → Out D} (ha : ED ca X W a f) (hb : ED ca X W b g) : ED ca X W (.Compare a [.Eq] [b] pos) (bin dEq f g) := ed_cmp (op_eqD J.room.units) opd_eq ha hb
theorem ed_ne {k : Nat} (J : JX X W k) {f g : Rn → Out D} (ha : ED ca X W a f) (hb : ED ca X W b g) : ED ca X W (.Compare a [.NotEq] [b] pos) (bin dNe f g) := ed_cmp (op_neD J.room.units) opd_ne ha hb
theorem eb_eq {k : Nat} (J : JX X W k) {f g : Rn → Out D} (ha : ED ca X W a f) (hb : ED ca X W b g) : EB ca X W (.Compare a [.Eq] [b] pos) (tst dEq f g) := eb_cmp (op_eqD J.room.units) opd_eq ha hb
theorem eb_ne {k : Nat} (J : JX X W k) {f g : Rn → Out D} (ha : ED ca X W a f) (hb : ED ca X W b g) : EB ca X W (.Compare a [.NotEq] [b] pos) (tst dNe f g) := eb_cmp (op_neD J.room.units) opd_ne ha hb
/-- is None -/
def isNon : D → Bool
  | .non => true
  | _ => false
def dIsN (x y : D) : Out D := match y with
  | .non => .ok (.bl (isNon x))
  | _ => .stuck
def dNotN (x y : D) : Out D := match y with
  | .non => .ok (.bl (!isNon x))
  | _ => .stuck
theorem isNon_v {H : Hp} {d : D} {v : V} (i : Is ca K H d v) : decide (v = .non) = isNon d := by
  cases d with
  | non => rw [is_non.mp i]; rfl
  | bl b => rw [is_bl.mp i]; rfl
  | int n => rw [is_int.mp i]; rfl
  | str x => rw [is_str.mp i]; rfl
  | tup xs => obtain ⟨a, vs, rfl, _⟩ := is_tup.mp i; rfl
  | lst xs => obtain ⟨a, vs, rfl, _⟩ := is_lst.mp i; rfl
  | dic ks ds => obtain ⟨a, vs, rfl, _⟩ := is_dic.mp i; rfl
  | dik ks ds => obtain ⟨a, vs, rfl, _⟩ := is_dik.mp i; rfl
  | obj C fs ds => obtain ⟨a, _, _, _, rfl, _⟩ := is_obj.mp i; rfl
  | loc a => rw [is_loc.mp i]; rfl
theorem opd_isN : OpD ca K (fun x y H Q => y = .non ∧ Q (.bl (decide (x = .non))) H) dIsN := by
  intro G H d1 d2 v1 v2 Q mu i1 i2 o
  unfold dIsN at o
  split at o
  · exact ⟨is_non.mp i2, by rw [isNon_v i1]; exact o _ H (fun _ _ h => h) (is_bl.mpr rfl)⟩
  · exact o.elim
theorem opd_notN : OpD ca K (fun x y H Q => y = .non ∧ Q (.bl (!decide (x = .non))) H) dNotN := by
  intro G H d1 d2 v1 v2 Q mu i1 i2 o
  unfold dNotN at o
  split at o
  · exact ⟨is_non.mp i2, by rw [isNon_v i1]; exact o _ H (fun _ _ h => h) (is_bl.mpr rfl)⟩
  · exact o.elim
theorem ed_isN {f g : Rn → Out D} (ha : ED ca X W a f) (hb : ED ca X W b g) : ED ca X W (.Compare a [.Is] [b] pos) (bin dIsN f g) := ed_cmp op_isN opd_isN ha hb
theorem ed_notN {f g : Rn → Out D} (ha : ED ca X W a f) (hb : ED ca X W b g) : ED ca X W (.Compare a [.IsNot] [b] pos) (bin dNotN f g) := ed_cmp op_notN opd_notN ha hb
theorem eb_isN {f g : Rn → Out D} (ha : ED ca X W a f) (hb : ED ca X W b g) : EB ca X W (.Compare a [.Is] [b] pos) (tst dIsN f g) := eb_cmp op_isN opd_isN ha hb
theorem eb_notN {f g : Rn → Out D} (ha : ED ca X W a f) (hb : ED ca X W b g) : EB ca X W (.Compare a [.IsNot] [b] pos) (tst dNotN f g) := eb_cmp op_notN opd_notN ha hb

/-! ### built-ins -/
def calD (h : List D → Out D) (f : Rn → Out (List D)) (ρ : Rn) : Out D := (f ρ).bind fun xs => (h xs).nx
theorem ed_callB {id : String} {r : List V → Hp → VK → Prop} {h : List D → Out D} {f : Rn → Out (List D)} (hc : CallR X (.builtin id) r) (hd : CaD ca X.K r h) (hm : X.mg x = none) (hv : bootBuiltins x = some (.builtin id)) (ha : EA ca X W (e :: es) f) (hg : Gl X x := by rfl) (hn : x ≠ "__name__" := by decide) (hdb : (x == ("__debug__" : Str)) = false := by decide)
    (he : starEach (e :: es) X.env = (false, eval e X.env) :: starEach es X.env := by rfl) (hpl : (backTo pos (starEach es X.env)).any (·.1) = false := by rfl) : ED ca X W (.Call (.Name x p) (e :: es) [] pos) (calD h f) := by
  obtain ⟨ta, pa, ha⟩ := ha
  refine ⟨_, pe_callB hc hg hm hv pa hn hdb he hpl, fun H0 Fa ts us ρ σ H Q hl E o => ?_⟩
  refine ha H0 Fa ts us ρ σ H _ hl E (OutE.bind o |>.imp (fun xs o vs H2 F E2 i => ?_) fun n q => q)
  exact hd (Fa ++ F) H2 xs vs Q E2.muG i (o.nx.imp (fun d o v2 H4 k i4 => o v2 H4 F (E2.same k) i4) fun _ z => z)
theorem ed_callTy {T : String} {r : List V → Hp → VK → Prop} {h : List D → Out D} {f : Rn → Out (List D)} (hc : CallR X (.type T) r) (hd : CaD ca X.K r h) (hm : X.mg x = none) (hv : bootBuiltins x = some (.type T)) (ha : EA ca X W (e :: es) f) (hg : Gl X x := by rfl) (hn : x ≠ "__name__" := by decide) (hdb : (x == ("__debug__" : Str)) = false := by decide)
    (he : starEach (e :: es) X.env = (false, eval e X.env) :: starEach es X.env := by rfl) (hpl : (backTo pos (starEach es X.env)).any (·.1) = false := by rfl) : ED ca X W (.Call (.Name x p) (e :: es) [] pos) (calD h f) := by
  obtain ⟨ta, pa, ha⟩ := ha
  refine ⟨_, pe_callTy hc hg hm hv pa hn hdb he hpl, fun H0 Fa ts us ρ σ H Q hl E o => ?_⟩
  refine ha H0 Fa ts us ρ σ H _ hl E (OutE.bind o |>.imp (fun xs o vs H2 F E2 i => ?_) fun n q => q)
  exact hd (Fa ++ F) H2 xs vs Q E2.muG i (o.nx.imp (fun d o v2 H4 k i4 => o v2 H4 F (E2.same k) i4) fun _ z => z)
def dAbs : List D → Out D
  | [.int i] => .ok (.int (if i < 0 then -i else i))
  | _ => .stuck
theorem ed_abs {f : Rn → Out (List D)} (hm : X.mg "abs" = none) (ha : EA ca X W [e] f) (hg : Gl X "abs" := by rfl) (he : starEach [e] X.env = (false, eval e X.env) :: starEach [] X.env := by rfl) (hpl : (backTo pos (starEach [] X.env)).any (·.1) = false := by rfl) : ED ca X W (.Call (.Name "abs" p) [e] [] pos) (calD dAbs f) :=
  ed_callB call_abs (fun G H ds vs Q mu i o => by
    unfold dAbs at o
    split at o
    · rename_i n
      obtain ⟨v, rfl, i1⟩ := isL_1 i
      exact ⟨n, by rw [is_int.mp i1], o _ H (fun _ _ h => h) (is_int.mpr rfl)⟩
    · exact o.elim) hm (by decide +kernel) ha hg (by decide) (by decide) he hpl
def dMax2 : List D → Out D
  | [.int i, .int j] => .ok (.int (if j > i then j else i))
  | _ => .stuck
theorem ed_max2 {k : Nat} {f : Rn → Out (List D)} (J : JX X W k) (hm : X.mg "max" = none) (ha : EA ca X W [a, b] f) (hg : Gl X "max" := by rfl) (he : starEach [a, b] X.env = (false, eval a X.env) :: starEach [b] X.env := by rfl) (hpl : (backTo pos (starEach [b] X.env)).any (·.1) = false := by rfl) : ED ca X W (.Call (.Name "max" p) [a, b] [] pos) (calD dMax2 f) :=
  ed_callB (call_max2 J.calm) (fun G H ds vs Q mu i o => by
    unfold dMax2 at o
    split at o
    · rename_i n j
      obtain ⟨v, v', rfl, i1, i2⟩ := isL_2 i
      exact ⟨n, j, by rw [is_int.mp i1, is_int.mp i2], o _ H (fun _ _ h => h) (is_int.mpr rfl)⟩
    · exact o.elim) hm (by decide +kernel) ha hg (by decide) (by decide) he hpl
def dMin2 : List D → Out D
  | [.int i, .int j] => .ok (.int (if j < i then j else i))
  | _ => .stuck
theorem ed_min2 {k : Nat} {f : Rn → Out (List D)} (J : JX X W k) (hm : X.mg "min" = none) (ha : EA ca X W [a, b] f) (hg : Gl X "min" := by rfl) (he : starEach [a, b] X.env = (false, eval a X.env) :: starEach [b] X.env := by rfl) (hpl : (backTo pos (starEach [b] X.env)).any (·.1) = false := by rfl) : ED ca X W (.Call (.Name "min" p) [a, b] [] pos) (calD dMin2 f) :=
  ed_callB (call_min2 J.calm) (fun G H ds vs Q mu i o => by
    unfold dMin2 at o
    split at o
    · rename_i n j
      obtain ⟨v, v', rfl, i1, i2⟩ := isL_2 i
      exact ⟨n, j, by rw [is_int.mp i1, is_int.mp i2], o _ H (fun _ _ h => h) (is_int.mpr rfl)⟩
    · exact o.elim) hm (by decide +kernel) ha hg (by decide) (by decide) he hpl
/-- len of a list, a tuple, a text -/
def dLen : List D → Out D
  | [.lst ds] => .ok (.int ds.length)
  | [.tup ds] => .ok (.int ds.length)
  | [.str x] => if x.length ≤ sizeLine then .ok (.int x.length) else .stuck
  | _ => .stuck
theorem call_lenA : CallR X (.builtin "len") (fun xs H Q => (∃ p ys, xs = [.ref p] ∧ (SqL X.K H p ys ∨ SqT X.K H p ys) ∧ Q (.int ys.length) H) ∨ (∃ z, xs = [.str z] ∧ z.length ≤ sizeLine ∧ Q (.int z.length) H)) := CallR.or call_len_seq call_len_str
theorem ed_len {f : Rn → Out (List D)} (hm : X.mg "len" = none) (ha : EA ca X W [e] f) (hg : Gl X "len" := by rfl) (he : starEach [e] X.env = (false, eval e X.env) :: starEach [] X.env := by rfl) (hpl : (backTo pos (starEach [] X.env)).any (·.1) = false := by rfl) : ED ca X W (.Call (.Name "len" p) [e] [] pos) (calD dLen f) :=
  ed_callB call_lenA (fun G H ds vs Q mu i o => by
    unfold dLen at o
    split at o
    · obtain ⟨v, rfl, i1⟩ := isL_1 i
      obtain ⟨a, ws, rfl, hq, r⟩ := is_lst.mp i1
      exact .inl ⟨a, ws, rfl, .inl (sq_whole hq), by rw [← r.len]; exact o _ H (fun _ _ h => h) (is_int.mpr rfl)⟩
    · obtain ⟨v, rfl, i1⟩ := isL_1 i
      obtain ⟨a, ws, rfl, hq, r⟩ := is_tup.mp i1
      exact .inl ⟨a, ws, rfl, .inr (.inl (.inl (cut_some hq).2)), by rw [← r.len]; exact o _ H (fun _ _ h => h) (is_int.mpr rfl)⟩
    · split at o
      · rename_i x z
        obtain ⟨v, rfl, i1⟩ := isL_1 i
        exact .inr ⟨x, by rw [is_str.mp i1], z, o _ H (fun _ _ h => h) (is_int.mpr rfl)⟩
      · exact o.elim
    · exact o.elim) hm PySem.boot_len ha hg (by decide) (by decide) he hpl
/-- tuple of a list, of a tuple -/
def dTuple : List D → Out D
  | [.lst ds] => .ok (.tup ds)
  | [.tup ds] => .ok (.tup ds)
  | _ => .stuck
theorem ed_tuple {f : Rn → Out (List D)} (hm : X.mg "tuple" = none) (ha : EA ca X W [e] f) (hg : Gl X "tuple" := by rfl) (he : starEach [e] X.env = (false, eval e X.env) :: starEach [] X.env := by rfl) (hpl : (backTo pos (starEach [] X.env)).any (·.1) = false := by rfl) : ED ca X W (.Call (.Name "tuple" p) [e] [] pos) (calD dTuple f) :=
  ed_callTy call_tuple_of (fun G H ds vs Q mu i o => by
    unfold dTuple at o
    split at o
    · obtain ⟨v, rfl, i1⟩ := isL_1 i
      obtain ⟨a, ws, rfl, hq, r⟩ := is_lst.mp i1
      refine ⟨a, ws, rfl, .inl ⟨sq_whole hq, fun l hl => ?_⟩⟩
      have k : ∀ a u, H a = some u → (upd H l (.tup ws)) a = some u := fun a u q => by rw [upd_ne (ne_of_none q hl)]; exact q
      have nl : l ∉ G := fun z => (mu l z).ne hl
      refine o _ _ k (is_tup.mpr ⟨l, ws, rfl, (cut_out nl).trans upd_same, r.le ((Le.of_same k).cut (fun _ n _ => n) fun a ha => ?_)⟩)
      cases q : H a with
      | none => exact absurd q (mu a ha).ne
      | some u => rw [k a u q]; simp
    · obtain ⟨v, rfl, i1⟩ := isL_1 i
      obtain ⟨a, ws, rfl, hq, r⟩ := is_tup.mp i1
      exact ⟨a, ws, rfl, .inr ⟨.inl (.inl (cut_some hq).2), o _ H (fun _ _ h => h) i1⟩⟩
    · exact o.elim) hm (by decide +kernel) ha hg (by decide) (by decide) he hpl
/-! ### items -/
def dIx : D → D → Out D
  | .lst ds, .int i => match atI ds i with | some d => .ok d | none => .stuck
  | .tup ds, .int i => match atI ds i with | some d => .ok d | none => .stuck
  | .str z, .int i => if z.length ≤ sizeLine then (match atI z.cps.toList i with | some c => .ok (.str ⟨#[c]⟩) | none => .stuck) else .stuck
  | _, _ => .stuck
theorem atI_is {H : Hp} {ds : List D} {vs : List V} {i : Int} {d : D} (r : IsL ca K H ds vs) (h : atI ds i = some d) : ∃ v, atI vs i = some v ∧ Is ca K H d v := by
  unfold atI at h ⊢
  rw [← r.len]
  cases e : ixN ds.length i with
  | none => rw [e] at h; cases h
  | some j =>
    rw [e] at h
    exact r.get h
theorem opd_ix : OpD ca K (rIx K) dIx := by
  intro G H d1 d2 v1 v2 Q mu i1 i2 o
  unfold dIx at o
  split at o
  · rename_i ds n
    cases e : atI ds n with
    | none => rw [e] at o; exact o.elim
    | some d =>
      rw [e] at o
      obtain ⟨a, ws, rfl, hq, r⟩ := is_lst.mp i1
      obtain ⟨v, hv, iv⟩ := atI_is r e
      exact .inl ⟨a, ws, n, v, rfl, is_int.mp i2, sq_whole hq, hv, o v H (fun _ _ h => h) iv⟩
  · rename_i ds n
    cases e : atI ds n with
    | none => rw [e] at o; exact o.elim
    | some d =>
      rw [e] at o
      obtain ⟨a, ws, rfl, hq, r⟩ := is_tup.mp i1
      obtain ⟨v, hv, iv⟩ := atI_is r e
      exact .inr (.inl ⟨a, ws, n, v, rfl, is_int.mp i2, .inl (.inl (cut_some hq).2), hv, o v H (fun _ _ h => h) iv⟩)
  · rename_i z n
    split at o
    · rename_i hz
      cases e : atI z.cps.toList n with
      | none => rw [e] at o; exact o.elim
      | some ch =>
        rw [e] at o
        exact .inr (.inr ⟨z, n, ch, is_str.mp i1, is_int.mp i2, hz, e, o _ H (fun _ _ h => h) (is_str.mpr rfl)⟩)
    · exact o.elim
  · exact o.elim
theorem ed_ix {f g : Rn → Out D} (ha : ED ca X W a f) (hb : ED ca X W b g) (hs : PlainIx b := by exact fun _ _ => rfl) : ED ca X W (.Subscript a b pos) (bin dIx f g) := by
  obtain ⟨ta, pa, ha⟩ := ha
  obtain ⟨tb, pb, hb⟩ := hb
  refine ⟨_, pe_ix ix_seq pa pb hs, fun H0 Fa ts us ρ σ H Q hl E o => ?_⟩
  refine ha H0 Fa ts us ρ σ H _ hl E (OutE.bind o |>.imp (fun x o v H2 F E2 i => ?_) fun n q => q)
  refine hb H0 Fa (some (.dat x) :: ts) (some v :: us) ρ σ H2 _ (by simp [hl]) ⟨F, E2.top i⟩ (o.bind.imp (fun y o v' H3 F E3 i' => ?_) fun n q a' H3 c E3 => q a' H3 c E3.pop)
  obtain ⟨E4, i⟩ := E3.popD
  exact opd_ix (Fa ++ F) H3 x y v v' Q E4.muG i i' (o.nx.imp (fun d o v2 H4 k i4 => o v2 H4 F (E4.same k) i4) fun _ z => z)
end
end DA
set_option maxHeartbeats 4000000
/-! DA8: sums, isinstance, appends, fields, methods, try -/
namespace DA
open PySem PySem.Spec PyProof.Rows L2

/-! ### sum of a tuple of ints -/
section
variable {prog : Program} {w : World} {A : Around} {E : Value → Shared → Prop} {s : Shared} {l : Addr}
theorem sum_tupG {its : List Value} {ns : List Int} {Q : Value → Shared → Prop} (hh : A.handled = none) (hl : s.heap.IsTuple l its.toArray) (hi : IntsAre its ns)
    (h : ∀ h' tk t', (∀ b o, s.heap.get? b = some o → h'.get? b = some o) → Q (.int ns.sum t') { s with heap := h', toks := tk }) : wpAny (model prog w) A (call (.builtin "sum") [.ref l]) Q E s := by
  obtain ⟨xs, e⟩ := hi.allInts.items
  have hn : numsOf (intItems xs).toList = ns := by rw [← e]; exact hi.numsOf
  rw [nums_intItems] at hn
  rw [e] at hl
  have hlt : l < s.heap.objs.size := by obtain ⟨o, e, _⟩ := hl; exact Heap.lt_size e
  refine PySem.call_sum_walkG (wpAny_pyIter_tuple hl ?_)
  refine ⟨_, [s.heap.objs.size, l], [s.heap.objs.size], _, _, _, numAt xs, rfl, Walks.tuple (A := A.in1) hh _ l (Nat.ne_of_lt hlt) (intItems xs), ⟨⟨_, Heap.get?_push_size _ rfl, rfl, rfl⟩, hl.push _⟩, fun c hc => ?_, (fun _ _ => intItems_at), fun h' tk t' hk => ?_⟩
  · rw [Heap.size_push]
    have z : c = s.heap.objs.size ∨ c = l := by simpa using hc
    rcases z with z | z
    · rw [z]; exact Nat.lt_succ_self _
    · rw [z]; exact Nat.lt_succ_of_lt hlt
  · have := h h' tk t' fun b o q => hk b o (fun hm => by
      have z : b = s.heap.objs.size := by simpa using hm
      rw [z] at q
      exact absurd (Heap.lt_size q) (Nat.lt_irrefl _)) (Heap.get?_push_of_some _ q)
    have e2 : preSum (numAt xs) (intItems xs).size = ns.sum := by
      rw [preSum_eq, List.take_of_length_le (by simp [intItems]), hn]
    rw [e2]
    exact this
end
section
variable {ca : Str → Option Addr} {X : Cx} {W : WX} {e a b c tg o : Expr} {es : List Expr} {pos p apos : Pos} {x m f : Str} {K : PySem.W.Frag}
def intsOf : List D → Option (List Int)
  | [] => some []
  | .int i :: ds => (intsOf ds).map (i :: ·)
  | _ :: _ => none
theorem intsOf_eq : ∀ {ds : List D} {ns : List Int}, intsOf ds = some ns → ds = ns.map D.int
  | [], ns, h => by unfold intsOf at h; cases h; rfl
  | .int i :: ds, ns, h => by
    unfold intsOf at h
    cases e : intsOf ds with
    | none => rw [e] at h; cases h
    | some ms => rw [e] at h; cases h; rw [intsOf_eq e]; rfl
  | .non :: ds, ns, h => by unfold intsOf at h; cases h
  | .bl _ :: ds, ns, h => by unfold intsOf at h; cases h
  | .str _ :: ds, ns, h => by unfold intsOf at h; cases h
  | .tup _ :: ds, ns, h => by unfold intsOf at h; cases h
  | .lst _ :: ds, ns, h => by unfold intsOf at h; cases h
  | .dic _ _ :: ds, ns, h => by unfold intsOf at h; cases h
  | .dik _ _ :: ds, ns, h => by unfold intsOf at h; cases h
  | .obj _ _ _ :: ds, ns, h => by unfold intsOf at h; cases h
  | .loc _ :: ds, ns, h => by unfold intsOf at h; cases h
theorem intsOf_map : ∀ ns : List Int, intsOf (ns.map D.int) = some ns
  | [] => by unfold intsOf; rfl
  | i :: ns => by
    show intsOf (.int i :: ns.map D.int) = _
    unfold intsOf
    rw [intsOf_map ns]; rfl
def rSumA (K : PySem.W.Frag) : List V → Hp → VK → Prop := fun vs H Q => ∃ (a : Addr) (ns : List Int), vs = [V.ref a] ∧ (SqL K H a (ns.map V.int) ∨ SqT K H a (ns.map V.int)) ∧ Q (.int ns.sum) H
theorem cr_sumA (hc : X.calm = true) : CallR X (.builtin "sum") (rSumA X.K) := by
  intro pins s σ H xs us Q I r h
  obtain ⟨a, ns, rfl, hq, q⟩ := h
  rcases hq with hq | hq
  · exact cr_sum hc pins s σ H _ us Q I r ⟨a, ns, rfl, hq, q⟩
  · have e := Vals.ref1 r
    subst e
    obtain ⟨its, rv, p, hz⟩ := I.tuple hq
    exact sum_tupG (I.ok.hd hc) (show s.heap.IsTuple a its.toArray from p) (Vals.ints rv) fun h' tk t' k => ⟨.int ns.sum, H, I.kept k, ⟨_, rfl⟩, q⟩
def dSum : List D → Out D
  | [.lst ds] => match intsOf ds with | some ns => .ok (.int ns.sum) | none => .stuck
  | [.tup ds] => match intsOf ds with | some ns => .ok (.int ns.sum) | none => .stuck
  | _ => .stuck
theorem ed_sum {k : Nat} {f : Rn → Out (List D)} (J : JX X W k) (hm : X.mg "sum" = none) (ha : EA ca X W [e] f) (hg : Gl X "sum" := by rfl) (he : starEach [e] X.env = (false, eval e X.env) :: starEach [] X.env := by rfl) (hpl : (backTo pos (starEach [] X.env)).any (·.1) = false := by rfl) : ED ca X W (.Call (.Name "sum" p) [e] [] pos) (calD dSum f) :=
  ed_callB (cr_sumA J.calm) (fun G H ds vs Q mu i o => by
    unfold dSum at o
    split at o
    · rename_i ds
      cases eI : intsOf ds with
      | none => rw [eI] at o; exact o.elim
      | some ns =>
        rw [eI] at o
        obtain ⟨v, rfl, i1⟩ := isL_1 i
        obtain ⟨a, ws, rfl, hq, r⟩ := is_lst.mp i1
        rw [intsOf_eq eI] at r
        rw [IsL.ints_inv r] at hq
        exact ⟨a, ns, rfl, .inl (sq_whole hq), o _ H (fun _ _ h => h) (is_int.mpr rfl)⟩
    · rename_i ds
      cases eI : intsOf ds with
      | none => rw [eI] at o; exact o.elim
      | some ns =>
        rw [eI] at o
        obtain ⟨v, rfl, i1⟩ := isL_1 i
        obtain ⟨a, ws, rfl, hq, r⟩ := is_tup.mp i1
        rw [intsOf_eq eI] at r
        rw [IsL.ints_inv r] at hq
        exact ⟨a, ns, rfl, .inr (.inl (.inl (cut_some hq).2)), o _ H (fun _ _ h => h) (is_int.mpr rfl)⟩
    · exact o.elim) hm (by decide +kernel) ha hg (by decide) (by decide) he hpl

/-! ### isinstance with a built-in class -/
/-- the built-in type's name of a value -/
def tyN : D → Option String
  | .non => some "NoneType"
  | .bl _ => some "bool"
  | .int _ => some "int"
  | .str _ => some "str"
  | .tup _ => some "tuple"
  | .lst _ => some "list"
  | .dic _ _ => none
  | .dik _ _ => some "dict"
  | .obj _ _ _ => none
  | .loc _ => none
theorem tyX_of {H : Hp} {d : D} {v : V} {t : String} (i : Is ca K H d v) (h : tyN d = some t) : TyX K H v (.type t) := by
  cases d with
  | non => cases h; rw [is_non.mp i]; exact .base .non
  | bl b => cases h; rw [is_bl.mp i]; exact .base (.bl b)
  | int n => cases h; rw [is_int.mp i]; exact .base (.int n)
  | str x => cases h; rw [is_str.mp i]; exact .base (.str x)
  | tup xs => cases h; obtain ⟨a, vs, rfl, ha, _⟩ := is_tup.mp i; exact .base (.tup ha)
  | lst xs =>
    cases h
    obtain ⟨a, vs, rfl, ha, _⟩ := is_lst.mp i
    rcases ha with (ha | ⟨o, ha⟩) | ⟨o, its, n, h1, h2, _⟩
    · exact .base (.lst ha)
    · exact .base (.frz ha)
    · exact .kList h1 h2
  | dic ks ds => cases h
  | dik ks ds =>
    cases h
    obtain ⟨a, vs, rfl, ha, _⟩ := is_dik.mp i
    rcases ha with ha | ⟨o, ha⟩
    · exact .base (.dK ha)
    · exact .fDict ha
  | obj C fs ds => cases h
  | loc a => cases h
def isiT (T : String) (d : D) : Out D := match tyN d with
  | some t => match kitB t T with | some b => .ok (.bl b) | none => .stuck
  | none => .stuck
/-- isinstance(e, T), T a built-in class -/
theorem ed_isi (T : String) {f : Rn → Out D} {q : Pos} (hm : X.mg "isinstance" = none) (hmT : X.mg (Str.ofString T) = none) (ha : ED ca X W e f) (hT : PE X (.Name (Str.ofString T) q) (tC (.ty T))) (hg : Gl X "isinstance" := by rfl)
    (h1 : starEach [e, .Name (Str.ofString T) q] X.env = (false, eval e X.env) :: starEach [.Name (Str.ofString T) q] X.env := by rfl) (h2 : starEach [.Name (Str.ofString T) q] X.env = (false, eval (.Name (Str.ofString T) q) X.env) :: starEach [] X.env := by rfl)
    (hpl : (backTo pos (starEach [.Name (Str.ofString T) q] X.env)).any (·.1) = false := by rfl) : ED ca X W (.Call (.Name "isinstance" p) [e, .Name (Str.ofString T) q] [] pos) (una (isiT T) f) := by
  obtain ⟨te, pe, ha⟩ := ha
  refine ⟨_, pe_callB call_isi hg hm (by decide +kernel) (pa_cons pe (pa_cons hT pa_nil h2) h1) (by decide) (by decide) h1 hpl, fun H0 Fa ts us ρ σ H Q hl E o => ?_⟩
  refine ha H0 Fa ts us ρ σ H _ hl E (OutE.bind o |>.imp (fun d o v H2 F E2 i => ?_) fun n q => q)
  have o := o.nx (Y := fun _ => False)
  unfold isiT at o
  cases et : tyN d with
  | none => rw [et] at o; exact o.elim
  | some t =>
    rw [et] at o
    dsimp only at o
    cases ek : kitB t T with
    | none => rw [ek] at o; exact o.elim
    | some b =>
      rw [ek] at o
      exact ⟨v, .ty T, .type t, .type T, b, rfl, .ty T, tyX_of (E2.whole i) et, kit_ty ek, o _ H2 F E2 (is_bl.mpr rfl)⟩

/-! ### xs.append(e) -/
def sAppend (i : Nat) (f : Rn → Out D) (ρ : Rn) : SOut := match ρ[i]? with
  | some (some (.lst ms)) => (f ρ).bind fun d => if ms.length < sizeLine then .ok (.nx, ρ.set i (some (.lst (ms ++ [.dat d])))) else .stuck
  | _ => .stuck
theorem ss_append (i : Nat) {f : Rn → Out D} {p1 p2 pos' : Pos} (h : ED ca X W e f) (hN : X.N[i]? = some x := by rfl) (hv : Vis X.env.scope x := by first | exact Or.inl rfl | exact Or.inr (Or.inl rfl) | exact Or.inr (Or.inr rfl))
    (hd : (x == ("__debug__" : Str)) = false := by decide) (hcd : (x == ("__classdict__" : Str)) = false := by decide)
    (hbase : attributeBase (.Name x p1) "append" X.env (eval (.Name x p1) X.env) = eval (.Name x p1) X.env := by rfl)
    (hfew : ((backTo pos (starEach [e] X.env)).all (fun x => !x.1) && (backToKw pos (keywordEach [] X.env)).all (fun x => x.1.isSome)
      && decide (([e] : List Expr).length + ([] : List Keyword).length + (if ([] : List Keyword).isEmpty then 0 else 1) < 30)) = true := by rfl)
    (hline : (p2.endLine == pos.line) = true := by rfl) (hs : starEach [e] X.env = (false, eval e X.env) :: starEach [] X.env := by rfl) (hpl : (backTo pos (starEach [] X.env)).any (·.1) = false := by rfl)
    (hsw : swapsWith (.Call (.Attribute (.Name x p1) "append" p2) [e] [] pos) none pos'.line X.env = pure false := by rfl) :
    SS ca X W (.Expr (.Call (.Attribute (.Name x p1) "append" p2) [e] [] pos) pos') (sAppend i f) := by
  obtain ⟨te, pe, h⟩ := h
  refine ⟨_, ps_expr (pe_bm PySem.F.plainAttrs_list PySem.F.slot_list_append PySem.F.type_list_append mt_append (pe_var hN hv hd hcd) (pa_cons pe pa_nil hs) hbase hfew hline hs hpl) hsw, fun H0 Fa ts us ρ σ H D hl E o => ?_⟩
  unfold sAppend at o
  split at o
  · rename_i ms hρ
    obtain ⟨F, E⟩ := E
    obtain ⟨w, A, Fi, B, eF, e2, ⟨v, e3, ho⟩, _⟩ := E.own.split (i := ts.length + i) (by rw [drop_get]; exact hρ)
    obtain ⟨l, xs, Fi', rfl, hlst, hr, _⟩ := ow_lst.mp ho
    rw [hl, drop_get, e3] at e2
    refine ⟨.ref l, e2, .inl ⟨rfl, xs, .inl (.inl hlst)⟩, ?_⟩
    refine h H0 Fa ts us ρ σ H _ hl ⟨F, E⟩ (SPost.ofE o fun d o y H2 F2 E2 iy => ?_)
    by_cases z : ms.length < sizeLine
    · rw [if_pos z] at o
      obtain ⟨l2, xs2, e4, h4, l4, E4⟩ := E2.append (i := ts.length + i) (by rw [drop_get]; exact hρ) iy
      rw [hl, drop_get, e2] at e4
      injection e4 with e4
      injection e4 with e4
      injection e4 with e4
      subst e4
      refine ⟨l, xs2, y, rfl, rfl, h4, by rw [l4]; exact z, o σ _ ?_⟩
      have q := E4
      rw [drop_set, hl, drop_set] at q
      have e5 : σ.set i (some (.ref l)) = σ := by
        refine List.ext_getElem? fun j => ?_
        by_cases hj : i = j
        · subst hj
          by_cases hlt : i < σ.length
          · rw [List.getElem?_set_self hlt, e2]
          · rw [List.getElem?_eq_none (by omega)] at e2; cases e2
        · rw [List.getElem?_set_ne hj]
      rw [e5] at q
      exact q
    · rw [if_neg z] at o; exact o.elim
  · exact o.elim

/-! ### fields -/
def fldOf (f : Str) : List Str → List D → Option D
  | g :: fs, d :: ds => if f == g then some d else fldOf f fs ds
  | _, _ => none
theorem lookup_fld {H : Hp} : ∀ {kvs : List (Str × V)} {ds : List D} {f : Str} {d : D}, IsL ca K H ds (kvs.map (·.2)) → fldOf f (kvs.map (·.1)) ds = some d → ∃ v, kvs.lookup f = some v ∧ Is ca K H d v
  | [], ds, f, d, i, h => by
    unfold fldOf at h
    simp at h
  | (g, v) :: kvs, ds, f, d, i, h => by
    cases ds with
    | nil => unfold fldOf at h; simp at h
    | cons d0 ds =>
      obtain ⟨v', vs', e, i1, r⟩ := isL_cons.mp i
      simp only [List.map_cons] at e h
      injection e with e1 e2
      subst e1
      unfold fldOf at h
      rw [List.lookup_cons]
      by_cases z : (f == g) = true
      · rw [if_pos z] at h
        cases h
        rw [z]
        exact ⟨v, rfl, i1⟩
      · rw [if_neg z] at h
        have z' : (f == g) = false := by simpa using z
        rw [z']
        exact lookup_fld (by rw [e2]; exact r) h
def dFld (cs : List Str) (f : Str) : D → Out D
  | .obj C fs ds => if List.contains cs C then (match fldOf f fs ds with | some d => .ok d | none => .stuck) else .stuck
  | _ => .stuck
/-- o.f, o an instance of one of the classes cs -/
theorem ed_fld (cs : List Str) {g : Rn → Out D} (h : ED ca X W e g) (hc : ∀ n, List.contains cs n = true → ∀ C, ca n = some C → Cls X.K C ∧ NoAttr X.K C f) (hb : attributeBase e f X.env (eval e X.env) = eval e X.env := by rfl) : ED ca X W (.Attribute e f pos) (una (dFld cs f) g) := by
  obtain ⟨te, pe, h⟩ := h
  refine ⟨_, pe_fld pe hb, fun H0 Fa ts us ρ σ H Q hl E o => ?_⟩
  refine h H0 Fa ts us ρ σ H _ hl E (OutE.bind o |>.imp (fun d o v H2 F E2 i => ?_) fun n q => q)
  have oo := o.nx (Y := fun _ => False)
  cases d with
  | obj C fs ds =>
    unfold dFld at oo
    dsimp only at oo
    by_cases z : List.contains cs C = true
    · rw [if_pos z] at oo
      cases ef : fldOf f fs ds with
      | none => rw [ef] at oo; exact oo.elim
      | some d =>
        rw [ef] at oo
        obtain ⟨a, Ca, dx, kvs, rfl, hC, ha, ek, r⟩ := is_obj.mp i
        subst ek
        obtain ⟨v, hv, iv⟩ := lookup_fld r ef
        obtain ⟨c1, c2⟩ := hc C z Ca hC
        exact ⟨a, Ca, dx, kvs, v, rfl, (cut_some ha).2, c1, c2, hv, oo v H2 F E2 iv⟩
    · rw [if_neg z] at oo; exact oo.elim
  | _ => exact oo.elim

/-! ### methods -/
theorem run_fnD {CX : CXT} {k : Nat} {g : Addr} {fd : FuncData} {ps : List Str} {sp : Sp} {E : L2.St → XK} {dvs : List V} {dd : List Value} {pins : List (Addr × Obj)} {σ : L2.St} {H : Hp} {s : Shared} {Q : VK} {us : List Value} {vs : List V} (F : FnOk X.prog X.w X.K X.mg X.base CX k g fd ps sp) (hr : Room k X.A) (hb : Binds X.K fd ps dd) (hd : Vals dvs dd)
    (hx : PassesAt CX X σ (E σ)) (I : Inv X pins σ H s) (r : Vals vs us) (h : sp (vs ++ dvs) H Q (E σ)) : wpAny (model X.prog X.w) X.A (call (.ref g) us) (EP X pins σ Q) X.xe s := by
  have r2 : Vals (vs ++ dvs) (us ++ dd) := r.append hd
  have hl : (us ++ dd).length = ps.length := by rw [← r2.length]; exact F.len _ _ _ _ h
  refine wpAny_call (codeAny_mono (F.run X.A X.stack s H ⟨us, []⟩ (us ++ dd) (vs ++ dvs) Q (E σ) hr I.env0 (hb s us I.kIn hl) r2 h) fun r s' hq => ?_)
  cases r with
  | error e => exact hx pins H s e s' I hq
  | ok fl =>
    cases fl with
    | ret u => exact I.after hq
    | next => exact False.elim hq
    | brk => exact False.elim hq
    | cont => exact False.elim hq
/-- o.m(..): the class, the def and its promise come with the instance; its arguments, and the defaults that fill up -/
def tMethX (X : Cx) (CX : CXT) (k : Nat) (m : Str) (E : L2.St → XK) (ta : TE) (t : TA) : TE := fun σ H Q => ta σ H fun x H1 => ∃ (a C dx : Addr) (fs : List (Str × V)) (g : Addr) (fd : FuncData) (ps : List Str) (sp : Sp) (dvs : List V) (dd : List Value), x = .ref a ∧ H1 a = some (.ins C dx fs) ∧ fs.lookup m = none ∧
  Cls X.K C ∧ Meth X.K C m g ∧ FnOk X.prog X.w X.K X.mg X.base CX k g fd ps sp ∧ Binds X.K fd ps dd ∧ Vals dvs dd ∧ t σ H1 fun vs H2 => sp (x :: (vs ++ dvs)) H2 Q (E σ)
theorem pe_methX {CX : CXT} {k : Nat} {E : L2.St → XK} {ta : TE} {t : TA} {pl : Sem Bool} (he : PE X o ta) (hr : Room k X.A) (hx : ∀ σ, PassesAt CX X σ (E σ)) (ha : PA X (e :: es) t)
    (hst : starEach (e :: es) X.env = (false, eval e X.env) :: starEach es X.env := by rfl) (hpl : (backTo pos (starEach es X.env)).any (·.1) = false := by rfl)
    (ht : eval (.Call (.Attribute o m apos) (e :: es) [] pos) X.env = (do
      let ov ← eval o X.env
      standAt apos.atName
      let (f, first) ← holding [ov] (getMethod ov m pl)
      callWith pos f first (backTo pos (starEach (e :: es) X.env)) (backToKw pos (keywordEach [] X.env))) := by rfl) :
    PE X (.Call (.Attribute o m apos) (e :: es) [] pos) (tMethX X CX k m E ta t) := by
  refine ⟨fun pins s σ H Q I h => ?_⟩
  refine PySem.W.methodCall_KW (pl := pl) (thn (he.run pins s σ H _ I h) fun u s1 ⟨x, H1, I1, rx, a, C, dx, fs, g, fd, ps, sp, dvs, dd, ex, ea, l, c, hm, F, hb, hd, q⟩ => ?_) ht
  subst ex
  obtain rfl : u = Value.ref a := rx
  refine getmeth_ok I1 ea c hm l ?_
  refine PySem.W.callWith_K (first := [.ref a]) (h₀ := X.base) I.ok.mod.kin hm.kp (thn (ha.run pos pins s1 σ H1 _ I1 q) fun us s2 ⟨vs, H2, I2, r, q2⟩ => ⟨I2.kIn, ?_⟩) hst hpl
  exact run_fnD (us := .ref a :: us) (vs := .ref a :: vs) F hr hb hd (hx σ) I2 (.cons rfl r) q2
theorem pe_methX0 {CX : CXT} {k : Nat} {E : L2.St → XK} {ta : TE} {pl : Sem Bool} (he : PE X o ta) (hr : Room k X.A) (hx : ∀ σ, PassesAt CX X σ (E σ))
    (ht : eval (.Call (.Attribute o m apos) [] [] pos) X.env = (do
      let ov ← eval o X.env
      standAt apos.atName
      let (f, first) ← holding [ov] (getMethod ov m pl)
      callWith pos f first (backTo pos (starEach [] X.env)) (backToKw pos (keywordEach [] X.env))) := by rfl) :
    PE X (.Call (.Attribute o m apos) [] [] pos) (tMethX X CX k m E ta tNil) := by
  refine ⟨fun pins s σ H Q I h => ?_⟩
  refine PySem.W.methodCall_KW (pl := pl) (thn (he.run pins s σ H _ I h) fun u s1 ⟨x, H1, I1, rx, a, C, dx, fs, g, fd, ps, sp, dvs, dd, ex, ea, l, c, hm, F, hb, hd, q⟩ => ?_) ht
  subst ex
  obtain rfl : u = Value.ref a := rx
  refine getmeth_ok I1 ea c hm l ?_
  exact PySem.W.callWith_K0 (first := [.ref a]) I1.kIn hm.kp (run_fnD (us := [.ref a]) (vs := [.ref a]) F hr hb hd (hx σ) I1 (.cons rfl .nil) q)
/-- what a method's entry wants: the def at its class, worth f, its defaults dd -/
structure MtOk (ca : Str → Option Addr) (X : Cx) (j : Nat) (m n : Str) (f : List D → Out M) : Prop where
  ok : ∀ C, ca n = some C → ∃ (g : Addr) (fd : FuncData) (ps : List Str) (f0 : List D → Out M) (dd : List D) (dvs : List V) (ds : List Value), Cls X.K C ∧ Meth X.K C m g ∧ FnOk X.prog X.w X.K X.mg X.base (L2.CX X.prog X.w) j g fd ps (PF ca X.K f0) ∧ Binds X.K fd ps ds ∧ Vals dvs ds ∧
    (∀ H, IsL ca X.K H dd dvs) ∧ ∀ xs, f xs = f0 (xs ++ dd)
/-- which def a method's name means -/
def mtR (m : Str) (tab : List (Str × (List D → Out M))) : D → Out (List D → Out M)
  | .obj C fs _ => if fs.contains m then .stuck else (match tab.lookup C with | some f => .ok f | none => .stuck)
  | _ => .stuck
def mtC (m : Str) (tab : List (Str × (List D → Out M))) (g : Rn → Out D) (ga : Rn → Out (List D)) (ρ : Rn) : Out M := (g ρ).bind fun d => (mtR m tab d).nx.bind fun f => (ga ρ).bind fun ds => f (d :: ds)
theorem lookup_none_of {kvs : List (Str × V)} {m : Str} (h : (kvs.map (·.1)).contains m = false) : kvs.lookup m = none := by
  induction kvs with
  | nil => rfl
  | cons p kvs ih =>
    simp only [List.map_cons, List.contains_cons, Bool.or_eq_false_iff] at h
    rw [List.lookup_cons]
    rw [h.1]
    exact ih h.2
theorem mem_of_lookup {α : Type} {n : Str} {y : α} : ∀ {l : List (Str × α)}, l.lookup n = some y → (n, y) ∈ l
  | (k, v) :: r, h => by
    rw [List.lookup_cons] at h
    by_cases z : (n == k) = true
    · rw [z] at h
      cases h
      rw [eq_of_beq z]
      exact List.mem_cons_self
    · have z' : (n == k) = false := by simpa using z
      rw [z'] at h
      exact List.mem_cons_of_mem _ (mem_of_lookup h)
theorem mt_den {j : Nat} {tab : List (Str × (List D → Out M))} {g : Rn → Out D} {ga : Rn → Out (List D)} {te : TE} {ta : TA} (ht : ∀ q ∈ tab, MtOk ca X j m q.1 q.2) (ho : EvD ca X.K W te g) (ha : EvA ca X.K W ta ga) :
    EvM ca X.K W (tMethX X (L2.CX X.prog X.w) j m (WE W) te ta) (mtC m tab g ga) := by
  intro H0 Fa ts us ρ σ H Q hl E od
  refine ho H0 Fa ts us ρ σ H _ hl E (OutE.bind od |>.imp (fun d od v H2 F E2 i => ?_) fun n q => q)
  cases d with
  | obj C fs dsf =>
    unfold mtR at od
    dsimp only at od
    by_cases z : fs.contains m = true
    · rw [if_pos z] at od; exact od.elim
    · rw [if_neg z] at od
      cases el : tab.lookup C with
      | none => rw [el] at od; exact od.elim
      | some f =>
        rw [el] at od
        have od : OutE ((ga ρ).bind fun ds => f (.obj C fs dsf :: ds)) _ _ := od
        obtain ⟨a, Ca, dx, kvs, rfl, hC, hins, ek, r⟩ := is_obj.mp i
        obtain ⟨gg, fd, ps, f0, dd, dvs, dsv, c1, c2, c3, c4, c5, c6, c7⟩ := (ht (C, f) (mem_of_lookup el)).ok Ca hC
        subst ek
        refine ⟨a, Ca, dx, kvs, gg, fd, ps, PF ca X.K f0, dvs, dsv, rfl, (cut_some hins).2, lookup_none_of (by simpa using z), c1, c2, c3, c4, c5, ?_⟩
        refine ha H0 Fa (some (.dat (.obj C (kvs.map (·.1)) dsf)) :: ts) (some (.ref a) :: us) ρ σ H2 _ (by simp [hl]) ⟨F, E2.top i⟩ (od.bind.imp (fun ds od vs H3 F3 E3 i3 => ?_) fun n q a' H3 c E3 => q a' H3 c E3.pop)
        obtain ⟨E4, i4⟩ := E3.popD
        have c7 := c7 (.obj C (kvs.map (·.1)) dsf :: ds)
        dsimp only at c7
        rw [c7] at od
        exact PF.call E4 (IsL.cons i4 (i3.app (c6 _))) od
  | _ => exact od.elim
theorem em_meth {k j : Nat} {tab : List (Str × (List D → Out M))} {g : Rn → Out D} {ga : Rn → Out (List D)} {pl : Sem Bool} (J : JX X W k) (hj : j ≤ k) (ht : ∀ q ∈ tab, MtOk ca X j m q.1 q.2) (ho : ED ca X W o g) (ha : EA ca X W (e :: es) ga)
    (hst : starEach (e :: es) X.env = (false, eval e X.env) :: starEach es X.env := by rfl) (hpl : (backTo pos (starEach es X.env)).any (·.1) = false := by rfl)
    (hev : eval (.Call (.Attribute o m apos) (e :: es) [] pos) X.env = (do
      let ov ← eval o X.env
      standAt apos.atName
      let (f, first) ← holding [ov] (getMethod ov m pl)
      callWith pos f first (backTo pos (starEach (e :: es) X.env)) (backToKw pos (keywordEach [] X.env))) := by rfl) :
    EM ca X W (.Call (.Attribute o m apos) (e :: es) [] pos) (mtC m tab g ga) := by
  obtain ⟨te, pe, ho⟩ := ho
  obtain ⟨ta, pa, ha⟩ := ha
  exact ⟨_, pe_methX pe (J.room.mono hj) (fun σ => passAt J.tk σ) pa hst hpl hev, mt_den ht ho ha⟩
theorem em_meth0 {k j : Nat} {tab : List (Str × (List D → Out M))} {g : Rn → Out D} {pl : Sem Bool} (J : JX X W k) (hj : j ≤ k) (ht : ∀ q ∈ tab, MtOk ca X j m q.1 q.2) (ho : ED ca X W o g)
    (hev : eval (.Call (.Attribute o m apos) [] [] pos) X.env = (do
      let ov ← eval o X.env
      standAt apos.atName
      let (f, first) ← holding [ov] (getMethod ov m pl)
      callWith pos f first (backTo pos (starEach [] X.env)) (backToKw pos (keywordEach [] X.env))) := by rfl) :
    EM ca X W (.Call (.Attribute o m apos) [] [] pos) (mtC m tab g (fun _ => .ok [])) := by
  obtain ⟨te, pe, ho⟩ := ho
  exact ⟨_, pe_methX0 pe (J.room.mono hj) (fun σ => passAt J.tk σ) hev, mt_den ht ho (fun H0 Fa ts us ρ σ H Q hl ⟨F, E⟩ o => o [] H F E IsL.nil)⟩

/-! ### try: x = e; except C: .. -/
/-- whether the error class n' stands at or under n -/
def subE (n' n : Str) : Bool := n' == n || n == "RoomError" || n == "ValueError"
def exNames : List Str := ["NoPrime", "NoOver", "NoTerm", "NoOrder", "NoRing", "NoLead", "NoText", "NoBase", "NoBox", "Open", "Endless", "NoLine"]
def sTry (n : Str) (s : Rn → SOut) (f : Rn → Out M) (i : Nat) (ρ : Rn) : SOut := match f ρ with
  | .stuck => .stuck
  | .exc n' => if List.contains exNames n' then (if subE n' n then (s ρ).nx else .exc n') else .stuck
  | .ok m => if i < ρ.length then .ok (.nx, ρ.set i (some m)) else .stuck
theorem ss_try {k i : Nat} {c : Value} {n : Str} {b0 : Stmt} {suite : List Stmt} {np pos' p1 p2 : Pos} {s : Rn → SOut} {f : Rn → Out M} {y : Str} (J : JX X W k) (hc : Names X x c) (hx : ∀ n', List.contains exNames n' = true → ∀ C', ca n' = some C' → PySem.W.exmOne X.K (.ref C') c = some (subE n' n))
    (hb : ∀ (W' : WX) (pn : List (Addr × Obj)) (xe : Value → Shared → Prop), JX (X.tr pn xe) W' k → EM ca (X.tr pn xe) W' e f)
    (hsu : ∀ (a : Addr) (pn : List (Addr × Obj)), SSs ca (X.suite a pn) W0 (b0 :: suite) s)
    (hi : X.N[i]? = some y := by rfl) (hy : Loc X.env.scope y := by first | exact Or.inl rfl | exact Or.inr rfl) (hsw : swapsWith e (some (.Name y p1)) p2.line X.env = pure false := by rfl)
    (hf : X.fn y = true ∨ X.env.scope.names.lookup y = some .local := by first | exact .inl rfl | exact .inr rfl)
    (hs : X.stack = X.env :: X.outer := by rfl) (hfr : X.env.frame = some X.env.locals := by rfl) :
    SS ca X W (.Try [.Assign [.Name y p1] e p2] [.ExceptHandler (some (.Name x np)) none (b0 :: suite) pos'] [] [] pos) (sTry n s f i) := by
  -- one reading for all contexts of the body, one for all of the suite
  have hb1 := fun (W' : WX) (z : { z : List (Addr × Obj) × (Value → Shared → Prop) // JX (X.tr z.1 z.2) W' k }) => hb W' z.1.1 z.1.2 z.2
  have hs1 := fun (z : Addr × List (Addr × Obj)) => hsu z.1 z.2
  refine ⟨_, ps_try_only (tb := fun W' => tAsg (fun σ H Q => ∀ z, Classical.choose (hb1 W' z) σ H Q) (gName i)) (ts := fun a cls d => fun D σ H => ∀ z, z.1 = a → Classical.choose (hs1 z) D σ H) (Wout := W) hs hfr hc J.tk
    (fun W' pn xe tk po => pss_one (ps_set (X := X.tr pn xe) J.nd hi hy ⟨fun pins s1 σ H Q I h => ?_⟩ hsw hf)) (fun a oe cls d pn hz hff => ⟨fun pins s1 σ H D I h => ?_⟩), fun H0 Fa ts us ρ σ H D hl E od => ?_⟩
  · have jj : JX (X.tr pn xe) W' k := ⟨J.calm, tk, J.nd, po, J.room⟩
    exact (Classical.choose_spec (hb1 W' ⟨(pn, xe), jj⟩)).1.run pins s1 σ H Q I (h ⟨(pn, xe), jj⟩)
  · exact (Classical.choose_spec (hs1 (a, (a, oe) :: pn))).1.run pins s1 σ H D I (h (a, (a, oe) :: pn) rfl)
  · intro z
    refine (Classical.choose_spec (hb1 _ z)).2 H0 Fa ts us ρ σ H _ hl E ?_
    unfold sTry at od
    cases ef : f ρ with
    | stuck => rw [ef] at od; exact od
    | exc n' =>
      rw [ef] at od
      intro a H2 hca E2
      dsimp only at od
      by_cases zn : List.contains exNames n' = true
      case neg => rw [if_neg zn] at od; exact od.elim
      rw [if_pos zn] at od
      refine ⟨subE n' n, hx n' zn a hca, fun hb a' ha' z => ?_, fun hb => ?_⟩
      · rw [if_pos hb] at od
        intro ez
        refine (Classical.choose_spec (hs1 z)).2 H0 Fa ts us ρ σ H2 D hl E2 ?_
        cases es : s ρ with
        | stuck => rw [es] at od; exact od
        | exc nn => rw [es] at od; exact od.elim
        | ok q =>
          rw [es] at od
          obtain ⟨fl, ρ'⟩ := q
          cases fl <;> exact od
      · rw [if_neg (by rw [hb]; simp)] at od
        exact od a σ H2 hca (Env.frm E2)
    | ok m =>
      rw [ef] at od
      intro v H2 E2
      dsimp only at od
      by_cases zi : i < ρ.length
      · rw [if_pos zi] at od
        refine od _ H2 ?_
        obtain ⟨F, E3⟩ := E2
        have q := E3.store (i := ts.length + i) (by simp; omega)
        rw [drop_set] at q
        rw [hl, drop_set] at q
        exact q
      · rw [if_neg zi] at od; exact od.elim
end
end DA
set_option maxHeartbeats 4000000
/-! DA9: defs by their names, the law's end -/
namespace DA
open PySem PySem.Spec PyProof.Rows L2

/-- the classes of a law's text, by name -/
def caK (cs : List Str) (K : PySem.W.Frag) (n : Str) : Option Addr := if cs.contains n then some (He.ga K n) else none
theorem caK_eq {cs : List Str} {K : PySem.W.Frag} {n : Str} {C : Addr} (h : caK cs K n = some C) : cs.contains n = true ∧ C = He.ga K n := by
  unfold caK at h
  by_cases z : cs.contains n = true
  · rw [if_pos z] at h; exact ⟨z, (Option.some.inj h).symm⟩
  · rw [if_neg z] at h; cases h
/-- attributes of the class x are read as a class's, its __init__ is a plain def -/
def clsB (K : PySem.W.Frag) (x : Str) : Bool := PySem.W.readsIn K (He.ga K x) (.type "type") && (He.eqO (PySem.W.specialIn K (.ref (He.ga K x)) "__getattribute__") (some (some (.builtin "type.__getattribute__"))) && (match PySem.W.findCls K (.ref (He.ga K x)) (.type "type") "__init__" with
  | some (.val (.ref g)) => decide (g = He.ma K (He.ga K x) "__init__")
  | _ => false))
/-- the class x is made without an __init__ of the text -/
def mk0B (K : PySem.W.Frag) (x : Str) : Bool := PySem.W.makesIn K (He.ga K x) && (He.eqO (PySem.W.findIn K (.ref (He.ga K x)) "__init__") (some (some (.builtin "object.__init__"))) && (decide (PySem.W.mroIn K (He.ga K x) (.type "object") = some true) && PySem.W.keepIn K (.ref (He.ga K x))))
def facB (K : PySem.W.Frag) (p : Nat × Str) : Bool := if p.1 = 0 then clsB K p.2 else mk0B K p.2
structure LX (P : Program) (w : World) (K : PySem.W.Frag) (mg : Str → Option Value) (base : Heap) (fa : List He.Fa) (fn : List He.DefD) (fc : List (Nat × Str)) : Prop where
  kin : K.In base
  glob : base.Ns mainGlobals mg
  says : He.SaysD fa fn K
  cls : fc.all (facB K) = true
section
variable {P : Program} {w : World} {K : PySem.W.Frag} {mg : Str → Option Value} {base : Heap} {fa : List He.Fa} {fn : List He.DefD} {fc : List (Nat × Str)} {ca : Str → Option Addr}
theorem LX.fact (L : LX P w K mg base fa fn fc) (i : Nat) {f : He.Fa} (h : fa[i]? = some f := by rfl) : f.ok K = true := L.says.fact i h
theorem LX.glo (L : LX P w K mg base fa fn fc) (i : Nat) {x : Str} (h : fa[i]? = some (.glo x) := by rfl) : mg x = some (.ref (He.ga K x)) := He.glo_ok L.kin L.glob (L.fact i h)
theorem LX.free (L : LX P w K mg base fa fn fc) (i : Nat) {x : Str} (h : fa[i]? = some (.free x) := by rfl) : mg x = none := He.free_ok L.kin L.glob (L.fact i h)
/-- the module's def x is worth d -/
structure Ok1 (ca : Str → Option Addr) (P : Program) (w : World) (K : PySem.W.Frag) (mg : Str → Option Value) (base : Heap) (x : Str) (j : Nat) (d : List D → Out M) : Prop where
  ex : ∃ (fd : FuncData) (ps : List Str), Binds K fd ps [] ∧ PySem.W.keepIn K (.ref (He.ga K x)) = true ∧ mg x = some (.ref (He.ga K x)) ∧ FnOk P w K mg base (L2.CX P w) j (He.ga K x) fd ps (PF ca K d)
theorem fn_okD {x qual : Str} {params : Arguments} {body : List Stmt} {scope : Scope} {dvs : List V} {kws : List (Str × V)} {f : Addr} {fd : FuncData} {N ps : List Str} {k : Nat} {s : Rn → SOut} (F : FunD K x qual params body scope dvs kws f fd) (S : FnScope N ps scope)
    (hbody : ∀ (cdv : Value) (A : Around) (outer : List PySem.Env) (s0 : Shared) (H : Hp) (E : XK), JX (cxOf (L2.CX P w) P w K mg base N qual scope f cdv A outer s0 H E) (fun c d _ H' => E c d H') k →
      SSs ca (cxOf (L2.CX P w) P w K mg base N qual scope f cdv A outer s0 H E) (fun c d _ H' => E c d H') body s) : FnOk P w K mg base (L2.CX P w) (k + 1) f fd ps (PF ca K (runD ps.length (N.length - ps.length) s)) := by
  refine F.ok S (fun vs H Q E h => ?_) (fun cdv A outer s0 H vs Q E hr h => ?_)
  · obtain ⟨Fa, ds, mu, i, o⟩ := h
    unfold runD at o
    by_cases z : ds.length = ps.length
    · rw [← i.len, z]
    · rw [if_neg z] at o; exact o.elim
  · obtain ⟨Fa, ds, mu, i, o⟩ := h
    obtain ⟨t, p, hs⟩ := hbody cdv A outer s0 H E (jx_of S.nd hr)
    unfold runD at o
    by_cases z : ds.length = ps.length
    · rw [if_pos z] at o
      refine ⟨t, p, hs.run (fun _ _ _ _ e => e) ?_ o⟩
      have q := env_start (ca := ca) (K := K) mu i (N.length - ps.length)
      unfold L2.start
      rw [← i.len, z]
      exact q
    · rw [if_neg z] at o; exact o.elim
/-- a def of the module -/
theorem ok1 (L : LX P w K mg base fa fn fc) (i ig : Nat) {x : Str} {d : He.DefD} {N ps : List Str} {k : Nat} {s : Rn → SOut} (S : FnScope N ps d.scope)
    (hbody : ∀ (f : Addr) (cdv : Value) (A : Around) (outer : List PySem.Env) (s0 : Shared) (H : Hp) (E : XK), JX (cxOf (L2.CX P w) P w K mg base N d.qual d.scope f cdv A outer s0 H E) (fun c d _ H' => E c d H') k →
      SSs ca (cxOf (L2.CX P w) P w K mg base N d.qual d.scope f cdv A outer s0 H E) (fun c d _ H' => E c d H') d.body s)
    (hd : d.at_ = (x, none)) (h0 : d.dfl = []) (hk : d.kwd = [])
    (hbind : ∀ (kV doc pm : Value) (an : Option Addr) (cdv ct : Value) (us : List Value), us.length = ps.length → bindArgs (PySem.W.fnOf d.name d.qual d.params d.body d.scope .none kV doc pm an cdv ct) ⟨us, []⟩ = pure (ps.zip us))
    (h : fn[i]? = some d := by rfl) (hg : fa[ig]? = some (.glo x) := by rfl) : Ok1 ca P w K mg base x (k + 1) (runD ps.length (N.length - ps.length) s) := by
  obtain ⟨fd, F⟩ := L.says.def_ i h
  have e1 : d.dvs K = [] := by unfold He.DefD.dvs; rw [h0]; rfl
  have e2 : d.kws K = [] := by unfold He.DefD.kws; rw [hk]; rfl
  have e3 : He.fAd K d.at_ = He.ga K x := by rw [hd]; rfl
  rw [e1, e2, e3] at F
  exact ⟨fd, ps, F.bindsN hbind, F.kp, L.glo ig hg, fn_okD F S (hbody _)⟩
/-- the method m of the class C is worth d (its last arguments told by its defaults: dd) -/
structure OkM (ca : Str → Option Addr) (P : Program) (w : World) (K : PySem.W.Frag) (mg : Str → Option Value) (base : Heap) (m C : Str) (j : Nat) (d : List D → Out M) : Prop where
  ex : ∃ (g : Addr) (fd : FuncData) (ps : List Str) (f0 : List D → Out M) (dd : List D) (dvs : List V) (ds : List Value), Cls K (He.ga K C) ∧ Meth K (He.ga K C) m g ∧ FnOk P w K mg base (L2.CX P w) j g fd ps (PF ca K f0) ∧ Binds K fd ps ds ∧ Vals dvs ds ∧
    (∀ H, IsL ca K H dd dvs) ∧ ∀ xs, d xs = f0 (xs ++ dd)
theorem OkM.mt {X : Cx} {ca : Str → Option Addr} {m C : Str} {i j : Nat} {d : List D → Out M} (h : ∀ a, ca C = some a → a = He.ga X.K C) (O : OkM ca X.prog X.w X.K X.mg X.base m C i d) (hj : i ≤ j) : MtOk ca X j m C d := ⟨fun a q => by
  obtain rfl := h a q
  obtain ⟨g, fd, ps, f0, dd, dvs, ds, c1, c2, c3, r⟩ := O.ex
  exact ⟨g, fd, ps, f0, dd, dvs, ds, c1, c2, c3.mono hj, r⟩⟩
/-- a class that the law's text has not -/
theorem MtOk.no {X : Cx} {cs : List Str} {m C : Str} {j : Nat} {d : List D → Out M} (h : cs.contains C = false := by rfl) : MtOk (caK cs X.K) X j m C d := ⟨fun a q => by
  obtain ⟨z, _⟩ := caK_eq q
  rw [h] at z; cases z⟩
theorem OkM.mono {m C : Str} {i j : Nat} {d : List D → Out M} (O : OkM ca P w K mg base m C i d) (h : i ≤ j) : OkM ca P w K mg base m C j d := by
  obtain ⟨g, fd, ps, f0, dd, dvs, ds, c1, c2, c3, r⟩ := O.ex
  exact ⟨g, fd, ps, f0, dd, dvs, ds, c1, c2, c3.mono h, r⟩
end
section
variable {ca : Str → Option Addr} {X : Cx} {W : WX} {e a b c tg o : Expr} {es : List Expr} {pos p apos : Pos} {x m f : Str}
def callM (d : List D → Out M) (g : Rn → Out (List D)) (ρ : Rn) : Out M := (g ρ).bind d
theorem em_call1 {k j : Nat} {d : List D → Out M} {g : Rn → Out (List D)} (J : JX X W k) (O : Ok1 ca X.prog X.w X.K X.mg X.base x j d) (ha : EA ca X W (e :: es) g) (hj : j ≤ k := by decide) (hg : Gl X x := by rfl) (hdb : (x == ("__debug__" : Str)) = false := by decide) (he : starEach (e :: es) X.env = (false, eval e X.env) :: starEach es X.env := by rfl) (hpl : (backTo pos (starEach es X.env)).any (·.1) = false := by rfl) :
    EM ca X W (.Call (.Name x p) (e :: es) [] pos) (callM d g) := by
  obtain ⟨fd, ps, c1, c2, c3, c4⟩ := O.ex
  exact em_call J c4 hj c3 c2 c1 ha hg hdb he hpl
/-! ### names for what is printed -/
def toM (f : Rn → Out D) (ρ : Rn) : Out M := (f ρ).map .dat
def toD (f : Rn → Out M) (ρ : Rn) : Out D := (f ρ).map M.er
def cst (d : D) (_ : Rn) : Out D := .ok d
def aNil (_ : Rn) : Out (List D) := .ok []
def aCons (f : Rn → Out D) (g : Rn → Out (List D)) (ρ : Rn) : Out (List D) := (f ρ).bind fun x => (g ρ).map (x :: ·)
def tupD (f : Rn → Out (List D)) (ρ : Rn) : Out D := (f ρ).bind fun xs => if xs.length ≤ sizeLine then .ok (.tup xs) else .stuck
def lstM (f : Rn → Out (List D)) (ρ : Rn) : Out M := (f ρ).bind fun xs => if xs.length ≤ sizeLine then .ok (.lst (xs.map .dat)) else .stuck
def isB (f : Rn → Out D) (ρ : Rn) : Out Bool := (f ρ).bind asB
def notB (f : Rn → Out Bool) (ρ : Rn) : Out Bool := (f ρ).map (!·)
def andB (f g : Rn → Out Bool) (ρ : Rn) : Out Bool := (f ρ).bind fun x => if x then g ρ else .ok false
def orB (f g : Rn → Out Bool) (ρ : Rn) : Out Bool := (f ρ).bind fun x => if x then .ok true else g ρ
def andD (f g : Rn → Out D) (ρ : Rn) : Out D := ((f ρ).bind asB).bind fun x => if x then g ρ else .ok (.bl false)
def orD (f g : Rn → Out D) (ρ : Rn) : Out D := ((f ρ).bind asB).bind fun x => if x then .ok (.bl true) else g ρ
def notD (f : Rn → Out D) (ρ : Rn) : Out D := ((f ρ).bind asB).map fun x => .bl (!x)
def ifD (t : Rn → Out Bool) (f g : Rn → Out D) (ρ : Rn) : Out D := (t ρ).bind fun x => if x then f ρ else g ρ
def itSeq (f : Rn → Out D) (ρ : Rn) : Out (List D) := (f ρ).bind seqOf
noncomputable def itRange1 (f : Rn → Out (List D)) (ρ : Rn) : Out (List D) := (f ρ).bind range1
noncomputable def itRange2 (f : Rn → Out (List D)) (ρ : Rn) : Out (List D) := (f ρ).bind range2
def itZip (f : Rn → Out (List D)) (ρ : Rn) : Out (List D) := (f ρ).bind zip2
def sNil (ρ : Rn) : SOut := .ok (.nx, ρ)
def sCont (ρ : Rn) : SOut := .ok (.ct, ρ)
def sBrk (ρ : Rn) : SOut := .ok (.bk, ρ)
def sRetN (ρ : Rn) : SOut := .ok (.rt (.dat .non), ρ)
def sExc (n : Str) (_ : Rn) : SOut := .exc n
def tYesB (_ : Rn) : Out Bool := .ok true
/-- a comprehension's name list, by the row's own scope -/
theorem ed_ty (T : String) {q : Pos} (hm : X.mg (Str.ofString T) = none) (hv : bootBuiltins (Str.ofString T) = some (.type T)) (hg : Gl X (Str.ofString T) := by rfl) (hn : Str.ofString T ≠ "__name__" := by decide) (hd : (Str.ofString T == ("__debug__" : Str)) = false := by decide) : PE X (.Name (Str.ofString T) q) (tC (.ty T)) := pe_bltn hg hm hv rfl hn hd
/-- raise n('..') -/
theorem ss_raise1 {k : Nat} {cs : List Str} {n msg : Str} {j : Nat} {p1 p2 p3 p4 : Pos} (J : JX X W k) (hcs : cs.contains n = true) (gm : X.mg n = some (.ref (He.ga X.K n))) (hx : (He.Fa.exc n).ok X.K = true) (hg : Gl X n := by rfl) (hdb : (n == ("__debug__" : Str)) = false := by decide) :
    SS (caK cs X.K) X W (.Raise (some (.Call (.Name n p1) [.Constant (.str msg) j p2] [] p3)) none p4) (sExc n) := by
  obtain ⟨x1, x2, x3, x4⟩ := He.exc_ok hx
  refine ss_raise (C := He.ga X.K n) J (by unfold caK; rw [if_pos hcs]) (pmk_own PySem.F.excBase_ValueError x1 gm x2 (raises_own x3 x4) hg hdb) fun σ H Q => rfl
end
/-! ### the end -/
theorem law_end {ca : Str → Option Addr} {K : PySem.W.Frag} {d : List D → Out M} {H : Hp} {a : Addr} {ns : List Int} {Ex : XK} (hS : SqL K H a (ns.map V.int)) (h : d [.lst (ns.map D.int)] = .ok (.dat (.bl true))) :
    PF ca K d [.ref a] H (fun v _ => v = .bl true) Ex := by
  refine ⟨[], [.lst (ns.map D.int)], fun _ z => by simp at z, IsL.cons (is_lst.mpr ⟨a, _, rfl, ?_, IsL.ints⟩) IsL.nil, ?_⟩
  · rw [cut_nil]; exact hS
  · rw [h]
    intro v H2 ⟨F, E⟩
    obtain ⟨v', e, i⟩ := E.get (i := 0) (d := .bl true) rfl
    injection e with e
    injection e with e
    subst e
    exact is_bl.mp i
theorem cx_none {P : Program} {w : World} {H : Hp} {s : Shared} {e : Value} {s' : Shared} (h : L2.CX P w [] H s (fun _ _ _ => False) e s') : False := by
  obtain ⟨_, _, _, _, _, _, _, _, _, _, _, _, z⟩ := h
  exact z
end DA
namespace DA
open PySem PySem.Spec PyProof.Rows L2
section
variable {P : Program} {w : World} {K : PySem.W.Frag} {mg : Str → Option Value} {base : Heap} {fa : List He.Fa} {fn : List He.DefD} {fc : List (Nat × Str)} {ca : Str → Option Addr}
/-- a method, all its arguments written -/
theorem okM (L : LX P w K mg base fa fn fc) (i ic im : Nat) {C m : Str} {d : He.DefD} {N ps : List Str} {k : Nat} {s : Rn → SOut} (S : FnScope N ps d.scope)
    (hbody : ∀ (f : Addr) (cdv : Value) (A : Around) (outer : List PySem.Env) (s0 : Shared) (H : Hp) (E : XK), JX (cxOf (L2.CX P w) P w K mg base N d.qual d.scope f cdv A outer s0 H E) (fun c d _ H' => E c d H') k →
      SSs ca (cxOf (L2.CX P w) P w K mg base N d.qual d.scope f cdv A outer s0 H E) (fun c d _ H' => E c d H') d.body s)
    (hd : d.at_ = (C, some m)) (h0 : d.dfl = []) (hk : d.kwd = [])
    (hbind : ∀ (kV doc pm : Value) (an : Option Addr) (cdv ct : Value) (us : List Value), us.length = ps.length → bindArgs (PySem.W.fnOf d.name d.qual d.params d.body d.scope .none kV doc pm an cdv ct) ⟨us, []⟩ = pure (ps.zip us))
    (h : fn[i]? = some d := by rfl) (hc : fa[ic]? = some (.cls C) := by rfl) (hm : fa[im]? = some (.meth C m) := by rfl) : OkM ca P w K mg base m C (k + 1) (runD ps.length (N.length - ps.length) s) := by
  obtain ⟨fd, F⟩ := L.says.def_ i h
  have e1 : d.dvs K = [] := by unfold He.DefD.dvs; rw [h0]; rfl
  have e2 : d.kws K = [] := by unfold He.DefD.kws; rw [hk]; rfl
  have e3 : He.fAd K d.at_ = He.ma K (He.ga K C) m := by rw [hd]; rfl
  rw [e1, e2, e3] at F
  exact ⟨_, fd, ps, _, [], [], [], He.cls_ok (L.fact ic hc), He.meth_ok (L.fact im hm), fn_okD F S (hbody _), F.bindsN hbind, .nil, fun _ => IsL.nil, fun xs => by rw [List.append_nil]⟩
/-- a method with one default, an int: all its arguments written | the last one told by the default -/
theorem okMd (L : LX P w K mg base fa fn fc) (i ic im : Nat) {C m : Str} {d : He.DefD} {N ps : List Str} {k n : Nat} {dv : Int} {s : Rn → SOut} (S : FnScope N ps d.scope)
    (hbody : ∀ (f : Addr) (cdv : Value) (A : Around) (outer : List PySem.Env) (s0 : Shared) (H : Hp) (E : XK), JX (cxOf (L2.CX P w) P w K mg base N d.qual d.scope f cdv A outer s0 H E) (fun c d _ H' => E c d H') k →
      SSs ca (cxOf (L2.CX P w) P w K mg base N d.qual d.scope f cdv A outer s0 H E) (fun c d _ H' => E c d H') d.body s)
    (hd : d.at_ = (C, some m)) (h0 : d.dfl = [.int dv]) (hk : d.kwd = []) (hn : n + 1 = ps.length)
    (hb0 : ∀ (T : Addr) (kV doc pm : Value) (an : Option Addr) (cdv ct : Value) (us its : List Value), us.length = n + 1 → its.length = 1 →
      ∃ k, bindArgs (PySem.W.fnOf d.name d.qual d.params d.body d.scope (.ref T) kV doc pm an cdv ct) ⟨us, []⟩ = seqItems? (.ref T) >>= k ∧ k (some its.toArray) = pure (ps.zip (us ++ its.drop 1)))
    (hb1 : ∀ (T : Addr) (kV doc pm : Value) (an : Option Addr) (cdv ct : Value) (us its : List Value), us.length = n → its.length = 1 →
      ∃ k, bindArgs (PySem.W.fnOf d.name d.qual d.params d.body d.scope (.ref T) kV doc pm an cdv ct) ⟨us, []⟩ = seqItems? (.ref T) >>= k ∧ k (some its.toArray) = pure (ps.zip (us ++ its.drop 0)))
    (h : fn[i]? = some d := by rfl) (hc : fa[ic]? = some (.cls C) := by rfl) (hm : fa[im]? = some (.meth C m) := by rfl) :
    OkM ca P w K mg base m C (k + 1) (runD ps.length (N.length - ps.length) s) ∧ OkM ca P w K mg base m C (k + 1) (fun xs => runD ps.length (N.length - ps.length) s (xs ++ [.int dv])) := by
  obtain ⟨fd, F⟩ := L.says.def_ i h
  have e1 : d.dvs K = [.int dv] := by unfold He.DefD.dvs; rw [h0]; rfl
  have e2 : d.kws K = [] := by unfold He.DefD.kws; rw [hk]; rfl
  have e3 : He.fAd K d.at_ = He.ma K (He.ga K C) m := by rw [hd]; rfl
  rw [e1, e2, e3] at F
  have G := fn_okD (ca := ca) F S (hbody _)
  obtain ⟨ds0, v0, b0⟩ := F.binds1 (n + 1) 1 (by simp) (by simpa using hn) (fun T kV doc pm an cdv ct us its h1 h2 => hb0 T kV doc pm an cdv ct us its h1 (by simpa using h2))
  obtain ⟨ds1, v1, b1⟩ := F.binds1 n 0 (by simp) (by simpa using hn) (fun T kV doc pm an cdv ct us its h1 h2 => hb1 T kV doc pm an cdv ct us its h1 (by simpa using h2))
  exact ⟨⟨_, fd, ps, _, [], [], ds0, He.cls_ok (L.fact ic hc), He.meth_ok (L.fact im hm), G, b0, v0, fun _ => IsL.nil, fun xs => by rw [List.append_nil]⟩,
    ⟨_, fd, ps, _, [.int dv], [.int dv], ds1, He.cls_ok (L.fact ic hc), He.meth_ok (L.fact im hm), G, b1, v1, fun _ => IsL.cons (is_int.mpr rfl) IsL.nil, fun xs => rfl⟩⟩
end
section
variable {ca : Str → Option Addr} {X : Cx} {W : WX} {e a b c tg o : Expr} {es : List Expr} {pos p apos : Pos} {x m f : Str}
/-- a module's int, text -/
theorem ed_gint {i : Int} (h : ∃ t, X.mg x = some (.int i t)) (hg : Gl X x := by rfl) (hd : (x == ("__debug__" : Str)) = false := by decide) : ED ca X W (.Name x p) (cst (.int i)) := by
  obtain ⟨t, h⟩ := h
  exact ed_c (pe_glob (v := .int i) hg h ⟨t, rfl⟩ hd) fun _ => is_int.mpr rfl
theorem ed_gstr {i : Str} (h : ∃ t, X.mg x = some (.str i t)) (hg : Gl X x := by rfl) (hd : (x == ("__debug__" : Str)) = false := by decide) : ED ca X W (.Name x p) (cst (.str i)) := by
  obtain ⟨t, h⟩ := h
  exact ed_c (pe_glob (v := .str i) hg h ⟨t, rfl⟩ hd) fun _ => is_str.mpr rfl
end
end DA
namespace DA
open PySem PySem.Spec PyProof.Rows L2
section
variable {P : Program} {w : World} {K : PySem.W.Frag} {mg : Str → Option Value} {base : Heap} {fa : List He.Fa} {fn : List He.DefD} {fc : List (Nat × Str)} {ca : Str → Option Addr} {cs : List Str}
/-- the fields f of the classes ns may be read -/
def Fld (ca : Str → Option Addr) (K : PySem.W.Frag) (f : Str) (ns : List Str) : Prop := ∀ n, List.contains ns n = true → ∀ C, ca n = some C → Cls K C ∧ NoAttr K C f
theorem fl_nil {f : Str} : Fld ca K f [] := fun n h => by simp at h
theorem fl_cons {f n : Str} {ns : List Str} (h : ∀ C, ca n = some C → Cls K C ∧ NoAttr K C f) (r : Fld ca K f ns) : Fld ca K f (n :: ns) := fun m hm C hC => by
  simp only [List.contains_cons, Bool.or_eq_true, beq_iff_eq] at hm
  rcases hm with e | e
  · subst e; exact h C hC
  · exact r m e C hC
theorem fl_in (L : LX P w K mg base fa fn fc) (i j : Nat) {n f : Str} (h1 : fa[i]? = some (.cls n) := by rfl) (h2 : fa[j]? = some (.noat n f) := by rfl) : ∀ C, caK cs K n = some C → Cls K C ∧ NoAttr K C f := fun C hC => by
  obtain ⟨_, rfl⟩ := caK_eq hC
  exact ⟨He.cls_ok (L.fact i h1), He.noat_ok (L.fact j h2)⟩
theorem ca_no {n : Str} {R : Addr → Prop} (h : cs.contains n = false := by decide +kernel) : ∀ C, caK cs K n = some C → R C := fun C hC => by
  obtain ⟨z, _⟩ := caK_eq hC
  rw [h] at z; cases z
theorem mt_nil {X : Cx} {j : Nat} {m : Str} : ∀ q ∈ ([] : List (Str × (List D → Out M))), MtOk ca X j m q.1 q.2 := fun q h => by cases h
theorem mt_cons {X : Cx} {j : Nat} {m n : Str} {f : List D → Out M} {r : List (Str × (List D → Out M))} (h : MtOk ca X j m n f) (t : ∀ q ∈ r, MtOk ca X j m q.1 q.2) : ∀ q ∈ (n, f) :: r, MtOk ca X j m q.1 q.2 := fun q hq => by
  rcases List.mem_cons.mp hq with e | e
  · subst e; exact h
  · exact t q e
theorem names_ok {X : Cx} {x : Str} {c : Value} (h : X.mg x = some c) (hg : Gl X x := by rfl) (hd : (x == ("__debug__" : Str)) = false := by decide) : Names X x c := ⟨hg, hd, .inl h⟩
/-- the errors of the classes ns, asked at the class c named n -/
def Exs (ca : Str → Option Addr) (K : PySem.W.Frag) (c : Value) (n : Str) (ns : List Str) : Prop := ∀ n', List.contains ns n' = true → ∀ C', ca n' = some C' → PySem.W.exmOne K (.ref C') c = some (subE n' n)
theorem ex_nil {c : Value} {n : Str} : Exs ca K c n [] := fun n h => by simp at h
theorem ex_cons {c : Value} {n m : Str} {ns : List Str} (h : ∀ C, ca m = some C → PySem.W.exmOne K (.ref C) c = some (subE m n)) (r : Exs ca K c n ns) : Exs ca K c n (m :: ns) := fun m' hm C hC => by
  simp only [List.contains_cons, Bool.or_eq_true, beq_iff_eq] at hm
  rcases hm with e | e
  · subst e; exact h C hC
  · exact r m' e C hC
theorem ex_in (L : LX P w K mg base fa fn fc) (i : Nat) {n m : Str} {b : Bool} (h1 : fa[i]? = some (.exm m n b) := by rfl) (hb : b = subE m n := by decide +kernel) : ∀ C, caK cs K m = some C → PySem.W.exmOne K (.ref C) (.ref (He.ga K n)) = some (subE m n) := fun C hC => by
  obtain ⟨_, rfl⟩ := caK_eq hC
  rw [← hb]
  exact He.exm_ok (L.fact i h1)
end
section
variable {ca : Str → Option Addr} {X : Cx} {W : WX} {e a b c tg o : Expr} {es : List Expr} {pos p apos : Pos} {x m f : Str}
theorem ss_setN (i : Nat) {f : Rn → Out M} (nd : X.N.Nodup) (h : EM ca X W e f) (hi : X.N[i]? = some x := by rfl) (hx : Loc X.env.scope x := by first | exact Or.inl rfl | exact Or.inr rfl) (hs : swapsWith e (some (.Name x p)) pos.line X.env = pure false := by rfl)
    (hf : X.fn x = true ∨ X.env.scope.names.lookup x = some .local := by first | exact .inl rfl | exact .inr rfl) : SS ca X W (.Assign [.Name x p] e pos) (sSet i f) := by
  obtain ⟨te, pe, h⟩ := h
  refine ⟨_, ps_set nd hi hx pe hs hf, fun H0 Fa ts us ρ σ H D hl E o => h H0 Fa ts us ρ σ H _ hl E (SPost.ofE o fun m o v H2 E2 => ?_)⟩
  by_cases z : i < ρ.length
  · rw [if_pos z] at o
    refine o _ H2 ?_
    obtain ⟨F, E3⟩ := E2
    have q := E3.store (i := ts.length + i) (by simp; omega)
    rw [drop_set] at q
    rw [hl, drop_set] at q
    exact q
  · rw [if_neg z] at o; exact o.elim
/-- return x, x with cells of its own -/
def sRetV (i : Nat) (ρ : Rn) : SOut := match ρ[i]? with
  | some (some m) => .ok (.rt m, ρ)
  | _ => .stuck
theorem Env.pick {K : PySem.W.Frag} {H0 H : Hp} {Fa : List Addr} {ρ : Rn} {σ : L2.St} {i : Nat} {m : M} (h : ρ[i]? = some (some m)) : Env ca K H0 Fa ρ σ H → ∃ v, σ[i]? = some (some v) ∧ Env ca K H0 Fa [some m] [some v] H := fun ⟨F, E⟩ => by
  obtain ⟨w, A, Fi, B, rfl, e2, ⟨v, rfl, ho⟩, _⟩ := E.own.split h
  have sub : ∀ a ∈ Fa ++ Fi, a ∈ Fa ++ (A ++ (Fi ++ B)) := fun a ha => by
    simp only [List.mem_append] at ha ⊢
    rcases ha with z | z <;> simp [z]
  have ls := le_shrink (H := H) sub fun a ha => (E.muG a (sub a ha)).ne
  refine ⟨v, e2, Fi, E.re ?_ (fun a ha => by simp [ha]) ?_⟩
  · have nd := E.nd
    simp only [List.nodup_append] at nd
    exact nd.2.1.1
  · have q0 : OwO ca K (Fa ++ Fi) H (some m) (some v) Fi := ⟨v, rfl, ho.mono ls (fun _ _ => rfl) fun _ _ z => z⟩
    have q := OwS.cons q0 OwS.nil
    rw [List.append_nil] at q
    exact q
theorem ss_retV (i : Nat) (hN : X.N[i]? = some x := by rfl) (hv : Vis X.env.scope x := by first | exact Or.inl rfl | exact Or.inr (Or.inl rfl) | exact Or.inr (Or.inr rfl)) (hd : (x == ("__debug__" : Str)) = false := by decide)
    (hcd : (x == ("__classdict__" : Str)) = false := by decide) : SS ca X W (.Return (some (.Name x p)) pos) (sRetV i) := by
  refine ⟨_, ps_ret (pe_var hN hv hd hcd), fun H0 Fa ts us ρ σ H D hl E o => ?_⟩
  unfold sRetV at o
  split at o
  · rename_i m hm
    obtain ⟨v, e, E2⟩ := Env.pick (i := ts.length + i) (by rw [drop_get]; exact hm) E
    rw [hl, drop_get] at e
    exact ⟨v, e, o v H E2⟩
  · exact o.elim
/-! ### comprehensions, as values and stored -/
structure LcOk (ca : Str → Option Addr) (X : Cx) (W : WX) (elt tg iter : Expr) (ifs : List Expr) (scope : Scope) (f : Rn → Out M) : Prop where
  ex : ∃ (own : List (Str × Nat)) (wi : TI) (g : TG) (tt : TT) (te : TE), X.calm = true ∧ X.N.Nodup ∧ PI X tg iter wi ∧ BlkOk X.N X.env.scope scope own ∧ (∀ (s : Shared) (H : Hp) (C : Addr) (cl : List (Str × Addr)) (fp : List Addr), PG (X.blk s H scope (compEnvC scope cl C X.env) fp) tg g) ∧
    (∀ (s : Shared) (H : Hp) (C : Addr) (cl : List (Str × Addr)) (fp : List Addr), PTs (X.blk s H scope (compEnvC scope cl C X.env) fp) ifs tt) ∧ (∀ (s : Shared) (H : Hp) (C : Addr) (cl : List (Str × Addr)) (fp : List Addr), PE (X.blk s H scope (compEnvC scope cl C X.env) fp) elt te) ∧
    (∀ x, foldedSetIterable iter X.env x = pure x) ∧ EvM ca X.K W (tLc wi g tt te (own.map (·.2))) f
theorem lc_ok {k : Nat} {elt iter : Expr} {ifs : List Expr} {scope : Scope} (own : List (Str × Nat)) {is : List Nat} {fi : Rn → Out (List D)} {g : D → Rn → Out Rn} {t : Rn → Out Bool} {f : Rn → Out D} (J : JX X W k) (hi : EI ca X W tg iter fi) (ok : BlkOk X.N X.env.scope scope own)
    (hg : ∀ (s : Shared) (H : Hp) (C : Addr) (cl : List (Str × Addr)) (fp : List Addr), JX (X.blk s H scope (compEnvC scope cl C X.env) fp) W0 k → TGi ca (X.blk s H scope (compEnvC scope cl C X.env) fp) tg is g)
    (ht : ∀ (s : Shared) (H : Hp) (C : Addr) (cl : List (Str × Addr)) (fp : List Addr), JX (X.blk s H scope (compEnvC scope cl C X.env) fp) W0 k → ETs ca (X.blk s H scope (compEnvC scope cl C X.env) fp) W0 ifs t)
    (he : ∀ (s : Shared) (H : Hp) (C : Addr) (cl : List (Str × Addr)) (fp : List Addr), JX (X.blk s H scope (compEnvC scope cl C X.env) fp) W0 k → ED ca (X.blk s H scope (compEnvC scope cl C X.env) fp) W0 elt f)
    (hsub : ∀ j ∈ is, j ∈ own.map (·.2)) (hs : ∀ x, foldedSetIterable iter X.env x = pure x := by intro _; rfl) :
    LcOk ca X W elt tg iter ifs scope (lcD fi (own.map (·.2)) g t f) := by
  have jb : ∀ (s : Shared) (H : Hp) (C : Addr) (cl : List (Str × Addr)) (fp : List Addr), JX (X.blk s H scope (compEnvC scope cl C X.env) fp) W0 k := fun s H C cl fp => ⟨J.calm, takes0, J.nd, PassesOwn.never, J.room⟩
  have g1 := fun (z : Shared × Hp × Addr × List (Str × Addr) × List Addr) => hg z.1 z.2.1 z.2.2.1 z.2.2.2.1 z.2.2.2.2 (jb _ _ _ _ _)
  have t1 := fun (z : Shared × Hp × Addr × List (Str × Addr) × List Addr) => ht z.1 z.2.1 z.2.2.1 z.2.2.2.1 z.2.2.2.2 (jb _ _ _ _ _)
  have e1 := fun (z : Shared × Hp × Addr × List (Str × Addr) × List Addr) => he z.1 z.2.1 z.2.2.1 z.2.2.2.1 z.2.2.2.2 (jb _ _ _ _ _)
  obtain ⟨wi, pi, hi⟩ := hi
  refine ⟨own, wi, fun v σ H Q => ∀ z, Classical.choose (g1 z) v σ H Q, fun σ H Q => ∀ z, Classical.choose (t1 z) σ H Q, fun σ H Q => ∀ z, Classical.choose (e1 z) σ H Q, J.calm, J.nd, pi, ok, ?_, ?_, ?_, hs, lc_den hi (is := is) ?_ ?_ ?_ hsub⟩
  · intro s H C cl fp
    have q := (Classical.choose_spec (g1 (s, H, C, cl, fp))).1
    exact ⟨fun pins s1 σ H1 v u Q I r h => q.run pins s1 σ H1 v u Q I r (h (s, H, C, cl, fp))⟩
  · intro s H C cl fp
    have q := (Classical.choose_spec (t1 (s, H, C, cl, fp))).1
    exact ⟨fun pins s1 σ H1 Q I h => q.run pins s1 σ H1 Q I (h (s, H, C, cl, fp))⟩
  · intro s H C cl fp
    have q := (Classical.choose_spec (e1 (s, H, C, cl, fp))).1
    exact ⟨fun pins s1 σ H1 Q I h => q.run pins s1 σ H1 Q I (h (s, H, C, cl, fp))⟩
  · intro H0 Fa ts us ρ σ H F d v Q hl E i o z
    exact (Classical.choose_spec (g1 z)).2 H0 Fa ts us ρ σ H F d v Q hl E i o
  · intro H0 Fa ts us ρ σ H Q hl E o z
    exact (Classical.choose_spec (t1 z)).2 H0 Fa ts us ρ σ H Q hl E o
  · intro H0 Fa ts us ρ σ H Q hl E o z
    exact (Classical.choose_spec (e1 z)).2 H0 Fa ts us ρ σ H Q hl E o
theorem em_lc1 {elt iter : Expr} {ifs : List Expr} {scope : Scope} {f : Rn → Out M} (h : LcOk ca X W elt tg iter ifs scope f) : EM ca X W (.ListComp elt [⟨tg, iter, ifs, 0⟩] scope pos) f := by
  obtain ⟨own, wi, g, tt, te, h1, h2, h3, h4, h5, h6, h7, h8, h9⟩ := h.ex
  exact ⟨_, pe_lc h1 h2 h3 h4 h5 h6 h7 h8, h9⟩
theorem EvM.frz {K : PySem.W.Frag} {te : TE} {f : Rn → Out M} (h : EvM ca K W te f) : EvM ca K W te (toM (toD f)) := fun H0 Fa ts us ρ σ H Q hl E o => h H0 Fa ts us ρ σ H Q hl E (by
  unfold toM toD at o
  exact o.map.map.imp (fun m q v H2 E2 => q v H2 E2.frz) fun _ z => z)
theorem lc_frz {elt iter : Expr} {ifs : List Expr} {scope : Scope} {f : Rn → Out M} (h : LcOk ca X W elt tg iter ifs scope f) : LcOk ca X W elt tg iter ifs scope (toM (toD f)) := by
  obtain ⟨own, wi, g, tt, te, h1, h2, h3, h4, h5, h6, h7, h8, h9⟩ := h.ex
  exact ⟨own, wi, g, tt, te, h1, h2, h3, h4, h5, h6, h7, h8, h9.frz⟩
theorem ss_setLc (i : Nat) {elt iter : Expr} {ifs : List Expr} {scope : Scope} {f : Rn → Out M} {y : Str} {py spos : Pos} (h : LcOk ca X W elt tg iter ifs scope f) (hy : X.N[i]? = some y := by rfl) (hyl : X.env.scope.names.lookup y = some .local := by rfl)
    (hsw : swapsWith (.ListComp elt [⟨tg, iter, ifs, 0⟩] scope pos) (some (.Name y py)) spos.line X.env = pure true := by exact sw_true rfl rfl rfl (by decide +kernel)) :
    SS ca X W (.Assign [.Name y py] (.ListComp elt [⟨tg, iter, ifs, 0⟩] scope pos) spos) (sSet i f) := by
  obtain ⟨own, wi, g, tt, te, h1, h2, h3, h4, h5, h6, h7, h8, h9⟩ := h.ex
  refine ⟨_, ps_setLc h1 h2 hy hyl hsw h3 h4 h5 h6 h7 h8, fun H0 Fa ts us ρ σ H D hl E o => h9 H0 Fa ts us ρ σ H _ hl E (SPost.ofE o fun m o v H2 E2 => ?_)⟩
  by_cases z : i < ρ.length
  · rw [if_pos z] at o
    refine o _ H2 ?_
    obtain ⟨F, E3⟩ := E2
    have q := E3.store (i := ts.length + i) (by simp; omega)
    rw [drop_set] at q
    rw [hl, drop_set] at q
    exact q
  · rw [if_neg z] at o; exact o.elim
end
/-- the law's end over a head by facts, the world's own outside -/
theorem walk_end {l : PySem.W.OpenLaw} {n k : Nat} {q : Program} {loose : List Str} {XP : (Str → Option Value) → Heap → Prop} {YP : World → Heap → Prop} {d : DefRec} {CX : World → CXT} {x : Str}
    (hn : l.most = some n) (hn2 : n ≤ sizeLine) (hdf : d.params.defaults = []) (hr : Room k callerA)
    (F : ∀ (w : World) (mg : Str → Option Value) (fa : Addr) (h : Heap), YP w h → h.Ns mainGlobals mg → mg d.name = some (.ref fa) →
      ∃ (K : PySem.W.Frag) (fd : FuncData) (sp : Sp), K.In h ∧ (∀ (s : Shared) (u : Value), BindsTo s fd ⟨[u], []⟩ [(x, u)]) ∧
        (∀ (H : Hp) (a : Addr) (ns : List Int), ns.length ≤ n → Only H → SqL K H a (ns.map V.int) → sp [.ref a] H (fun v _ => v = .bl true) fun _ _ _ => False) ∧
        ∀ base : Heap, K.In base → base.Ns mainGlobals mg → FnOk l.prog w K mg base (CX w) k fa fd [x] sp)
    (hCX : ∀ (w : World) (H : Hp) (s : Shared) (e : Value) (s' : Shared), CX w [] H s (fun _ _ _ => False) e s' → False) :
    PySem.W.WalkO q loose XP YP l.row.toRowW d [] (fun f vs => PySem.call f vs) := by
  refine Att.attach_call hn hdf fun w s₀ s₁ mg mb fa o pm cd doc a vs ns G Y ho hd hcd hmg hobj hints hlen hg => ?_
  obtain ⟨K, fd, sp, KX, hb, hsp, hF⟩ := F w mg fa _ Y G.T.g hmg
  exact law_call KX G.T.g G.T.b G.T.builtins G.T.nolimit hg hobj hints (Nat.le_trans hlen hn2) hr hF hb (fun H hO hS => hsp H a ns hlen hO hS) fun H e s' => hCX w H s₁ e s'
end DA
set_option maxHeartbeats 4000000
/-! DAC: instances made by a class's own __init__ -/
namespace DA
open PySem PySem.Spec PyProof.Rows L2

section
variable {ca : Str → Option Addr} {K : PySem.W.Frag} {H0 H H1 H2 : Hp} {Fa F : List Addr} {ρ : Rn} {σ : L2.St} {x : Addr} {o : HO}
theorem rd_upd {b : Addr} {u : HO} (h : H x = none) (q : Rd H b u) (z : Rd H1 b u) : Rd (upd H1 x o) b u := by
  have ne : b ≠ x := fun e => rd_ne q (by rw [e]; exact h)
  unfold Rd at z ⊢
  rw [upd_ne ne]
  exact z
theorem le_upd (l : Le H H1) (h : H x = none) : Le H (upd H1 x o) :=
  ⟨fun b ys q => by rw [upd_ne (ne_of_none q h)]; exact l.tup b ys q, fun b C dx fs q => by rw [upd_ne (ne_of_none q h)]; exact l.ins b C dx fs q,
   fun b ys q => rd_upd h q (l.lst b ys q), fun b ys q => rd_upd h q (l.dT b ys q), fun b ys q => rd_upd h q (l.dK b ys q),
   fun b q => by
    by_cases e : b = x
    · rw [e]; exact h
    · rw [upd_ne e] at q; exact l.dom b q⟩
theorem le_both (l : Le H H1) (h1 : H1 x ≠ none) : Le (upd H x o) (upd H1 x o) := by
  have k : ∀ b u, b ≠ x → (upd H x o) b = some u → H b = some u := fun b u e q => by rw [upd_ne e] at q; exact q
  refine ⟨fun b ys q => ?_, fun b C dx fs q => ?_, fun b ys q => ?_, fun b ys q => ?_, fun b ys q => ?_, fun b q => ?_⟩
  · by_cases e : b = x
    · subst e; rw [upd_same] at q ⊢; exact q
    · rw [upd_ne e] at q ⊢; exact l.tup b ys q
  · by_cases e : b = x
    · subst e; rw [upd_same] at q ⊢; exact q
    · rw [upd_ne e] at q ⊢; exact l.ins b C dx fs q
  all_goals try (
    by_cases e : b = x
    · subst e
      unfold Rd at q ⊢
      rw [upd_same] at q ⊢
      exact q
    · unfold Rd at q ⊢
      rw [upd_ne e] at q ⊢
      first | exact l.lst b ys q | exact l.dT b ys q | exact l.dK b ys q)
  · by_cases e : b = x
    · subst e; rw [upd_same] at q; cases q
    · rw [upd_ne e] at q ⊢; exact l.dom b q
theorem cut_upd {G : List Addr} (h : x ∈ G) : cut (upd H x o) G = cut H G := by
  funext b
  unfold cut
  by_cases z : b ∈ G
  · rw [if_pos z, if_pos z]
  · rw [if_neg z, if_neg z, upd_ne (fun e => z (by rw [e]; exact h))]
/-- a guarded cell written anew, here and at the entry -/
theorem EnvF.rebase (E : EnvF ca K H0 Fa ρ σ H F) (hx : x ∈ Fa) (m : Mu (some o)) : EnvF ca K (upd H0 x o) Fa ρ σ (upd H x o) F := by
  have n1 : H x ≠ none := by rw [E.keep x hx]; exact (E.mu x hx).ne
  have nF : x ∉ F := fun z => E.apart x z hx
  refine ⟨le_both E.le n1, fun a ha => ?_, fun a ha => ?_, E.nd, fun a ha => ?_, E.own.mono ?_ (fun a ha => upd_ne fun e => nF (by rw [← e]; exact ha)) fun a xs q => ?_⟩
  · by_cases e : a = x
    · subst e; rw [upd_same, upd_same]
    · rw [upd_ne e, upd_ne e]; exact E.keep a ha
  · by_cases e : a = x
    · subst e; rw [upd_same]; exact m
    · rw [upd_ne e]; exact E.mu a ha
  · rw [upd_ne (fun e => nF (by rw [← e]; exact ha))]; exact E.fresh a ha
  · rw [cut_upd (List.mem_append_left _ hx)]; exact Le.refl _
  · have ne : a ≠ x := fun e => by
      subst e
      have := E.mu a hx
      rw [← E.keep a hx] at this
      exact this.noTup q
    rw [upd_ne ne]; exact q
theorem EnvF.datas : ∀ {ds : List D} {vs : List V}, ds.length = vs.length → EnvF ca K H0 Fa ((ds.map fun d => some (.dat d)) ++ ρ) (vs.map some ++ σ) H F → IsL ca K (cut H (Fa ++ F)) ds vs
  | [], [], _, _ => IsL.nil
  | [], _ :: _, l, _ => by simp at l
  | _ :: _, [], l, _ => by simp at l
  | d :: ds, v :: vs, l, E => by
    obtain ⟨w', σ', F1, F2, e, ⟨v', ev, h⟩, r, ef⟩ := E.own
    injection e with e1 e2
    subst e1
    cases ev
    obtain ⟨f1, i⟩ := ow_dat.mp h
    subst f1
    have eF : F = F2 := by rw [ef]; rfl
    subst eF
    have E2 : EnvF ca K H0 Fa ((ds.map fun d => some (.dat d)) ++ ρ) (vs.map some ++ σ) H F := ⟨E.le, E.keep, E.mu, E.nd, E.fresh, by rw [← e2] at r; exact r⟩
    exact IsL.cons i (EnvF.datas (by simpa using l) E2)
end

/-! ### the promise of an __init__ -/
abbrev Ac := List (Str × D)
/-- x, an instance without fields, gets those that g tells (the last one first) -/
def PI (ca : Str → Option Addr) (K : PySem.W.Frag) (Ls : List Str) (g : Addr → List D → Out Ac) : Sp := fun vs H Q E =>
  ∃ (Fa : List Addr) (x C dx : Addr) (Cn : Str) (ds : List D) (ws : List V), vs = .ref x :: ws ∧ (∀ a ∈ Fa, Mu (H a)) ∧ x ∈ Fa ∧ H x = some (.ins C dx []) ∧ ca Cn = some C ∧ List.contains Ls Cn = true ∧ IsL ca K (cut H Fa) ds ws ∧
  OutE (g x ds) (fun acc => ∀ (H1 H3 : Hp) (rkv : List (Str × V)), (∀ a, a ≠ x → H1 a = H a) → H1 x = some (.ins C dx rkv.reverse) → rkv.map (·.1) = acc.map (·.1) → Frm H1 Fa H3 → IsL ca K (cut H3 Fa) (acc.map (·.2)) (rkv.map (·.2)) → Q .non H3)
    (fun n => ∀ (a : Addr) (H3 : Hp), ca n = some a → Frm H Fa H3 → E (.ref a) none H3)
section
variable (ca : Str → Option Addr) (X : Cx) (W : WX) (Ls : List Str)
/-- what the steps of an __init__ do -/
def ImD (K : PySem.W.Frag) (t : TS) (s : Addr → Ac → Rn → Out Ac) : Prop := ∀ (H0 : Hp) (Fa : List Addr) (x C dx : Addr) (Cn : Str) (acc : Ac) (rkv : List (Str × V)) (ρ : Rn) (σ : L2.St) (H : Hp) (D : Ends),
  x ∈ Fa → ca Cn = some C → List.contains Ls Cn = true → rkv.map (·.1) = acc.map (·.1) → H0 x = some (.ins C dx rkv.reverse) → Env ca K H0 Fa ((acc.map fun p => some (.dat p.2)) ++ ρ) ((rkv.map fun p => some p.2) ++ σ) H →
  OutE (s x acc ρ) (fun acc' => ∀ (H1 : Hp) (σ' : L2.St) (H2 : Hp) (rkv' : List (Str × V)), (∀ a, a ≠ x → H1 a = H0 a) → H1 x = some (.ins C dx rkv'.reverse) → rkv'.map (·.1) = acc'.map (·.1) → Frm H1 Fa H2 → IsL ca K (cut H2 Fa) (acc'.map (·.2)) (rkv'.map (·.2)) → D.nx σ' H2)
    (fun n => ∀ (a : Addr) (σ' : L2.St) (H2 : Hp), ca n = some a → Frm H0 Fa H2 → W (.ref a) none σ' H2) → t D σ H
def IM (sts : List Stmt) (s : Addr → Ac → Rn → Out Ac) : Prop := ∃ t, PSs X sts t ∧ ImD ca W Ls X.K t s
end
def iNil (_ : Addr) (acc : Ac) (_ : Rn) : Out Ac := .ok acc
def iPre (p : Rn → SOut) (r : Addr → Ac → Rn → Out Ac) (x : Addr) (acc : Ac) (ρ : Rn) : Out Ac := (p ρ).bind fun q => match q.1 with
  | .nx => r x acc q.2
  | _ => .stuck
def iSet (n : Str) (f g : Rn → Out D) (r : Addr → Ac → Rn → Out Ac) (x : Addr) (acc : Ac) (ρ : Rn) : Out Ac := ((f ρ).nx.bind fun d => (g ρ).nx.bind fun y => match y with
  | .loc x' => if x' = x ∧ List.contains (acc.map (·.1)) n = false ∧ acc.length < 500 then r x ((n, d) :: acc) ρ else .stuck
  | _ => .stuck).nx
def iBase (g : Addr → List D → Out Ac) (a : Rn → Out (List D)) (r : Addr → Ac → Rn → Out Ac) (x : Addr) (acc : Ac) (ρ : Rn) : Out Ac := match acc with
  | [] => ((a ρ).nx.bind fun ds => match ds with
    | .loc x' :: ds => if x' = x then (g x ds).nx.bind fun acc' => r x acc' ρ else .stuck
    | _ => .stuck).nx
  | _ => .stuck
section
variable {ca : Str → Option Addr} {X : Cx} {W : WX} {Ls : List Str} {st : Stmt} {sts : List Stmt} {e : Expr} {es : List Expr} {pos pos' apos : Pos}
theorem maps {α β : Type} (f : α → β) (g : β → Option M) (xs : List α) : xs.map (fun a => g (f a)) = (xs.map f).map g := by rw [List.map_map]; rfl
theorem im_nil : IM ca X W Ls [] iNil := by
  refine ⟨_, pss_nil, fun H0 Fa x C dx Cn acc rkv ρ σ H D hx hC hL hn h0 ⟨F, E⟩ o => ?_⟩
  have o2 : ∀ (H1 : Hp) (σ' : L2.St) (H2 : Hp) (rkv' : List (Str × V)), (∀ a, a ≠ x → H1 a = H0 a) → H1 x = some (.ins C dx rkv'.reverse) → rkv'.map (·.1) = acc.map (·.1) → Frm H1 Fa H2 → IsL ca X.K (cut H2 Fa) (acc.map (·.2)) (rkv'.map (·.2)) → D.nx σ' H2 := o
  have l : (acc.map (·.2)).length = (rkv.map (·.2)).length := by
    have := congrArg List.length hn
    simpa using this.symm
  have E2 : EnvF ca X.K H0 Fa (((acc.map (·.2)).map fun d => some (.dat d)) ++ ρ) ((rkv.map (·.2)).map some ++ σ) H F := by
    rw [List.map_map, List.map_map]; exact E
  exact o2 H0 σ H rkv (fun _ _ => rfl) h0 hn E.frm ((EnvF.datas l E2).le (le_shrink (fun a ha => List.mem_append_left _ ha) fun a ha => (E.muG a (List.mem_append_left _ ha)).ne))
theorem im_pre {p : Rn → SOut} {r : Addr → Ac → Rn → Out Ac} (h : SS ca X W st p) (hr : IM ca X W Ls sts r) : IM ca X W Ls (st :: sts) (iPre p r) := by
  obtain ⟨t, q, h⟩ := h
  obtain ⟨u, q2, hr⟩ := hr
  refine ⟨_, pss_cons q q2, fun H0 Fa x C dx Cn acc rkv ρ σ H D hx hC hL hn h0 E o => ?_⟩
  have hl : (acc.map fun p => (some (.dat p.2) : Option M)).length = (rkv.map fun p => some p.2).length := by
    have := congrArg List.length hn
    simpa using this.symm
  refine h H0 Fa _ _ ρ σ H _ hl E ?_
  unfold iPre at o
  cases ep : p ρ with
  | stuck => rw [ep] at o; exact o.elim
  | exc n => rw [ep] at o; exact fun a σ' H2 c f => o a σ' H2 c f
  | ok z =>
    obtain ⟨fl, ρ'⟩ := z
    rw [ep] at o
    cases fl with
    | nx => exact fun σ' H2 E2 => hr H0 Fa x C dx Cn acc rkv ρ' σ' H2 D hx hC hL hn h0 E2 o
    | bk => exact o.elim
    | ct => exact o.elim
    | rt m => exact o.elim
theorem putF_new {f : Str} {y : V} : ∀ {kvs : List (Str × V)}, List.contains (kvs.map (·.1)) f = false → putF f y kvs = kvs ++ [(f, y)]
  | [], _ => rfl
  | (g, z) :: r, h => by
    rw [List.map_cons, List.contains_cons] at h
    obtain ⟨h1, h2⟩ := Bool.or_eq_false_iff.mp h
    have ne : ¬ g = f := fun e => by rw [e] at h1; simp at h1
    rw [putF, if_neg ne, putF_new h2]
    rfl
theorem im_set {n : Str} {o : Expr} {value : Expr} {f g : Rn → Out D} {r : Addr → Ac → Rn → Out Ac} (hc : ∀ m, List.contains Ls m = true → ∀ C, ca m = some C → Cls X.K C ∧ NoAttr X.K C n) (hv : ED ca X W value f) (ho : ED ca X W o g) (hr : IM ca X W Ls sts r)
    (hs : swapsWith value (some (.Attribute o n pos')) pos.line X.env = pure false := by rfl) : IM ca X W Ls (.Assign [.Attribute o n pos'] value pos :: sts) (iSet n f g r) := by
  obtain ⟨tv, pv, hv⟩ := hv
  obtain ⟨to, po, ho⟩ := ho
  obtain ⟨u, q2, hr⟩ := hr
  refine ⟨_, pss_cons (ps_fld po pv hs) q2, fun H0 Fa x C dx Cn acc rkv ρ σ H D hx hC hL hn h0 E ok => ?_⟩
  have hl : (acc.map fun p => (some (.dat p.2) : Option M)).length = (rkv.map fun p => some p.2).length := by
    have := congrArg List.length hn
    simpa using this.symm
  refine hv H0 Fa _ _ ρ σ H _ hl E ?_
  unfold iSet at ok
  have ok := ok.nx (Y := fun _ => False)
  cases ef : f ρ with
  | stuck => rw [ef] at ok; exact ok.elim
  | exc z => rw [ef] at ok; exact ok.elim
  | ok d =>
    rw [ef] at ok
    intro y H1 F1 E1 i1
    have E1' := E1.top i1
    refine ho H0 Fa (some (.dat d) :: (acc.map fun p => (some (.dat p.2) : Option M))) (some y :: (rkv.map fun p => (some p.2 : Option V))) ρ σ H1 _ (by simpa using hl) (by exact ⟨F1, E1'⟩) ?_
    cases eg : g ρ with
    | stuck => rw [eg] at ok; exact ok.elim
    | exc z => rw [eg] at ok; exact ok.elim
    | ok dl =>
      rw [eg] at ok
      intro vl H2 F2 E2 i2
      cases dl with
      | loc x' =>
        have ok : OutE (if x' = x ∧ List.contains (acc.map (·.1)) n = false ∧ acc.length < 500 then r x ((n, d) :: acc) ρ else .stuck) _ _ := ok
        by_cases z : x' = x ∧ List.contains (acc.map (·.1)) n = false ∧ acc.length < 500
        · rw [if_pos z] at ok
          obtain ⟨rfl, z1, z2⟩ := z
          obtain ⟨c1, c2⟩ := hc Cn hL C hC
          have hx2 : H2 x' = some (.ins C dx rkv.reverse) := (E2.keep x' hx).trans h0
          have nc : List.contains (rkv.reverse.map (·.1)) n = false := by
            rw [List.map_reverse, hn]
            cases hh : List.contains (acc.map (·.1)).reverse n with
            | false => rfl
            | true =>
              have := List.contains_iff_mem.mp hh
              rw [List.mem_reverse] at this
              have := List.contains_iff_mem.mpr this
              rw [this] at z1; cases z1
          refine ⟨x', C, dx, rkv.reverse, is_loc.mp i2, hx2, c1, c2, ?_, ?_⟩
          · have := congrArg List.length hn
            simp at this ⊢
            omega
          · rw [putF_new nc]
            have er : rkv.reverse ++ [(n, y)] = ((n, y) :: rkv).reverse := by rw [List.reverse_cons]
            rw [er]
            have mm : Mu (some (HO.ins C dx ((n, y) :: rkv).reverse)) := .inr (.inr (.inr ⟨_, _, _, rfl⟩))
            refine hr (upd H0 x' (.ins C dx ((n, y) :: rkv).reverse)) Fa x' C dx Cn ((n, d) :: acc) ((n, y) :: rkv) ρ σ _ D hx hC hL (by rw [List.map_cons, List.map_cons, hn]) upd_same ⟨F2, E2.rebase hx mm⟩ ?_
            refine ok.imp (fun acc' k H3 σ' H4 rkv' k1 k2 k3 k4 k5 => k H3 σ' H4 rkv' (fun a ne => (k1 a ne).trans (upd_ne ne)) k2 k3 k4 k5) fun _ z => z.elim
        · rw [if_neg z] at ok; exact ok.elim
      | _ => exact ok.elim
/-- B.__init__(..), B the class at C -/
theorem pe_clsfn {CX : CXT} {k : Nat} {g CB : Addr} {mc : Value} {fd : FuncData} {ps : List Str} {sp : Sp} {B m : Str} {bp : Pos} {E : L2.St → XK} {t : TA} {pl : Sem Bool} (hg : Gl X B) (hm : X.mg B = some (.ref CB)) (r : ClX.CRead X.K CB mc) (k1 : ClX.CVal X.K CB mc m (.ref g) (.ref g)) (hk : PySem.W.keepIn X.K (.ref g) = true)
    (F : FnOk X.prog X.w X.K X.mg X.base CX k g fd ps sp) (hb : Binds X.K fd ps []) (hr : Room k X.A) (hx : ∀ σ, PassesAt CX X σ (E σ)) (ha : PA X (e :: es) t) (hdb : (B == ("__debug__" : Str)) = false := by decide)
    (hst : starEach (e :: es) X.env = (false, eval e X.env) :: starEach es X.env := by rfl) (hpl : (backTo pos (starEach es X.env)).any (·.1) = false := by rfl)
    (ht : eval (.Call (.Attribute (.Name B bp) m apos) (e :: es) [] pos) X.env = (do
      let ov ← eval (.Name B bp) X.env
      standAt apos.atName
      let (f, first) ← holding [ov] (getMethod ov m pl)
      callWith pos f first (backTo pos (starEach (e :: es) X.env)) (backToKw pos (keywordEach [] X.env))) := by rfl) :
    PE X (.Call (.Attribute (.Name B bp) m apos) (e :: es) [] pos) (fun σ H Q => t σ H fun vs H1 => sp vs H1 Q (E σ)) := by
  refine ⟨fun pins s σ H Q I h => ?_⟩
  refine PySem.W.methodCall_KW (pl := pl) (ld_glob I hg hm ?_ hdb) ht
  refine PySem.W.method_cls I.kIn r.ga (ClX.getcval_ok I r k1 fun s2 I2 => ?_)
  refine PySem.W.callWith_K (first := []) (h₀ := X.base) I.ok.mod.kin hk (thn (ha.run pos pins s2 σ H _ I2 h) fun us s3 ⟨vs, H2, I3, rv, q2⟩ => ⟨I3.kIn, ?_⟩) hst hpl
  exact run_fnD (us := us) (vs := vs) F hr hb .nil (hx σ) I3 rv (by rw [List.append_nil]; exact q2)
theorem im_base {j k : Nat} {g CB : Addr} {fd : FuncData} {ps : List Str} {B : Str} {bp : Pos} {d : Addr → List D → Out Ac} {a : Rn → Out (List D)} {r : Addr → Ac → Rn → Out Ac} {pl : Sem Bool} {mc : Value} (J : JX X W k) (hm : X.mg B = some (.ref CB)) (rc : ClX.CRead X.K CB mc) (k1 : ClX.CVal X.K CB mc "__init__" (.ref g) (.ref g)) (hk : PySem.W.keepIn X.K (.ref g) = true)
    (F : FnOk X.prog X.w X.K X.mg X.base (L2.CX X.prog X.w) j g fd ps (PI ca X.K Ls d)) (hb : Binds X.K fd ps []) (hj : j ≤ k) (ha : EA ca X W (e :: es) a) (hr : IM ca X W Ls sts r)
    (hs : swapsWith (.Call (.Attribute (.Name B bp) "__init__" apos) (e :: es) [] pos) none pos'.line X.env = pure false := by rfl) (hg : Gl X B := by rfl) (hdb : (B == ("__debug__" : Str)) = false := by decide)
    (hst : starEach (e :: es) X.env = (false, eval e X.env) :: starEach es X.env := by rfl) (hpl : (backTo pos (starEach es X.env)).any (·.1) = false := by rfl)
    (ht : eval (.Call (.Attribute (.Name B bp) "__init__" apos) (e :: es) [] pos) X.env = (do
      let ov ← eval (.Name B bp) X.env
      standAt apos.atName
      let (f, first) ← holding [ov] (getMethod ov "__init__" pl)
      callWith pos f first (backTo pos (starEach (e :: es) X.env)) (backToKw pos (keywordEach [] X.env))) := by rfl) :
    IM ca X W Ls (.Expr (.Call (.Attribute (.Name B bp) "__init__" apos) (e :: es) [] pos) pos' :: sts) (iBase d a r) := by
  obtain ⟨ta, pa, ha⟩ := ha
  obtain ⟨u, q2, hr⟩ := hr
  refine ⟨_, pss_cons (ps_expr (pe_clsfn hg hm rc k1 hk F hb (J.room.mono hj) (fun σ => passAt J.tk σ) pa hdb hst hpl ht) hs) q2, fun H0 Fa x C dx Cn acc rkv ρ σ H D hx hC hL hn h0 E ok => ?_⟩
  cases acc with
  | cons p acc => exact ok.elim
  | nil =>
    have er : rkv = [] := by
      have := congrArg List.length hn
      simpa using this
    subst er
    refine ha H0 Fa [] [] ρ σ H _ rfl E ?_
    have ok := OutE.nx (Y := fun _ => False) (show OutE (Out.nx _) _ _ from ok)
    cases ef : a ρ with
    | stuck => rw [ef] at ok; exact ok.elim
    | exc z => rw [ef] at ok; exact ok.elim
    | ok dl =>
      rw [ef] at ok
      intro vs H2 F2 E2 i2
      cases dl with
      | nil => exact ok.elim
      | cons d0 ds =>
        cases d0 with
        | loc x' =>
          have ok : OutE (if x' = x then (d x ds).nx.bind fun acc' => r x acc' ρ else .stuck) _ _ := ok
          by_cases z : x' = x
          · rw [if_pos z] at ok
            subst z
            obtain ⟨v, ws, rfl, iv, iw⟩ := isL_cons.mp i2
            rw [is_loc.mp iv]
            have hx2 : H2 x' = some (.ins C dx []) := (E2.keep x' hx).trans h0
            refine ⟨Fa ++ F2, x', C, dx, Cn, ds, ws, rfl, E2.muG, List.mem_append_left _ hx, hx2, hC, hL, iw, ?_⟩
            cases eg : d x' ds with
            | stuck => rw [eg] at ok; exact ok.elim
            | exc z => rw [eg] at ok; exact ok.elim
            | ok acc' =>
              rw [eg] at ok
              intro H1 H3 rkv b1 b2 b3 b4 b5
              have e1 : H1 = upd H2 x' (.ins C dx rkv.reverse) := by
                funext b
                by_cases e : b = x'
                · subst e; rw [upd_same]; exact b2
                · rw [upd_ne e]; exact b1 b e
              have mm : Mu (some (HO.ins C dx rkv.reverse)) := .inr (.inr (.inr ⟨_, _, _, rfl⟩))
              have E2b : EnvF ca X.K H0 Fa ρ σ H2 F2 := E2
              have E3 := E2b.rebase hx mm
              rw [← e1] at E3
              have E4 := E3.go b4.le b4.keep
              have E5 := E4.tops (ds := acc'.map (·.2)) (vs := rkv.map (·.2)) b5
              rw [List.map_map, List.map_map] at E5
              refine hr (upd H0 x' (.ins C dx rkv.reverse)) Fa x' C dx Cn acc' rkv ρ σ H3 D hx hC hL b3 upd_same ⟨F2, E5⟩ ?_
              exact OutE.imp ok (fun acc2 k H4 σ' H5 rkv' k1 k2 k3 k4 k5 => k H4 σ' H5 rkv' (fun a ne => (k1 a ne).trans (upd_ne ne)) k2 k3 k4 k5) fun _ z => z.elim
          · rw [if_neg z] at ok; exact ok.elim
        | _ => exact ok.elim
end
def runI (n k : Nat) (s : Addr → Ac → Rn → Out Ac) (x : Addr) (ds : List D) : Out Ac := if ds.length = n then s x [] (((D.loc x :: ds).map fun d => some (.dat d)) ++ List.replicate k none) else .stuck
section
variable {P : Program} {w : World} {K : PySem.W.Frag} {mg : Str → Option Value} {base : Heap} {fa : List He.Fa} {fn : List He.DefD} {fc : List (Nat × Str)} {ca : Str → Option Addr} {Ls : List Str}
theorem fn_okI {x qual : Str} {params : Arguments} {body : List Stmt} {scope : Scope} {dvs : List V} {kws : List (Str × V)} {f : Addr} {fd : FuncData} {N ps : List Str} {k : Nat} {s : Addr → Ac → Rn → Out Ac} (F : FunD K x qual params body scope dvs kws f fd) (S : FnScope N ps scope) (hps : ps ≠ [])
    (hbody : ∀ (cdv : Value) (A : Around) (outer : List PySem.Env) (s0 : Shared) (H : Hp) (E : XK), JX (cxOf (L2.CX P w) P w K mg base N qual scope f cdv A outer s0 H E) (fun c d _ H' => E c d H') k →
      IM ca (cxOf (L2.CX P w) P w K mg base N qual scope f cdv A outer s0 H E) (fun c d _ H' => E c d H') Ls body s) : FnOk P w K mg base (L2.CX P w) (k + 1) f fd ps (PI ca K Ls (runI (ps.length - 1) (N.length - ps.length) s)) := by
  have hp : ps.length - 1 + 1 = ps.length := Nat.succ_pred_eq_of_pos (List.length_pos_iff.mpr hps)
  refine F.ok S (fun vs H Q E h => ?_) (fun cdv A outer s0 H vs Q E hr h => ?_)
  · obtain ⟨Fa, x, C, dx, Cn, ds, ws, rfl, mu, hx, h0, hC, hL, i, o⟩ := h
    unfold runI at o
    by_cases z : ds.length = ps.length - 1
    · rw [List.length_cons, ← i.len, z, hp]
    · rw [if_neg z] at o; exact o.elim
  · obtain ⟨Fa, x, C, dx, Cn, ds, ws, rfl, mu, hx, h0, hC, hL, i, o⟩ := h
    obtain ⟨t, p, hs⟩ := hbody cdv A outer s0 H E (jx_of S.nd hr)
    unfold runI at o
    by_cases z : ds.length = ps.length - 1
    · rw [if_pos z] at o
      have i2 : IsL ca K (cut H Fa) (D.loc x :: ds) (V.ref x :: ws) := IsL.cons (is_loc.mpr rfl) i
      have q := env_start (ca := ca) (K := K) mu i2 (N.length - ps.length)
      have lw : ((V.ref x :: ws) : List V).length = ps.length := by rw [List.length_cons, ← i.len, z, hp]
      refine ⟨t, p, hs H Fa x C dx Cn [] [] _ _ H _ hx hC hL rfl h0 (by
        unfold L2.start
        rw [lw]
        exact q) (OutE.imp o (fun acc k H1 σ' H2 rkv k1 k2 k3 k4 k5 => k H1 H2 rkv k1 k2 k3 k4 k5) fun n k a σ' H2 c f => k a H2 c f)⟩
    · rw [if_neg z] at o; exact o.elim
/-- the class C is made by its own __init__, worth d -/
structure OkI (ca : Str → Option Addr) (P : Program) (w : World) (K : PySem.W.Frag) (mg : Str → Option Value) (base : Heap) (Ls : List Str) (C : Str) (j : Nat) (d : Addr → List D → Out Ac) : Prop where
  ex : ∃ (fd : FuncData) (ps : List Str), Binds K fd ps [] ∧ PySem.W.keepIn K (.ref (He.ma K (He.ga K C) "__init__")) = true ∧ FnOk P w K mg base (L2.CX P w) j (He.ma K (He.ga K C) "__init__") fd ps (PI ca K Ls d)
theorem okI (L : LX P w K mg base fa fn fc) (i : Nat) {C : Str} {d : He.DefD} {N ps : List Str} {k : Nat} {s : Addr → Ac → Rn → Out Ac} (S : FnScope N ps d.scope) (hps : ps ≠ [])
    (hbody : ∀ (f : Addr) (cdv : Value) (A : Around) (outer : List PySem.Env) (s0 : Shared) (H : Hp) (E : XK), JX (cxOf (L2.CX P w) P w K mg base N d.qual d.scope f cdv A outer s0 H E) (fun c d _ H' => E c d H') k →
      IM ca (cxOf (L2.CX P w) P w K mg base N d.qual d.scope f cdv A outer s0 H E) (fun c d _ H' => E c d H') Ls d.body s)
    (hd : d.at_ = (C, some ("__init__" : Str))) (h0 : d.dfl = []) (hk : d.kwd = [])
    (hbind : ∀ (kV doc pm : Value) (an : Option Addr) (cdv ct : Value) (us : List Value), us.length = ps.length → bindArgs (PySem.W.fnOf d.name d.qual d.params d.body d.scope .none kV doc pm an cdv ct) ⟨us, []⟩ = pure (ps.zip us))
    (h : fn[i]? = some d := by rfl) : OkI ca P w K mg base Ls C (k + 1) (runI (ps.length - 1) (N.length - ps.length) s) := by
  obtain ⟨fd, F⟩ := L.says.def_ i h
  have e1 : d.dvs K = [] := by unfold He.DefD.dvs; rw [h0]; rfl
  have e2 : d.kws K = [] := by unfold He.DefD.kws; rw [hk]; rfl
  have e3 : He.fAd K d.at_ = He.ma K (He.ga K C) "__init__" := by rw [hd]; rfl
  rw [e1, e2, e3] at F
  exact ⟨fd, ps, F.bindsN hbind, F.kp, fn_okI F S hps (hbody _)⟩
theorem OkI.mono {C : Str} {i j : Nat} {d : Addr → List D → Out Ac} (O : OkI ca P w K mg base Ls C i d) (h : i ≤ j) : OkI ca P w K mg base Ls C j d := by
  obtain ⟨fd, ps, c1, c2, c3⟩ := O.ex
  exact ⟨fd, ps, c1, c2, c3.mono h⟩
end
/-! ### C(..) -/
noncomputable def newD (Cn : Str) (d : Addr → List D → Out Ac) (ds : List D) : Out D :=
  open Classical in if ∀ x, d x ds = d 0 ds then (d 0 ds).map fun acc => .obj Cn (acc.reverse.map (·.1)) (acc.reverse.map (·.2)) else .stuck
theorem newD_ok {Cn : Str} {d : Addr → List D → Out Ac} {ds : List D} {acc : Ac} (h : ∀ x, d x ds = .ok acc) : newD Cn d ds = .ok (.obj Cn (acc.reverse.map (·.1)) (acc.reverse.map (·.2))) := by
  unfold newD
  rw [if_pos (fun x => (h x).trans (h 0).symm), h 0]
  rfl
theorem newD_exc {Cn n : Str} {d : Addr → List D → Out Ac} {ds : List D} (h : ∀ x, d x ds = .exc n) : newD Cn d ds = .exc n := by
  unfold newD
  rw [if_pos (fun x => (h x).trans (h 0).symm), h 0]
  rfl
section
variable {X : Cx} {W : WX} {e : Expr} {es : List Expr} {pos p : Pos} {k : Nat}
theorem run_mk {CX : CXT} {f C : Addr} {fd : FuncData} {ps : List Str} {sp : Sp} {E : L2.St → XK} {pins : List (Addr × Obj)} {σ : L2.St} {H : Hp} {s : Shared} {Q : VK} {us : List Value} {vs : List V} (N : Mk X.K C f) (F : FnOk X.prog X.w X.K X.mg X.base CX k f fd ps sp) (hr : Room (k + 1) X.A) (hb : Binds X.K fd ps [])
    (hx : PassesAt CX X σ (E σ)) (I : Inv X pins σ H s) (r : Vals vs us)
    (h : ∀ x dx, H x = none → H dx = none → dx ≠ x → sp (.ref x :: vs) (upd (upd H dx (.own x)) x (.ins C dx [])) (fun v H2 => v = .non ∧ Q (.ref x) H2) (E σ)) : wpAny (model X.prog X.w) X.A (call (.ref C) us) (EP X pins σ Q) X.xe s := by
  have q := h (s.heap.objs.size + 1) s.heap.objs.size (I.hok.fresh (Nat.le_succ _)) (I.hok.fresh (Nat.le_refl _)) (Nat.ne_of_lt (Nat.lt_succ_self _))
  have J := Inv.made (C := C) I
  have rr : Vals (V.ref (s.heap.objs.size + 1) :: vs) (Value.ref (s.heap.objs.size + 1) :: us) := .cons rfl r
  have len : (Value.ref (s.heap.objs.size + 1) :: us ++ []).length = ps.length := by
    rw [List.append_nil, ← rr.length]; exact F.len _ _ _ _ q
  have bd := hb _ (Value.ref (s.heap.objs.size + 1) :: us) J.kIn len
  rw [List.append_nil] at bd
  refine wpAny_call (make_map (f := f) I.kIn N.makes N.init (beq_iff_eq.mp N.fn) (codeAny_mono (F.run _ X.stack _ _ ⟨_, []⟩ _ _ _ (E σ) (hr.make C us []) (J.env0.make C us []) bd rr q) fun z s' hz => ?_))
  cases z with
  | error a => exact hx pins _ _ a s' J hz
  | ok fl =>
    cases fl with
    | ret u =>
      obtain ⟨v, H', I3, rv, ev, q3⟩ := J.after hz
      subst ev
      exact ⟨rv, V.ref (s.heap.objs.size + 1), H', I3, rfl, q3⟩
    | next => exact False.elim hz
    | brk => exact False.elim hz
    | cont => exact False.elim hz
def tMk (C : Addr) (sp : Sp) (E : L2.St → XK) (t : TA) : TE := fun σ H Q => t σ H fun vs H1 => ∀ x dx, H1 x = none → H1 dx = none → dx ≠ x → sp (.ref x :: vs) (upd (upd H1 dx (.own x)) x (.ins C dx [])) (fun v H2 => v = .non ∧ Q (.ref x) H2) (E σ)
theorem pe_mk {CX : CXT} {f C : Addr} {fd : FuncData} {ps : List Str} {sp : Sp} {E : L2.St → XK} {x : Str} {t : TA} (N : Mk X.K C f) (F : FnOk X.prog X.w X.K X.mg X.base CX k f fd ps sp) (hr : Room (k + 1) X.A) (hg : Gl X x) (hm : X.mg x = some (.ref C)) (hb : Binds X.K fd ps []) (hx : ∀ σ, PassesAt CX X σ (E σ))
    (ha : PA X (e :: es) t) (hdb : (x == ("__debug__" : Str)) = false := by decide) (he : starEach (e :: es) X.env = (false, eval e X.env) :: starEach es X.env := by rfl) (hpl : (backTo pos (starEach es X.env)).any (·.1) = false := by rfl) :
    PE X (.Call (.Name x p) (e :: es) [] pos) (tMk C sp E t) := by
  refine ⟨fun pins s σ H Q I h => wpAny_Call_Name_kw (ld_glob I hg hm ?_ hdb)⟩
  exact PySem.W.callWith_K (h₀ := X.base) I.ok.mod.kin N.kp (thn (ha.run pos pins s σ H _ I h) fun us s1 ⟨vs, H1, I1, r, q⟩ => ⟨I1.kIn, run_mk N F hr hb (hx σ) I1 r q⟩) he hpl
theorem pe_mk0 {CX : CXT} {f C : Addr} {fd : FuncData} {ps : List Str} {sp : Sp} {E : L2.St → XK} {x : Str} (N : Mk X.K C f) (F : FnOk X.prog X.w X.K X.mg X.base CX k f fd ps sp) (hr : Room (k + 1) X.A) (hg : Gl X x) (hm : X.mg x = some (.ref C)) (hb : Binds X.K fd ps []) (hx : ∀ σ, PassesAt CX X σ (E σ))
    (hdb : (x == ("__debug__" : Str)) = false := by decide) : PE X (.Call (.Name x p) [] [] pos) (tMk C sp E tNil) := by
  refine ⟨fun pins s σ H Q I h => wpAny_Call_Name_kw (ld_glob I hg hm ?_ hdb)⟩
  exact PySem.W.callWith_K0 I.kIn N.kp (run_mk (us := []) N F hr hb (hx σ) I .nil h)
theorem mk_den {K : PySem.W.Frag} {cs Ls : List Str} {Cn : Str} {d : Addr → List D → Out Ac} {ta : TA} {g : Rn → Out (List D)} (hcs : cs.contains Cn = true) (hL : Ls.contains Cn = true) (ha : EvA (caK cs K) K W ta g) :
    EvD (caK cs K) K W (tMk (He.ga K Cn) (PI (caK cs K) K Ls d) (WE W) ta) (fun ρ => (g ρ).bind (newD Cn d)) := by
  have hC : caK cs K Cn = some (He.ga K Cn) := by unfold caK; rw [if_pos hcs]
  intro H0 Fa ts us ρ σ H Q hl E o
  refine ha H0 Fa ts us ρ σ H _ hl E (OutE.bind o |>.imp (fun ds o vs H1 F E1 i => ?_) fun n q => q)
  intro x dx hx hdx ne
  have h1 : ∀ a u, H1 a = some u → (upd (upd H1 dx (.own x)) x (.ins (He.ga K Cn) dx [])) a = some u := fun a u q => by
    rw [upd_ne (ne_of_none q hx), upd_ne (ne_of_none q hdx)]; exact q
  have nx : x ∉ Fa ++ F := fun z => (E1.muG x z).ne hx
  have E2 := E1.same h1
  have mu2 : ∀ a ∈ Fa ++ F ++ [x], Mu ((upd (upd H1 dx (.own x)) x (.ins (He.ga K Cn) dx [])) a) := fun a ha => by
    rcases List.mem_append.mp ha with z | z
    · exact E2.muG a z
    · rw [List.mem_singleton.mp z, upd_same]; exact .inr (.inr (.inr ⟨_, _, _, rfl⟩))
  have i2 : IsL (caK cs K) K (cut (upd (upd H1 dx (.own x)) x (.ins (He.ga K Cn) dx [])) (Fa ++ F ++ [x])) ds vs := i.le ((Le.of_same h1).cut (fun a n hn z => by
    rcases List.mem_append.mp z with z | z
    · exact n z
    · exact hn (by rw [List.mem_singleton.mp z]; exact hx)) fun a ha => (mu2 a ha).ne)
  refine ⟨Fa ++ F ++ [x], x, He.ga K Cn, dx, Cn, ds, vs, rfl, mu2, by simp, upd_same, hC, hL, i2, ?_⟩
  unfold newD at o
  by_cases z : ∀ y, d y ds = d 0 ds
  · rw [if_pos z] at o
    rw [z x]
    cases ed : d 0 ds with
    | stuck => rw [ed] at o; exact o.elim
    | exc n =>
      rw [ed] at o
      intro a H3 c f
      have f2 : Frm H1 (Fa ++ F) H3 := ⟨(Le.of_same h1).trans f.le, fun b hb => (f.keep b (List.mem_append_left _ hb)).trans (by rw [upd_ne (fun e => nx (by rw [← e]; exact hb)), upd_ne (fun e => (E1.muG b hb).ne (by rw [e]; exact hdx))])⟩
      exact o a H3 c ⟨F, E1.go f2.le f2.keep⟩
    | ok acc =>
      rw [ed] at o
      intro H2 H3 rkv b1 b2 b3 b4 b5
      have e2 : H2 = upd (upd (upd H1 dx (.own x)) x (.ins (He.ga K Cn) dx [])) x (.ins (He.ga K Cn) dx rkv.reverse) := by
        funext b
        by_cases e : b = x
        · subst e; rw [upd_same]; exact b2
        · rw [upd_ne e]; exact b1 b e
      have l2 : Le H1 H2 := by rw [e2]; exact le_upd (Le.of_same h1) hx
      have k2 : ∀ a ∈ Fa ++ F, H2 a = H1 a := fun a ha => by
        have n1 : a ≠ x := fun e => nx (by rw [← e]; exact ha)
        rw [b1 a n1, upd_ne n1, upd_ne (fun e => (E1.muG a ha).ne (by rw [e]; exact hdx))]
      have E3 := E1.go (l2.trans b4.le) fun a ha => (b4.keep a (List.mem_append_left _ ha)).trans (k2 a ha)
      refine ⟨rfl, o (.ref x) H3 F E3 (is_obj.mpr ⟨x, He.ga K Cn, dx, rkv.reverse, rfl, hC, ?_, ?_, ?_⟩)⟩
      · rw [cut_out nx, b4.keep x (by simp)]; exact b2
      · rw [List.map_reverse, List.map_reverse, b3]
      · have q := b5.rev
        rw [← List.map_reverse, ← List.map_reverse] at q
        exact q.le (le_shrink (fun a ha => List.mem_append_left _ ha) fun a ha => (E3.muG a ha).ne)
  · rw [if_neg z] at o; exact o.elim
noncomputable def newF (Cn : Str) (d : Addr → List D → Out Ac) (g : Rn → Out (List D)) (ρ : Rn) : Out D := (g ρ).bind (newD Cn d)
theorem ed_new {cs Ls : List Str} {Cn : Str} {j : Nat} {d : Addr → List D → Out Ac} {g : Rn → Out (List D)} (J : JX X W k) (O : OkI (caK cs X.K) X.prog X.w X.K X.mg X.base Ls Cn j d) (hk : (He.Fa.mkr Cn).ok X.K = true) (gm : X.mg Cn = some (.ref (He.ga X.K Cn)))
    (ha : EA (caK cs X.K) X W (e :: es) g) (hcs : cs.contains Cn = true := by decide +kernel) (hL : Ls.contains Cn = true := by decide +kernel) (hj : j + 1 ≤ k := by decide) (hg : Gl X Cn := by rfl) (hdb : (Cn == ("__debug__" : Str)) = false := by decide)
    (he : starEach (e :: es) X.env = (false, eval e X.env) :: starEach es X.env := by rfl) (hpl : (backTo pos (starEach es X.env)).any (·.1) = false := by rfl) : ED (caK cs X.K) X W (.Call (.Name Cn p) (e :: es) [] pos) (newF Cn d g) := by
  obtain ⟨fd, ps, c1, c2, c3⟩ := O.ex
  obtain ⟨ta, pa, ha⟩ := ha
  exact ⟨_, pe_mk (He.mkr_ok hk) c3 (J.room.mono hj) hg gm c1 (fun σ => passAt J.tk σ) pa hdb he hpl, mk_den hcs hL ha⟩
theorem ed_new0 {cs Ls : List Str} {Cn : Str} {j : Nat} {d : Addr → List D → Out Ac} (J : JX X W k) (O : OkI (caK cs X.K) X.prog X.w X.K X.mg X.base Ls Cn j d) (hk : (He.Fa.mkr Cn).ok X.K = true) (gm : X.mg Cn = some (.ref (He.ga X.K Cn)))
    (hcs : cs.contains Cn = true := by decide +kernel) (hL : Ls.contains Cn = true := by decide +kernel) (hj : j + 1 ≤ k := by decide) (hg : Gl X Cn := by rfl) (hdb : (Cn == ("__debug__" : Str)) = false := by decide) : ED (caK cs X.K) X W (.Call (.Name Cn p) [] [] pos) (newF Cn d aNil) := by
  obtain ⟨fd, ps, c1, c2, c3⟩ := O.ex
  exact ⟨_, pe_mk0 (He.mkr_ok hk) c3 (J.room.mono hj) hg gm c1 (fun σ => passAt J.tk σ) hdb, mk_den (g := aNil) hcs hL (fun H0 Fa ts us ρ σ H Q hl ⟨F, E⟩ o => o [] H F E IsL.nil)⟩
end
section
variable {P : Program} {w : World} {K : PySem.W.Frag} {mg : Str → Option Value} {base : Heap} {fa : List He.Fa} {fn : List He.DefD} {fc : List (Nat × Str)}
theorem LX.clsAt (L : LX P w K mg base fa fn fc) (x : Str) (h : fc.contains (0, x) = true) : ClX.CRead K (He.ga K x) (.type "type") ∧ ClX.CVal K (He.ga K x) (.type "type") "__init__" (.ref (He.ma K (He.ga K x) "__init__")) (.ref (He.ma K (He.ga K x) "__init__")) := by
  have q : clsB K x = true := List.all_eq_true.mp L.cls (0, x) (List.contains_iff_mem.mp h)
  unfold clsB at q
  obtain ⟨q1, q2⟩ := Bool.and_eq_true_iff.mp q
  obtain ⟨q2, q3⟩ := Bool.and_eq_true_iff.mp q2
  refine ⟨⟨q1, He.eqO_ok q2⟩, ⟨?_, rfl⟩⟩
  cases e : PySem.W.findCls K (.ref (He.ga K x)) (.type "type") "__init__" with
  | none => rw [e] at q3; cases q3
  | some r =>
    rw [e] at q3
    cases r with
    | get a b c d => cases q3
    | val v =>
      cases v with
      | ref g =>
        have eg : g = He.ma K (He.ga K x) "__init__" := of_decide_eq_true q3
        rw [eg]
      | _ => cases q3
end
section
variable {X : Cx} {W : WX} {Ls : List Str} {fc : List (Nat × Str)} {sts : List Stmt} {e : Expr} {es : List Expr} {pos pos' apos : Pos} {ca : Str → Option Addr}
theorem im_baseO {fa : List He.Fa} {fn : List He.DefD} {j k : Nat} {B : Str} {bp : Pos} {d : Addr → List D → Out Ac} {a : Rn → Out (List D)} {r : Addr → Ac → Rn → Out Ac} {pl : Sem Bool} (J : JX X W k) (L : LX X.prog X.w X.K X.mg X.base fa fn fc) (hm : X.mg B = some (.ref (He.ga X.K B)))
    (O : OkI ca X.prog X.w X.K X.mg X.base Ls B j d) (ha : EA ca X W (e :: es) a) (hr : IM ca X W Ls sts r) (hfc : fc.contains (0, B) = true := by decide +kernel) (hj : j ≤ k := by decide)
    (hs : swapsWith (.Call (.Attribute (.Name B bp) "__init__" apos) (e :: es) [] pos) none pos'.line X.env = pure false := by rfl) (hg : Gl X B := by rfl) (hdb : (B == ("__debug__" : Str)) = false := by decide)
    (hst : starEach (e :: es) X.env = (false, eval e X.env) :: starEach es X.env := by rfl) (hpl : (backTo pos (starEach es X.env)).any (·.1) = false := by rfl)
    (ht : eval (.Call (.Attribute (.Name B bp) "__init__" apos) (e :: es) [] pos) X.env = (do
      let ov ← eval (.Name B bp) X.env
      standAt apos.atName
      let (f, first) ← holding [ov] (getMethod ov "__init__" pl)
      callWith pos f first (backTo pos (starEach (e :: es) X.env)) (backToKw pos (keywordEach [] X.env))) := by rfl) :
    IM ca X W Ls (.Expr (.Call (.Attribute (.Name B bp) "__init__" apos) (e :: es) [] pos) pos' :: sts) (iBase d a r) := by
  obtain ⟨fd, ps, c1, c2, c3⟩ := O.ex
  exact im_base J hm (L.clsAt B hfc).1 (L.clsAt B hfc).2 c2 c3 c1 hj ha hr hs hg hdb hst hpl ht
end
/-! ### the head's hook, with what is asked of classes -/
def obC (n : Nat) (fa : List He.Fa) (fn : List He.DefD) (fc : List (Nat × Str)) (g : Addr → Option Obj) : He.AlD × Bool := (He.obsD fa fn (He.frG g (cStatics :: He.asD g n)), fc.all (facB (He.frG g (cStatics :: He.asD g n))))
def hookC (n : Nat) (fa : List He.Fa) (fn : List He.DefD) (fc : List (Nat × Str)) : PySem.W.Hook where
  α := He.AlD × Bool
  obs := fun s => obC n fa fn fc s.heap.get?
  val := fun _ => (He.valD fn, true)
  says := fun _ h => ∃ K : PySem.W.Frag, K.In h ∧ He.SaysD fa fn K ∧ fc.all (facB K) = true
  of := fun _ _ e => ⟨_, He.frG_in, congrArg Prod.fst e, congrArg Prod.snd e⟩
  keeps := fun _ _ _ ⟨K, hK, c⟩ k => ⟨K, hK.keeps k, c⟩
theorem obC_eq {n : Nat} {fa : List He.Fa} {fn : List He.DefD} {fc : List (Nat × Str)} {g : Addr → Option Obj} {s : Shared} (h : ∀ a, g a = s.heap.get? a) : obC n fa fn fc g = (hookC n fa fn fc).obs s := by
  rw [show g = s.heap.get? from funext h]
  rfl
end DA
set_option maxHeartbeats 4000000
/-! DAX: tuples joined and cut, reversed, tuples of ints compared, list(x), classes with no __init__ -/
namespace DA
open PySem PySem.Spec PyProof.Rows L2
section
variable {ca : Str → Option Addr} {X : Cx} {W : WX} {e a b c tg : Expr} {es : List Expr} {pos p p2 : Pos} {x m : Str}
/-! ### x + y -/
def dAdd (x y : D) : Out D := match x, y with
  | .int i, .int j => .ok (.int (i + j))
  | .tup xs, .tup ys => if xs.length + ys.length ≤ sizeLine then .ok (.tup (xs ++ ys)) else .stuck
  | _, _ => .stuck
theorem IsL.nil_iff {K : PySem.W.Frag} {H : Hp} {ds : List D} {vs : List V} (h : IsL ca K H ds vs) : vs = [] ↔ ds = [] := by
  have l := h.len
  constructor
  · intro e; subst e; exact List.length_eq_zero_iff.mp l
  · intro e; subst e; exact List.length_eq_zero_iff.mp l.symm
theorem upd_same_new {H : Hp} {q : Addr} {o : HO} (h : H q = none) : ∀ a u, H a = some u → (upd H q o) a = some u := fun a u z => by rw [upd_ne (ne_of_none z h)]; exact z
theorem new_is {K : PySem.W.Frag} {G : List Addr} {H : Hp} {q : Addr} {ds : List D} {vs : List V} (mu : ∀ a ∈ G, Mu (H a)) (h : H q = none) (i : IsL ca K (cut H G) ds vs) : Is ca K (cut (upd H q (.tup vs)) G) (.tup ds) (.ref q) := by
  have nq : q ∉ G := fun z => (mu q z).ne h
  have l : Le (cut H G) (cut (upd H q (.tup vs)) G) := (Le.new h).cut (fun _ n _ => n) fun a ha => by
    rw [upd_ne (fun e => nq (by rw [← e]; exact ha))]; exact (mu a ha).ne
  exact is_tup.mpr ⟨q, vs, rfl, (cut_out nq).trans upd_same, i.le l⟩
theorem opd_add {K : PySem.W.Frag} : OpD ca K (fun x y H Q => (rI0 (fun i j => .int (i + j))) x y H Q ∨ rCatA K x y H Q) dAdd := by
  intro G H d1 d2 v1 v2 Q mu i1 i2 o
  unfold dAdd at o
  split at o
  · rename_i i j
    rw [is_int.mp i1, is_int.mp i2]
    exact .inl ⟨i, j, rfl, rfl, o _ H (fun _ _ h => h) (is_int.mpr rfl)⟩
  · rename_i xs ys
    split at o
    · rename_i z
      obtain ⟨a, vs, rfl, ha, r1⟩ := is_tup.mp i1
      obtain ⟨b, ws, rfl, hb, r2⟩ := is_tup.mp i2
      refine .inr ⟨a, b, vs, ws, rfl, rfl, .inl (.inl (cut_some ha).2), .inl (.inl (cut_some hb).2), by rw [← r1.len, ← r2.len]; exact z, fun e => ?_, fun _ e => ?_, fun _ _ q hq => ?_⟩
      · have e1 := r1.nil_iff.mp e
        subst e1
        exact o _ H (fun _ _ h => h) i2
      · have e1 := r2.nil_iff.mp e
        subst e1
        rw [List.append_nil] at o
        exact o _ H (fun _ _ h => h) i1
      · exact o _ _ (upd_same_new hq) (new_is mu hq (r1.app r2))
    · exact o.elim
  · exact o.elim
theorem ed_add {f g : Rn → Out D} (ha : ED ca X W a f) (hb : ED ca X W b g) : ED ca X W (.BinOp a .Add b pos) (bin dAdd f g) := ed_op (op_add.or op_catA) opd_add ha hb
/-! ### x[lo:hi] -/
def cutL {α : Type} (xs : List α) (lo hi : Option Int) : List α := (xs.drop (HT.sIx xs.length 0 lo)).take (HT.sIx xs.length xs.length hi - HT.sIx xs.length 0 lo)
theorem IsL.cutL {K : PySem.W.Frag} {H : Hp} {ds : List D} {vs : List V} (h : IsL ca K H ds vs) (lo hi : Option Int) : IsL ca K H (DA.cutL ds lo hi) (cutV vs lo hi) := by
  unfold DA.cutL cutV
  rw [h.len]
  exact (h.drop).take
theorem cutL_all {α : Type} {xs : List α} {lo hi : Option Int} (h : HT.sIx xs.length 0 lo = 0 ∧ HT.sIx xs.length xs.length hi = xs.length) : cutL xs lo hi = xs := by
  unfold cutL
  rw [h.1, h.2, List.drop_zero, Nat.sub_zero, List.take_length]
def dSl (x : D) (lo hi : Option Int) : Out D := match x with
  | .tup xs => .ok (.tup (cutL xs lo hi))
  | .lst xs => .ok (.lst (cutL xs lo hi))
  | _ => .stuck
def PoM (ca : Str → Option Addr) (K : PySem.W.Frag) (W : WX) (t : TO) (f : Rn → Out (Option Int)) : Prop := ∀ (H0 : Hp) (Fa : List Addr) (ts : Rn) (us : L2.St) (ρ : Rn) (σ : L2.St) (H : Hp) (Q : Option Int → Hp → Prop), ts.length = us.length → Env ca K H0 Fa (ts ++ ρ) (us ++ σ) H →
  OutE (f ρ) (fun i => ∀ H2, Env ca K H0 Fa (ts ++ ρ) (us ++ σ) H2 → Q i H2) (fun n => ∀ a H2, ca n = some a → Env ca K H0 Fa (ts ++ ρ) (us ++ σ) H2 → W (.ref a) none σ H2) → t σ H Q
def EO (ca : Str → Option Addr) (X : Cx) (W : WX) (e : Option Expr) (f : Rn → Out (Option Int)) : Prop := ∃ t, PO X e t ∧ PoM ca X.K W t f
def oNone (_ : Rn) : Out (Option Int) := .ok none
def oSome (f : Rn → Out D) (ρ : Rn) : Out (Option Int) := (f ρ).bind fun d => match d with
  | .int i => .ok (some i)
  | _ => .stuck
theorem eo_none : EO ca X W none oNone := ⟨_, po_none, fun H0 Fa ts us ρ σ H Q hl E o => o H E⟩
theorem eo_some {f : Rn → Out D} (h : ED ca X W e f) : EO ca X W (some e) (oSome f) := by
  obtain ⟨te, pe, h⟩ := h
  refine ⟨_, po_some pe, fun H0 Fa ts us ρ σ H Q hl E o => h H0 Fa ts us ρ σ H _ hl E (OutE.bind o |>.imp (fun d o v H2 F E2 i => ?_) fun n q => q)⟩
  cases d with
  | int i2 => exact ⟨i2, is_int.mp i, o H2 ⟨F, E2⟩⟩
  | _ => exact o.elim
def slD (f : Rn → Out D) (l h : Rn → Out (Option Int)) (ρ : Rn) : Out D := (f ρ).bind fun d => (l ρ).bind fun lo => (h ρ).bind fun hi => (dSl d lo hi).nx
theorem ed_slice {lo hi : Option Expr} {f : Rn → Out D} {l h : Rn → Out (Option Int)} (hf : ED ca X W e f) (hlo : EO ca X W lo l) (hhi : EO ca X W hi h) : ED ca X W (.Subscript e (.Slice lo hi none p2) pos) (slD f l h) := by
  obtain ⟨te, pe, hf⟩ := hf
  obtain ⟨tl, pl, hlo⟩ := hlo
  obtain ⟨th, ph, hhi⟩ := hhi
  refine ⟨_, pe_slice (sl_tupA.or sl_list) pe pl ph, fun H0 Fa ts us ρ σ H Q hl E o => ?_⟩
  refine hf H0 Fa ts us ρ σ H _ hl E (OutE.bind o |>.imp (fun d o v H1 F1 E1 i1 => ?_) fun n q => q)
  refine hlo H0 Fa (some (.dat d) :: ts) (some v :: us) ρ σ H1 _ (by simp [hl]) ⟨F1, E1.top i1⟩ (OutE.bind o |>.imp (fun l0 o H2 E2 => ?_) fun n q a' H2 c E2 => q a' H2 c E2.pop)
  refine hhi H0 Fa (some (.dat d) :: ts) (some v :: us) ρ σ H2 _ (by simp [hl]) E2 (OutE.bind o |>.imp (fun h0 o H3 E3 => ?_) fun n q a' H3 c E3 => q a' H3 c E3.pop)
  obtain ⟨F, E3⟩ := E3
  obtain ⟨E4, i⟩ := E3.popD
  have o := o.nx (Y := fun _ => False)
  cases d with
  | tup xs =>
    obtain ⟨a, vs, rfl, ha, r⟩ := is_tup.mp i
    refine .inl ⟨a, vs, rfl, .inl (.inl (cut_some ha).2), fun hw => ?_, fun _ q hq => ?_⟩
    · have e : cutL xs l0 h0 = xs := cutL_all (by rw [r.len]; exact hw)
      have o : ∀ v H2 F, EnvF ca X.K H0 Fa (ts ++ ρ) (us ++ σ) H2 F → Is ca X.K (cut H2 (Fa ++ F)) (.tup (cutL xs l0 h0)) v → Q v H2 := o
      rw [e] at o
      exact o _ H3 F E4 i
    · exact o _ _ F (E4.same (upd_same_new hq)) (new_is E4.muG hq (r.cutL l0 h0))
  | lst xs =>
    obtain ⟨a, vs, rfl, ha, r⟩ := is_lst.mp i
    refine .inr ⟨a, vs, rfl, sq_whole ha, fun q hq => ?_⟩
    have nq : q ∉ Fa ++ F := fun z => (E4.muG q z).ne hq
    have l2 : Le (cut H3 (Fa ++ F)) (cut (upd H3 q (.lst (cutV vs l0 h0))) (Fa ++ F)) := (Le.new hq).cut (fun _ n _ => n) fun a ha => by
      rw [upd_ne (fun e => nq (by rw [← e]; exact ha))]; exact (E4.muG a ha).ne
    exact o _ _ F (E4.same (upd_same_new hq)) (is_lst.mpr ⟨q, _, rfl, .inl (.inl ((cut_out nq).trans upd_same)), (r.cutL l0 h0).le l2⟩)
  | _ => exact o.elim
/-! ### reversed(x) -/
def itRev (f : Rn → Out D) (ρ : Rn) : Out (List D) := (f ρ).bind fun d => (seqOf d).map List.reverse
theorem rev_get {α : Type} {xs : List α} {i : Nat} {d : α} (h : xs.reverse[i]? = some d) : i < xs.length ∧ xs[xs.length - 1 - i]? = some d := by
  have l : i < xs.reverse.length := by
    rcases Nat.lt_or_ge i xs.reverse.length with z | z
    · exact z
    · rw [List.getElem?_eq_none z] at h; cases h
  rw [List.length_reverse] at l
  rw [List.getElem?_reverse l] at h
  exact ⟨l, h⟩
theorem itOk_revL {K : PySem.W.Frag} {a : Addr} {n : Nat} {ds : List D} (hn : n = ds.length) : ItOk ca K (Itv K a n) ds.reverse [some (.dat (.lst ds))] [some (.ref a)] := by
  intro H0 Fa pre pus ρ σ H F i hp E
  have i1 := EnvF.at0 E hp
  obtain ⟨a', vs, ea, hq, r⟩ := is_lst.mp i1
  cases ea
  have q := sq_whole hq
  subst hn
  refine ⟨fun d hd => ?_, fun h => by rw [List.length_reverse] at h; exact h⟩
  obtain ⟨l, hd⟩ := rev_get hd
  obtain ⟨x, hx, ix⟩ := r.get hd
  refine ⟨⟨l, vs, x, q, hx⟩, fun y H' ⟨eH, hy⟩ => ?_⟩
  subst eH
  have e := hy vs q
  rw [hx] at e
  cases e
  exact ⟨E, ix⟩
theorem itOk_revT {K : PySem.W.Frag} {a : Addr} {n : Nat} {ds : List D} (hn : n = ds.length) : ItOk ca K (RT.ItvT K a n) ds.reverse [some (.dat (.tup ds))] [some (.ref a)] := by
  intro H0 Fa pre pus ρ σ H F i hp E
  have i1 := EnvF.at0 E hp
  obtain ⟨a', vs, ea, hq, r⟩ := is_tup.mp i1
  cases ea
  have q : SqT K H a vs := .inl (.inl (cut_some hq).2)
  subst hn
  refine ⟨fun d hd => ?_, fun h => by rw [List.length_reverse] at h; exact h⟩
  obtain ⟨l, hd⟩ := rev_get hd
  obtain ⟨x, hx, ix⟩ := r.get hd
  refine ⟨⟨l, vs, x, q, hx⟩, fun y H' ⟨eH, hy⟩ => ?_⟩
  subst eH
  have e := hy vs q
  rw [hx] at e
  cases e
  exact ⟨E, ix⟩
theorem ei_rev {f : Rn → Out D} (hm : X.mg "reversed" = none) (h : ED ca X W e f) (hg : Gl X "reversed" := by rfl) (hs : starEach [e] X.env = (false, eval e X.env) :: starEach [] X.env := by rfl) : EI ca X W tg (.Call (.Name "reversed" p) [e] [] pos) (itRev f) := by
  obtain ⟨te, pe, h⟩ := h
  refine ⟨_, RT.pi_revA hg hm pe hs, fun H0 Fa ts us ρ σ H R hl E o => h H0 Fa ts us ρ σ H _ hl E (OutE.bind o |>.imp (fun d o v H2 F E2 i => ?_) fun n q => q)⟩
  cases d with
  | lst ds =>
    obtain ⟨a, vs, rfl, hq, r⟩ := is_lst.mp i
    exact ⟨a, vs, rfl, .inl ⟨sq_whole hq, o (Itv X.K a vs.length) H2 [some (.dat (.lst ds))] [some (.ref a)] rfl ⟨F, E2.top i⟩ (itOk_revL r.len.symm)⟩⟩
  | tup ds =>
    obtain ⟨a, vs, rfl, hq, r⟩ := is_tup.mp i
    exact ⟨a, vs, rfl, .inr ⟨.inl (.inl (cut_some hq).2), o (RT.ItvT X.K a vs.length) H2 [some (.dat (.tup ds))] [some (.ref a)] rfl ⟨F, E2.top i⟩ (itOk_revT r.len.symm)⟩⟩
  | _ => exact o.elim
/-! ### tuples of ints compared -/
theorem lexAt_lt (ns ms : List Int) : ∀ (k i : Nat), i ≤ ns.length → i ≤ ms.length → k = min ns.length ms.length - i →
    Ob.lexAt (fun j => decide (ns.getD j 0 = ms.getD j 0)) (fun j => decide (ms.getD j 0 < ns.getD j 0)) (decide (ns.length > ms.length)) i k = HT.lexLt (ms.drop i) (ns.drop i)
  | 0, i, h1, h2, e => by
    rw [Ob.lexAt_zero]
    by_cases z : i = ns.length
    · rw [List.drop_of_length_le (l := ns) (by omega)]
      rw [decide_eq_false (by omega)]
      cases ms.drop i <;> rfl
    · have e2 : i = ms.length := by omega
      rw [List.drop_of_length_le (l := ms) (by omega), decide_eq_true (by omega), List.drop_eq_getElem_cons (l := ns) (by omega)]
      rfl
  | k + 1, i, h1, h2, e => by
    have l1 : i < ns.length := by omega
    have l2 : i < ms.length := by omega
    rw [Ob.lexAt_succ, List.drop_eq_getElem_cons l1, List.drop_eq_getElem_cons l2, HT.lexLt_cons]
    have g1 : ns.getD i 0 = ns[i] := by rw [List.getD_eq_getElem?_getD, List.getElem?_eq_getElem l1]; rfl
    have g2 : ms.getD i 0 = ms[i] := by rw [List.getD_eq_getElem?_getD, List.getElem?_eq_getElem l2]; rfl
    rw [g1, g2]
    by_cases z : ns[i] = ms[i]
    · rw [if_pos (by simpa using z), if_pos z.symm]
      exact lexAt_lt ns ms k (i + 1) (by omega) (by omega) (by omega)
    · rw [if_neg (by simpa using z), if_neg (fun e => z e.symm)]
def rGtT (K : PySem.W.Frag) : R2 := fun x y H Q => ∃ a b ns ms, x = .ref a ∧ y = .ref b ∧ SqT K H a (ns.map V.int) ∧ SqT K H b (ms.map V.int) ∧ Q (.bl (HT.lexLt ms ns)) H
theorem op_gtT (hu : X.A.units < cLine) : OpR X (compareOp .Gt) (rGtT X.K) := by
  intro pins s σ H x y v u Q I rx ry h
  obtain ⟨a, b, ns, ms, rfl, rfl, ha, hb, q⟩ := h
  cases rx
  cases ry
  obtain ⟨its, r1, p1, _⟩ := I.tuple ha
  obtain ⟨its2, r2, p2, _⟩ := I.tuple hb
  have i1 : IntsAre its ns := Vals.ints r1
  have i2 : IntsAre its2 ms := Vals.ints r2
  have e1 : its.toArray.size = ns.length := by rw [List.size_toArray]; exact i1.length
  have e2 : its2.toArray.size = ms.length := by rw [List.size_toArray]; exact i2.length
  have a1 : ∀ j (h1 : j < its.toArray.size), ∃ t, its.toArray[j] = .int (ns.getD j 0) t := fun j h1 => PyProof.Rows.IntsAre.int_at i1 _ _ (by simp at h1; simp [h1])
  have a2 : ∀ j (h1 : j < its2.toArray.size), ∃ t, its2.toArray[j] = .int (ms.getD j 0) t := fun j h1 => PyProof.Rows.IntsAre.int_at i2 _ _ (by simp at h1; simp [h1])
  have R := Ob.RcOp.tuples_gt (A := X.A) (s := s) (e := fun j => decide (ns.getD j 0 = ms.getD j 0)) (r := fun j => decide (ms.getD j 0 < ns.getD j 0)) p1 p2 hu (fun j h1 h2 => by
    obtain ⟨t, et⟩ := a1 j h1
    obtain ⟨t', et'⟩ := a2 j h2
    rw [et, et', show decide (ns.getD j 0 = ms.getD j 0) = (ns.getD j 0 == ms.getD j 0) from by rw [Bool.eq_iff_iff]; simp]
    exact SeqAt.EqAt.int_int _ _ _ _) (fun j h1 h2 _ => by
    obtain ⟨t, et⟩ := a1 j h1
    obtain ⟨t', et'⟩ := a2 j h2
    rw [et, et']
    exact Ob.RcOp.gt_int _ _ _ _)
  rw [e1, e2, lexAt_lt ns ms _ 0 (Nat.zero_le _) (Nat.zero_le _) (by omega), List.drop_zero, List.drop_zero] at R
  have z : wpAny (model X.prog X.w) X.A (compareOp .Gt (.ref a) (.ref b)) (EP X pins σ Q) X.xe s := R X.prog X.w X.xe (EP X pins σ Q) ⟨.bl _, H, I, rfl, q⟩
  exact z
theorem ints_of_is {K : PySem.W.Frag} {H : Hp} : ∀ {ds : List D} {ns : List Int} {vs : List V}, intsOf ds = some ns → IsL ca K H ds vs → vs = ns.map V.int
  | [], ns, vs, h, i => by
    have : ns = [] := by unfold intsOf at h; cases h; rfl
    subst this
    exact isL_nil.mp i
  | .int n :: ds, ns, vs, h, i => by
    obtain ⟨v, vs', rfl, i1, r⟩ := isL_cons.mp i
    unfold intsOf at h
    cases e : intsOf ds with
    | none => rw [e] at h; cases h
    | some ms =>
      rw [e] at h
      cases h
      rw [is_int.mp i1, ints_of_is e r]
      rfl
  | .non :: _, _, _, h, _ => by unfold intsOf at h; cases h
  | .bl _ :: _, _, _, h, _ => by unfold intsOf at h; cases h
  | .str _ :: _, _, _, h, _ => by unfold intsOf at h; cases h
  | .tup _ :: _, _, _, h, _ => by unfold intsOf at h; cases h
  | .lst _ :: _, _, _, h, _ => by unfold intsOf at h; cases h
  | .dic _ _ :: _, _, _, h, _ => by unfold intsOf at h; cases h
  | .dik _ _ :: _, _, _, h, _ => by unfold intsOf at h; cases h
  | .obj _ _ _ :: _, _, _, h, _ => by unfold intsOf at h; cases h
  | .loc _ :: _, _, _, h, _ => by unfold intsOf at h; cases h
/-- x > y: ints, or tuples of ints -/
def dGtA (x y : D) : Out D := match x, y with
  | .int i, .int j => .ok (.bl (decide (j < i)))
  | .tup xs, .tup ys => match intsOf xs, intsOf ys with
    | some ns, some ms => .ok (.bl (HT.lexLt ms ns))
    | _, _ => .stuck
  | _, _ => .stuck
theorem opd_gtA {K : PySem.W.Frag} : OpD ca K (fun x y H Q => (rI0 (fun i j => .bl (decide (j < i)))) x y H Q ∨ rGtT K x y H Q) dGtA := by
  intro G H d1 d2 v1 v2 Q mu i1 i2 o
  unfold dGtA at o
  split at o
  · rename_i i j
    rw [is_int.mp i1, is_int.mp i2]
    exact .inl ⟨i, j, rfl, rfl, o _ H (fun _ _ h => h) (is_bl.mpr rfl)⟩
  · rename_i xs ys
    obtain ⟨a, vs, rfl, ha, r1⟩ := is_tup.mp i1
    obtain ⟨b, ws, rfl, hb, r2⟩ := is_tup.mp i2
    split at o
    · rename_i ns ms h1 h2
      have e1 := ints_of_is h1 r1
      have e2 := ints_of_is h2 r2
      subst e1 e2
      exact .inr ⟨a, b, ns, ms, rfl, rfl, .inl (.inl (cut_some ha).2), .inl (.inl (cut_some hb).2), o _ H (fun _ _ h => h) (is_bl.mpr rfl)⟩
    · exact o.elim
  · exact o.elim
theorem ed_gtA {k : Nat} (J : JX X W k) {f g : Rn → Out D} (ha : ED ca X W a f) (hb : ED ca X W b g) : ED ca X W (.Compare a [.Gt] [b] pos) (bin dGtA f g) := ed_cmp (op_gt.or (op_gtT (by have := J.room.units; omega))) opd_gtA ha hb
theorem eb_gtA {k : Nat} (J : JX X W k) {f g : Rn → Out D} (ha : ED ca X W a f) (hb : ED ca X W b g) : EB ca X W (.Compare a [.Gt] [b] pos) (tst dGtA f g) := eb_cmp (op_gt.or (op_gtT (by have := J.room.units; omega))) opd_gtA ha hb
/-! ### list(x) -/
def dListOf : List D → Out D
  | [.lst ds] => .ok (.lst ds)
  | [.tup ds] => .ok (.lst ds)
  | _ => .stuck
theorem new_lst {K : PySem.W.Frag} {G : List Addr} {H : Hp} {q : Addr} {ds : List D} {vs : List V} (mu : ∀ a ∈ G, Mu (H a)) (h : H q = none) (i : IsL ca K (cut H G) ds vs) : Is ca K (cut (upd H q (.lst vs)) G) (.lst ds) (.ref q) := by
  have nq : q ∉ G := fun z => (mu q z).ne h
  have l : Le (cut H G) (cut (upd H q (.lst vs)) G) := (Le.new h).cut (fun _ n _ => n) fun a ha => by
    rw [upd_ne (fun e => nq (by rw [← e]; exact ha))]; exact (mu a ha).ne
  exact is_lst.mpr ⟨q, vs, rfl, .inl (.inl ((cut_out nq).trans upd_same)), i.le l⟩
theorem ed_list {f : Rn → Out (List D)} (hm : X.mg "list" = none) (ha : EA ca X W [e] f) (hg : Gl X "list" := by rfl) (he : starEach [e] X.env = (false, eval e X.env) :: starEach [] X.env := by rfl) (hpl : (backTo pos (starEach [] X.env)).any (·.1) = false := by rfl) : ED ca X W (.Call (.Name "list" p) [e] [] pos) (calD dListOf f) :=
  ed_callTy call_list_of (fun G H ds vs Q mu i o => by
    unfold dListOf at o
    split at o
    · obtain ⟨v, rfl, i1⟩ := isL_1 i
      obtain ⟨a, ws, rfl, hq, r⟩ := is_lst.mp i1
      exact ⟨a, ws, rfl, .inl (sq_whole hq), fun l hl => o _ _ (upd_same_new hl) (new_lst mu hl r)⟩
    · obtain ⟨v, rfl, i1⟩ := isL_1 i
      obtain ⟨a, ws, rfl, hq, r⟩ := is_tup.mp i1
      exact ⟨a, ws, rfl, .inr (.inl (.inl (cut_some hq).2)), fun l hl => o _ _ (upd_same_new hl) (new_lst mu hl r)⟩
    · exact o.elim) hm (by decide +kernel) ha hg (by decide) (by decide) he hpl
/-! ### max(x, default=d) -/
def rMaxD (K : PySem.W.Frag) : List V → List V → Hp → VK → Prop := fun xs zs H Q => ∃ (a : Addr) (ns : List Int) (d : V), xs = [.ref a] ∧ zs = [d] ∧ (SqL K H a (ns.map V.int) ∨ SqT K H a (ns.map V.int)) ∧ (ns = [] → Q d H) ∧ ∀ n ms, ns = n :: ms → Q (.int (ms.foldl max n)) H
theorem alike_ints (ns : List Int) : PySem.W.AlikeAll (ns.map PyData.int) := by
  refine ⟨fun x hx y hy => ?_, fun x hx => ?_⟩
  · obtain ⟨i, _, rfl⟩ := List.mem_map.mp hx
    obtain ⟨j, _, rfl⟩ := List.mem_map.mp hy
    rfl
  · obtain ⟨i, _, rfl⟩ := List.mem_map.mp hx
    intro e; cases e
theorem call_maxD (hc : X.calm = true) (hu : X.A.units + 1 < cLine) : CallRK X (.builtin "max") ["default"] (rMaxD X.K) := by
  intro pins s σ H xs zs us ws Q I r1 r2 h
  obtain ⟨a, ns, d, rfl, rfl, hq, q0, q1⟩ := h
  have e1 := Vals.ref1 r1
  subst e1
  obtain ⟨u, rfl, ru⟩ := Vals.one r2
  have fin : ∀ (its : List Value), IntsAre its ns → ∀ (y : PyData) (ys : List PyData) (i : Nat) v h' tk bs, ns.map PyData.int = y :: ys → its.toArray[i]? = some v → Reads h' v (PySem.W.maxD y ys) bs → (∀ b o, s.heap.get? b = some o → h'.get? b = some o) → EP X pins σ Q v { s with heap := h', toks := tk } := by
    intro its _ y ys i v h' tk bs e _ rd hk
    cases ns with
    | nil => cases e
    | cons n ms =>
      rw [List.map_cons] at e
      injection e with e1 e2
      subst e1 e2
      rw [PySem.W.maxD_ints] at rd
      cases rd with
      | int t => exact ⟨.int (ms.foldl max n), H, I.kept (t' := tk) hk, ⟨_, rfl⟩, q1 n ms rfl⟩
  have zero : ns.map PyData.int = [] → ∀ h' tk, (∀ b o, s.heap.get? b = some o → h'.get? b = some o) → EP X pins σ Q u { s with heap := h', toks := tk } := fun e h' tk hk => ⟨d, H, I.kept (t' := tk) hk, ru, q0 (List.map_eq_nil_iff.mp e)⟩
  have dz : X.A.units + 1 + PyData.depthAll (ns.map PyData.int) < cLine := by rw [PyProof.Rows.depthAll_ints]; exact hu
  show wpAny (model X.prog X.w) X.A (call (.builtin "max") [.ref a] [(Str.ofString "default", u)]) _ _ s
  rcases hq with hq | hq
  · obtain ⟨its, rv, p, _⟩ := I.list hq
    have ii := Vals.ints rv
    exact PySem.W.max_list_default (I.ok.hd hc) p.isList (ii.reads s.heap) (alike_ints ns) dz zero (fin its ii)
  · obtain ⟨its, rv, p, _⟩ := I.tuple hq
    have ii := Vals.ints rv
    exact PySem.W.max_tuple_default (I.ok.hd hc) p (ii.reads s.heap) (alike_ints ns) dz zero (fin its ii)
def dMaxD (x d : D) : Out D := match seqOf x with
  | .ok ds => match intsOf ds with
    | some [] => .ok d
    | some (n :: ms) => .ok (.int (ms.foldl max n))
    | none => .stuck
  | _ => .stuck
def maxDf (f g : Rn → Out D) (ρ : Rn) : Out D := (f ρ).bind fun x => (g ρ).bind fun d => (dMaxD x d).nx
theorem ed_maxD {k : Nat} {d : Expr} {kp : Pos} {f g : Rn → Out D} (J : JX X W k) (hm : X.mg "max" = none) (hf : ED ca X W e f) (hd : ED ca X W d g) (hg : Gl X "max" := by rfl) (hs1 : starEach [e] X.env = (false, eval e X.env) :: starEach [] X.env := by rfl)
    (he : backTo pos (starEach [e] X.env) = (false, eval e X.env) :: backTo pos (starEach [] X.env) := by rfl) (hpl : (backTo pos (starEach [e] X.env)).any (·.1) = false := by rfl)
    (hall : (backToKw pos (keywordEach [⟨some "default", d, kp⟩] X.env)).all (·.1.isSome) = true := by rfl) (hnone : (backToKw pos (keywordEach [⟨some "default", d, kp⟩] X.env)).any (·.1.isNone) = false := by rfl) (hks : (backToKw pos (keywordEach [⟨some "default", d, kp⟩] X.env)).filterMap (·.1) = [("default" : Str)] := by rfl) :
    ED ca X W (.Call (.Name "max" p) [e] [⟨some "default", d, kp⟩] pos) (maxDf f g) := by
  obtain ⟨te, pe, hf⟩ := hf
  obtain ⟨td, pd, hd⟩ := hd
  refine ⟨_, pe_callBK (call_maxD J.calm (by have := J.room.units; omega)) hg hm (by decide +kernel) (pa_cons pe pa_nil hs1) (pk_cons pd pk_nil) (by decide) (by decide) he hpl hall hnone hks, fun H0 Fa ts us ρ σ H Q hl E o => ?_⟩
  refine hf H0 Fa ts us ρ σ H _ hl E (OutE.bind o |>.imp (fun x o v H1 F1 E1 i1 => ?_) fun n q => q)
  refine hd H0 Fa (some (.dat x) :: ts) (some v :: us) ρ σ H1 _ (by simp [hl]) ⟨F1, E1.top i1⟩ (OutE.bind o |>.imp (fun y o w H2 F2 E2 i2 => ?_) fun n q a' H2 c E2 => q a' H2 c E2.pop)
  obtain ⟨E4, i⟩ := E2.popD
  have o := o.nx (Y := fun _ => False)
  unfold dMaxD at o
  cases es : seqOf x with
  | stuck => rw [es] at o; exact o.elim
  | exc z => rw [es] at o; exact o.elim
  | ok ds =>
    rw [es] at o
    have hq : ∃ a vs, v = .ref a ∧ (SqL X.K H2 a vs ∨ SqT X.K H2 a vs) ∧ IsL ca X.K (cut H2 (Fa ++ F2)) ds vs := by
      cases x with
      | lst xs =>
        cases es
        obtain ⟨a, vs, e, hq, r⟩ := is_lst.mp i
        exact ⟨a, vs, e, .inl (sq_whole hq), r⟩
      | tup xs =>
        cases es
        obtain ⟨a, vs, e, hq, r⟩ := is_tup.mp i
        exact ⟨a, vs, e, .inr (.inl (.inl (cut_some hq).2)), r⟩
      | _ => cases es
    obtain ⟨a, vs, rfl, hq, r⟩ := hq
    cases ei : intsOf ds with
    | none => simp only [ei] at o; exact o.elim
    | some ns =>
      have ev := ints_of_is ei r
      subst ev
      refine ⟨a, ns, w, rfl, rfl, hq, fun e => ?_, fun n ms e => ?_⟩
      · subst e
        simp only [ei] at o
        exact o w H2 F2 E4 i2
      · subst e
        simp only [ei] at o
        exact o _ H2 F2 E4 (is_int.mpr rfl)
end
/-! ### a class that has no __init__ -/
section
variable {X : Cx} {W : WX} {pos p : Pos} {k : Nat}
theorem run_mk0 {C : Addr} {pins : List (Addr × Obj)} {σ : L2.St} {H : Hp} {s : Shared} {Q : VK} (hm : PySem.W.makesIn X.K C = true) (hi : PySem.W.findIn X.K (.ref C) "__init__" = some (some (.builtin "object.__init__"))) (top : PySem.W.mroIn X.K C (.type "object") = some true) (I : Inv X pins σ H s)
    (h : ∀ x dx, H x = none → H dx = none → dx ≠ x → Q (.ref x) (upd (upd H dx (.own x)) x (.ins C dx []))) : wpAny (model X.prog X.w) X.A (call (.ref C) []) (EP X pins σ Q) X.xe s := by
  have q := h (s.heap.objs.size + 1) s.heap.objs.size (I.hok.fresh (Nat.le_succ _)) (I.hok.fresh (Nat.le_refl _)) (Nat.ne_of_lt (Nat.lt_succ_self _))
  have J := Inv.made (C := C) I
  have ho : ((s.heap.push PySem.W.emptyDict).push (PySem.W.instObj C s.heap.objs.size)).get? (s.heap.objs.size + 1) = some (PySem.W.instObj C s.heap.objs.size) := by
    have := Heap.get?_push_size (s.heap.push PySem.W.emptyDict) (o := PySem.W.instObj C s.heap.objs.size) rfl
    rwa [Heap.size_push] at this
  refine wpAny_call (make_map0 I.kIn hm hi (fun self => PySem.W.Looks.of_pure (PySem.W.oi_bind _)) ?_)
  have t2 : PySem.W.Looks (model X.prog X.w) ((s.heap.push PySem.W.emptyDict).push (PySem.W.instObj C s.heap.objs.size)) (isInstance (.ref (s.heap.objs.size + 1)) (.type "object")) true := (NwA.type_at ho rfl).andThen (PySem.W.looks_mroIn J.kIn top)
  refine PySem.codeAny_call_builtin PySem.W.oi_plain PySem.W.entry_oi (@PySem.W.check_slot (model X.prog X.w) _ _ _ "object.__init__" "object" "__init__" (.ref (s.heap.objs.size + 1)) [] [] _ PySem.W.oi_kind PySem.W.oi_split t2 (NwA.oi_args_any _ [] []) ?_)
  rw [PySem.W.oi_run]
  exact wpAny_pure ⟨rfl, V.ref (s.heap.objs.size + 1), _, J, rfl, q⟩
theorem ed_newO {cs : List Str} {Cn : Str} {fa : List He.Fa} {fn : List He.DefD} {fc : List (Nat × Str)} (L : LX X.prog X.w X.K X.mg X.base fa fn fc) (gm : X.mg Cn = some (.ref (He.ga X.K Cn))) (hfc : fc.contains (1, Cn) = true := by decide +kernel) (hcs : cs.contains Cn = true := by decide +kernel)
    (hg : Gl X Cn := by rfl) (hdb : (Cn == ("__debug__" : Str)) = false := by decide) : ED (caK cs X.K) X W (.Call (.Name Cn p) [] [] pos) (cst (.obj Cn [] [])) := by
  have q : mk0B X.K Cn = true := List.all_eq_true.mp L.cls (1, Cn) (List.contains_iff_mem.mp hfc)
  unfold mk0B at q
  obtain ⟨q1, q⟩ := Bool.and_eq_true_iff.mp q
  obtain ⟨q2, q⟩ := Bool.and_eq_true_iff.mp q
  obtain ⟨q3, q4⟩ := Bool.and_eq_true_iff.mp q
  have hC : caK cs X.K Cn = some (He.ga X.K Cn) := by unfold caK; rw [if_pos hcs]
  refine ⟨fun σ H Q => ∀ x dx, H x = none → H dx = none → dx ≠ x → Q (.ref x) (upd (upd H dx (.own x)) x (.ins (He.ga X.K Cn) dx [])), ⟨fun pins s σ H Q I h => wpAny_Call_Name_kw (ld_glob I hg gm ?_ hdb)⟩, fun H0 Fa ts us ρ σ H Q hl ⟨F, E⟩ o x dx hx hdx ne => ?_⟩
  · exact PySem.W.callWith_K0 I.kIn q4 (run_mk0 q1 (He.eqO_ok q2) (of_decide_eq_true q3) I h)
  · have h1 : ∀ a u, H a = some u → (upd (upd H dx (.own x)) x (.ins (He.ga X.K Cn) dx [])) a = some u := fun a u q => by
      rw [upd_ne (ne_of_none q hx), upd_ne (ne_of_none q hdx)]; exact q
    have nx : x ∉ Fa ++ F := fun z => (E.muG x z).ne hx
    exact o (.ref x) _ F (E.same h1) (is_obj.mpr ⟨x, _, dx, [], rfl, hC, (cut_out nx).trans upd_same, rfl, IsL.nil⟩)
end
end DA
set_option maxHeartbeats 4000000
/-! DM: the worth of the common parts, for the plain law -/
namespace DA
open PySem PySem.Spec PyProof.Rows L2
theorem ob_ok {α β : Type} (a : α) (f : α → Out β) : (Out.ok a).bind f = f a := rfl
theorem ob_st {α β : Type} (f : α → Out β) : (Out.stuck : Out α).bind f = .stuck := rfl
theorem ob_ex {α β : Type} (n : Str) (f : α → Out β) : (Out.exc n : Out α).bind f = .exc n := rfl
theorem om_ok {α β : Type} (a : α) (f : α → β) : (Out.ok a).map f = .ok (f a) := rfl
theorem om_ex {α β : Type} (n : Str) (f : α → β) : (Out.exc n : Out α).map f = .exc n := rfl
theorem on_ok {α : Type} (a : α) : (Out.ok a).nx = .ok a := rfl
theorem add_ii (i j : Int) : dAddI (.int i) (.int j) = .ok (.int (i + j)) := rfl
theorem sub_ii (i j : Int) : dSub (.int i) (.int j) = .ok (.int (i - j)) := rfl
theorem neg_i (i : Int) : dNeg (.int i) = .ok (.int (-i)) := rfl
theorem lt_ii (i j : Int) : dLt (.int i) (.int j) = .ok (.bl (decide (i < j))) := rfl
theorem le_ii (i j : Int) : dLe (.int i) (.int j) = .ok (.bl (decide (i ≤ j))) := rfl
theorem gt_ii (i j : Int) : dGt (.int i) (.int j) = .ok (.bl (decide (j < i))) := rfl
theorem ge_ii (i j : Int) : dGe (.int i) (.int j) = .ok (.bl (decide (j ≤ i))) := rfl
theorem asB_bl (b : Bool) : asB (.bl b) = .ok b := rfl
theorem er_dat (d : D) : M.er (.dat d) = d := rfl
theorem isn_non : dIsN .non .non = .ok (.bl true) := rfl
theorem isn_tup (ds : List D) : dIsN (.tup ds) .non = .ok (.bl false) := rfl
theorem isn_int (i : Int) : dIsN (.int i) .non = .ok (.bl false) := rfl
theorem nn_non : dNotN .non .non = .ok (.bl false) := rfl
theorem nn_tup (ds : List D) : dNotN (.tup ds) .non = .ok (.bl true) := rfl
theorem nn_int (i : Int) : dNotN (.int i) .non = .ok (.bl true) := rfl
theorem len_lst (ds : List D) : dLen [.lst ds] = .ok (.int ds.length) := rfl
theorem len_tup (ds : List D) : dLen [.tup ds] = .ok (.int ds.length) := rfl
theorem tuple_lst (ds : List D) : dTuple [.lst ds] = .ok (.tup ds) := rfl
theorem tuple_tup (ds : List D) : dTuple [.tup ds] = .ok (.tup ds) := rfl
theorem max_ii (i j : Int) : dMax2 [.int i, .int j] = .ok (.int (if j > i then j else i)) := rfl
theorem min_ii (i j : Int) : dMin2 [.int i, .int j] = .ok (.int (if j < i then j else i)) := rfl
theorem abs_i (i : Int) : dAbs [.int i] = .ok (.int (if i < 0 then -i else i)) := rfl
theorem seq_lst (ds : List D) : seqOf (.lst ds) = .ok ds := rfl
theorem seq_tup (ds : List D) : seqOf (.tup ds) = .ok ds := rfl
theorem zip_tt (ds es : List D) : zip2 [.tup ds, .tup es] = .ok (zipL ds es) := rfl
theorem zip_tl (ds es : List D) : zip2 [.tup ds, .lst es] = .ok (zipL ds es) := rfl
theorem zip_lt (ds es : List D) : zip2 [.lst ds, .tup es] = .ok (zipL ds es) := rfl
theorem zip_ll (ds es : List D) : zip2 [.lst ds, .lst es] = .ok (zipL ds es) := rfl
theorem rng1 {j : Int} (h : fits62 j) : range1 [.int j] = .ok (rangeL 0 j) := if_pos h
theorem rng2 {i j : Int} (h : fits62 i ∧ fits62 j) : range2 [.int i, .int j] = .ok (rangeL i j) := if_pos h
theorem fin_rt (m : M) (ρ : Rn) : finD (.ok (.rt m, ρ)) = .ok m := rfl
theorem fin_nx (ρ : Rn) : finD (.ok (.nx, ρ)) = .ok (.dat .non) := rfl
theorem fin_ex (n : Str) : finD (.exc n) = .exc n := rfl
theorem eqP_int (i j : Int) : eqP (.int i) (.int j) = some (i == j) := by
  simp [eqP, toP, SeqAt.shaped, PyData.canLay0, PyData.depth, PyData.eqv]
theorem eqP_bl (i j : Bool) : eqP (.bl i) (.bl j) = some (i == j) := by
  simp [eqP, toP, SeqAt.shaped, PyData.canLay0, PyData.depth, PyData.eqv]
theorem dEq_int (i j : Int) : dEq (.int i) (.int j) = .ok (.bl (i == j)) := by simp only [dEq, eqP_int]
theorem dNe_int (i j : Int) : dNe (.int i) (.int j) = .ok (.bl (!(i == j))) := by simp only [dNe, eqP_int]
theorem dEq_bl (i j : Bool) : dEq (.bl i) (.bl j) = .ok (.bl (i == j)) := by simp only [dEq, eqP_bl]
theorem isi_int_int (i : Int) : isiT "int" (.int i) = .ok (.bl true) := rfl
theorem isi_bool_int (i : Int) : isiT "bool" (.int i) = .ok (.bl false) := rfl
theorem isi_bool_bl (i : Bool) : isiT "bool" (.bl i) = .ok (.bl true) := rfl
theorem isi_int_bl (i : Bool) : isiT "int" (.bl i) = .ok (.bl true) := rfl
theorem isi_tuple_tup (ds : List D) : isiT "tuple" (.tup ds) = .ok (.bl true) := rfl
theorem isi_list_lst (ds : List D) : isiT "list" (.lst ds) = .ok (.bl true) := rfl
theorem er_dats (ds : List D) : M.ers (ds.map M.dat) = ds := by
  rw [ers_map, List.map_map]
  exact (List.map_congr_left (g := id) fun _ _ => rfl).trans (List.map_id _)
theorem er_lst (ds : List D) : M.er (.lst (ds.map M.dat)) = .lst ds := by
  show D.lst (M.ers _) = _
  rw [er_dats]
/-- a comprehension whose turns all pass or all are told -/
theorem compD_ok {α : Type} {g : D → Rn → Out Rn} {t : Rn → Out Bool} {f : Rn → Out D} {ρ : Rn} (e h : α → D) (q : α → Bool) : ∀ (ps : List α), (∀ p ∈ ps, ∃ ρ1, g (e p) ρ = .ok ρ1 ∧ t ρ1 = .ok (q p) ∧ (q p = true → f ρ1 = .ok (h p))) →
    compD g t f ρ (ps.map e) = .ok ((ps.filter q).map h)
  | [], _ => rfl
  | p :: ps, H => by
    obtain ⟨ρ1, h1, h2, h3⟩ := H p (by simp)
    have ih := compD_ok e h q ps fun r hr => H r (by simp [hr])
    rw [List.map_cons, compD, h1]
    simp only [Out.nx, Out.bind, h2]
    cases hq : q p with
    | true => simp only [if_true, h3 hq, Out.nx, Out.bind, ih, Out.map, List.filter_cons, hq, List.map_cons]
    | false => simp only [Bool.false_eq_true, if_false, ih, List.filter_cons, hq]
theorem lcD_ok {α : Type} {fi : Rn → Out (List D)} {vs : List Nat} {g : D → Rn → Out Rn} {t : Rn → Out Bool} {f : Rn → Out D} {ρ : Rn} (e h : α → D) (q : α → Bool) (ps : List α) (hi : fi ρ = .ok (ps.map e)) (hl : ps.length ≤ sizeLine)
    (H : ∀ p ∈ ps, ∃ ρ1, g (e p) (wipeR vs ρ) = .ok ρ1 ∧ t ρ1 = .ok (q p) ∧ (q p = true → f ρ1 = .ok (h p))) : lcD fi vs g t f ρ = .ok (.lst (((ps.filter q).map h).map .dat)) := by
  unfold lcD
  rw [hi]
  simp only [Out.bind, compD_ok e h q ps H, Out.nx]
  rw [if_pos]
  rw [List.length_map]
  exact Nat.le_trans (List.length_filter_le _ _) hl
/-- without a test -/
theorem lcD_map {α : Type} {fi : Rn → Out (List D)} {vs : List Nat} {g : D → Rn → Out Rn} {f : Rn → Out D} {ρ : Rn} (e h : α → D) (ps : List α) (hi : fi ρ = .ok (ps.map e)) (hl : ps.length ≤ sizeLine)
    (H : ∀ p ∈ ps, ∃ ρ1, g (e p) (wipeR vs ρ) = .ok ρ1 ∧ f ρ1 = .ok (h p)) : lcD fi vs g tYesB f ρ = .ok (.lst ((ps.map h).map .dat)) := by
  have := lcD_ok (vs := vs) (t := tYesB) e h (fun _ => true) ps hi hl fun p hp => by
    obtain ⟨ρ1, h1, h2⟩ := H p hp
    exact ⟨ρ1, h1, rfl, fun _ => h2⟩
  rw [this, List.filter_eq_self.mpr (fun _ _ => rfl)]
/-- ints as data -/
abbrev IL (xs : List Int) : List D := xs.map D.int
abbrev IP (p : Int × Int) : D := .tup [.int p.1, .int p.2]
theorem zipL_ints : ∀ xs ys : List Int, zipL (IL xs) (IL ys) = (xs.zip ys).map IP
  | [], _ => rfl
  | _ :: _, [] => rfl
  | x :: xs, y :: ys => by
    have := zipL_ints xs ys
    simp only [zipL, List.map_cons, List.zipWith_cons_cons, List.zip_cons_cons] at this ⊢
    rw [this]
theorem intsOf_ints : ∀ xs : List Int, intsOf (IL xs) = some xs
  | [] => rfl
  | x :: xs => by
    have := intsOf_ints xs
    simp only [List.map_cons, intsOf, this, Option.map_some]
theorem rangeL_map (hi : Int) : rangeL 0 hi = (List.range hi.toNat).map fun (k : Nat) => D.int (k : Int) := by
  unfold rangeL
  simp only [Int.sub_zero, Int.zero_add]
/-- a for loop, by an invariant of what is left -/
theorem forD_ind {g : D → Rn → Out Rn} {b : Rn → SOut} (I : List D → Rn → Prop) (R : SOut → Prop) (hn : ∀ ρ, I [] ρ → R (.ok (.nx, ρ)))
    (hc : ∀ d ds ρ, I (d :: ds) ρ → ∃ ρ1, g d ρ = .ok ρ1 ∧ ((∃ ρ2, b ρ1 = .ok (.nx, ρ2) ∧ I ds ρ2) ∨ (∃ ρ2, b ρ1 = .ok (.ct, ρ2) ∧ I ds ρ2) ∨ (∃ m ρ2, b ρ1 = .ok (.rt m, ρ2) ∧ R (.ok (.rt m, ρ2))) ∨ (∃ ρ2, b ρ1 = .ok (.bk, ρ2) ∧ R (.ok (.nx, ρ2))))) :
    ∀ ds ρ, I ds ρ → R (forD g b ds ρ)
  | [], ρ, i => hn ρ i
  | d :: ds, ρ, i => by
    obtain ⟨ρ1, h1, h2⟩ := hc d ds ρ i
    rw [forD, h1]
    simp only [Out.nx, Out.bind]
    rcases h2 with ⟨ρ2, e, i2⟩ | ⟨ρ2, e, i2⟩ | ⟨m, ρ2, e, r⟩ | ⟨ρ2, e, r⟩
    · rw [e]; exact forD_ind I R hn hc ds ρ2 i2
    · rw [e]; exact forD_ind I R hn hc ds ρ2 i2
    · rw [e]; exact r
    · rw [e]; exact r
theorem fmod_pos {a b : Int} (h : 0 < b) : 0 ≤ a.fmod b ∧ a.fmod b < b := by
  rw [Int.fmod_eq_emod_of_nonneg a (Int.le_of_lt h)]
  exact ⟨Int.emod_nonneg _ (by omega), Int.emod_lt_of_pos _ h⟩
theorem dMod_ok {i j : Int} (h : j ≠ 0) : dMod (.int i) (.int j) = .ok (.int (i.fmod j)) := if_pos h
theorem dDiv_ok {i j : Int} (h : DivC i j) : dDiv (.int i) (.int j) = .ok (.int (i.fdiv j)) := if_pos h
theorem dMul_ok {i j : Int} (h : MulC i j) : dMul (.int i) (.int j) = .ok (.int (i * j)) := if_pos h
theorem dPow_ok {i j : Int} (h : PowC i j) : dPow (.int i) (.int j) = .ok (.int (i ^ j.toNat)) := if_pos h
theorem bits_le {i : Int} {n : Nat} (h : i.natAbs < 2 ^ n) : bits i ≤ n := by
  unfold bits Builtin.Int.intBits
  split
  · exact Nat.zero_le _
  · rename_i z
    have z' : i.natAbs ≠ 0 := fun e => z (by simpa using e)
    exact Nat.succ_le_of_lt ((Nat.log2_lt z').mpr h)
theorem mulC_right {i j : Int} (h : j.natAbs < 2 ^ 64) : MulC i j := .inr (.inl (bits_le h))
theorem mulC_left {i j : Int} (h : i.natAbs < 2 ^ 64) : MulC i j := .inl (bits_le h)
theorem mulC_big {i j : Int} {m n : Nat} (h : i.natAbs < 2 ^ m) (h2 : j.natAbs < 2 ^ n) (k : m + n ≤ 134217728) : MulC i j := .inr (.inr (Nat.le_trans (Nat.add_le_add (bits_le h) (bits_le h2)) k))
theorem divC_of {i j : Int} (h : j ≠ 0) (h2 : j.natAbs < 2 ^ 9000) : DivC i j := ⟨h, by
  have z' : j.natAbs ≠ 0 := by omega
  exact (Nat.log2_lt z').mpr h2⟩
theorem atI_nat {α : Type} {xs : List α} {k : Nat} (h : k < xs.length) : atI xs (k : Int) = some xs[k] := by
  unfold atI ixN
  rw [if_pos (by omega), if_pos (by omega)]
  simp
theorem dIx_lst {ds : List D} {k : Nat} (h : k < ds.length) : dIx (.lst ds) (.int (k : Int)) = .ok ds[k] := by
  simp only [dIx, atI_nat h]
theorem dIx_tup {ds : List D} {k : Nat} (h : k < ds.length) : dIx (.tup ds) (.int (k : Int)) = .ok ds[k] := by
  simp only [dIx, atI_nat h]
theorem le_size {n : Nat} (h : n ≤ 1000) : n ≤ sizeLine := Nat.le_trans h (by decide +kernel)
theorem fits_of {i : Int} (h : 0 ≤ i) (h2 : i ≤ 1000000) : fits62 i := ⟨Int.le_trans (by decide +kernel) h, Int.lt_of_le_of_lt h2 (by decide +kernel)⟩
theorem rangeL_cons {a b : Int} (h : a < b) : rangeL a b = .int a :: rangeL (a + 1) b := by
  unfold rangeL
  have e : (b - a).toNat = (b - (a + 1)).toNat + 1 := by omega
  rw [e, List.range_succ_eq_map, List.map_cons, List.map_map]
  refine List.cons_eq_cons.mpr ⟨by simp, List.map_congr_left fun k _ => ?_⟩
  show D.int (a + ((k + 1 : Nat) : Int)) = D.int (a + 1 + (k : Int))
  rw [Int.natCast_add]
  congr 1
  simp only [Int.natCast_one]
  omega
theorem rangeL_nil {a b : Int} (h : b ≤ a) : rangeL a b = [] := by
  unfold rangeL
  have e : (b - a).toNat = 0 := by omega
  rw [e]
  rfl
/-- a while loop, by an invariant and a measure -/
theorem whD_ind {S : Type} {c : Rn → Out Bool} {b : Rn → SOut} (st : S → Rn) (I : S → Prop) (μ : S → Nat) (R : SOut → Prop)
    (h : ∀ z, I z → (c (st z) = .ok false ∧ R (.ok (.nx, st z))) ∨ (c (st z) = .ok true ∧ ((∃ z', (b (st z) = .ok (.nx, st z') ∨ b (st z) = .ok (.ct, st z')) ∧ I z' ∧ μ z' < μ z) ∨ (∃ m ρ', b (st z) = .ok (.rt m, ρ') ∧ R (.ok (.rt m, ρ'))) ∨ ∃ ρ', b (st z) = .ok (.bk, ρ') ∧ R (.ok (.nx, ρ'))))) :
    ∀ z, I z → R (whD c b (st z)) := by
  have H : ∀ (n : Nat) (z : S), μ z < n → I z → R (whD c b (st z)) := by
    intro n
    induction n with
    | zero => intro z hz; omega
    | succ n ih =>
      intro z hz i
      rw [whD_eq]
      rcases h z i with ⟨e, r⟩ | ⟨e, ⟨z', e2, i2, l⟩ | ⟨m, ρ', e2, r⟩ | ⟨ρ', e2, r⟩⟩
      · rw [e]; exact r
      · rcases e2 with e2 | e2 <;> (rw [e]; simp only [ob_ok, if_true, e2, loopK]; exact ih z' (by omega) i2)
      · rw [e]; simp only [ob_ok, if_true, e2, loopK]; exact r
      · rw [e]; simp only [ob_ok, if_true, e2, loopK]; exact r
  exact fun z i => H _ z (Nat.lt_succ_self _) i
theorem iset_ok {n : Str} {f g : Rn → Out D} {r : Addr → Ac → Rn → Out Ac} {x : Addr} {acc acc' : Ac} {ρ : Rn} {d : D} (hf : f ρ = .ok d) (hg : g ρ = .ok (.loc x)) (h1 : List.contains (acc.map (·.1)) n = false) (h2 : acc.length < 500) (h3 : r x ((n, d) :: acc) ρ = .ok acc') : iSet n f g r x acc ρ = .ok acc' := by
  unfold iSet
  rw [hf, hg]
  simp only [on_ok, ob_ok, h1, h2, h3, and_self, if_true]
theorem ibase_ok {g : Addr → List D → Out Ac} {a : Rn → Out (List D)} {r : Addr → Ac → Rn → Out Ac} {x : Addr} {acc acc' : Ac} {ρ : Rn} {ds : List D} (ha : a ρ = .ok (.loc x :: ds)) (hg : g x ds = .ok acc) (h3 : r x acc ρ = .ok acc') : iBase g a r x [] ρ = .ok acc' := by
  unfold iBase
  rw [ha]
  simp only [on_ok, ob_ok, if_true, hg, h3]
theorem fld_ok {cs : List Str} {f C : Str} {fs : List Str} {ds : List D} {d : D} (h : List.contains cs C = true) (h2 : fldOf f fs ds = some d) : dFld cs f (.obj C fs ds) = .ok d := by
  unfold dFld
  simp only [h, h2, if_true]
theorem isn_obj (C : Str) (fs : List Str) (ds : List D) : dIsN (.obj C fs ds) .non = .ok (.bl false) := rfl
theorem nn_obj (C : Str) (fs : List Str) (ds : List D) : dNotN (.obj C fs ds) .non = .ok (.bl true) := rfl
theorem toM_dat (f : Rn → Out D) (ρ : Rn) (d : D) (h : f ρ = .ok d) : toM f ρ = .ok (.dat d) := by unfold toM; rw [h]; rfl
theorem sz2 : 2 ≤ sizeLine := by decide
theorem sz3 : 3 ≤ sizeLine := by decide
theorem ix2_0 (x y : D) : dIx (.tup [x, y]) (.int 0) = .ok x := rfl
theorem ix2_1 (x y : D) : dIx (.tup [x, y]) (.int 1) = .ok y := rfl
theorem eqP_t2 (a b c d : Int) : eqP (.tup [.int a, .int b]) (.tup [.int c, .int d]) = some (a == c && b == d) := by
  simp [eqP, toP, toPs, SeqAt.shaped, PyData.canLay0, PyData.canLayAll0, PyData.depth, PyData.eqv, PyData.eqvAll, PyData.depthAll]
theorem dEq_t2 (a b c d : Int) : dEq (.tup [.int a, .int b]) (.tup [.int c, .int d]) = .ok (.bl (a == c && b == d)) := by simp only [dEq, eqP_t2]
theorem dNe_t2 (a b c d : Int) : dNe (.tup [.int a, .int b]) (.tup [.int c, .int d]) = .ok (.bl (!(a == c && b == d))) := by simp only [dNe, eqP_t2]
theorem abs_nat (i : Int) : (if i < 0 then -i else i) = (i.natAbs : Int) := by split <;> omega
theorem fmod_nat (m n : Nat) : (m : Int).fmod (n : Int) = ((m % n : Nat) : Int) := by
  rw [Int.fmod_eq_emod_of_nonneg _ (Int.natCast_nonneg n)]
  exact (Int.natCast_emod m n).symm
theorem mtR_ok {m C : Str} {tab : List (Str × (List D → Out M))} {fs : List Str} {ds : List D} {f : List D → Out M} (h : fs.contains m = false) (h2 : tab.lookup C = some f) : mtR m tab (.obj C fs ds) = .ok f := by
  unfold mtR
  simp only [h, h2, Bool.false_eq_true, if_false]
theorem abs_n (i : Int) : dAbs [.int i] = .ok (.int (i.natAbs : Int)) := by rw [abs_i, abs_nat]
theorem c2 : ((2 : Nat) : Int) = 2 := rfl
theorem c3 : ((3 : Nat) : Int) = 3 := rfl
theorem c1 : ((1 : Nat) : Int) = 1 := rfl
theorem c0 : ((0 : Nat) : Int) = 0 := rfl
theorem lk_hd {α : Type} {C : Str} {f : α} {r : List (Str × α)} : List.lookup C ((C, f) :: r) = some f := by simp [List.lookup]
theorem lk_tl {α : Type} {C C' : Str} {f : α} {r : List (Str × α)} (h : (C == C') = false) : List.lookup C ((C', f) :: r) = List.lookup C r := by simp [List.lookup, h]
theorem lk_R {α : Type} {f g : α} : List.lookup ("Rests" : Str) [("Fractions", f), ("Rests", g)] = some g := (lk_tl (by decide +kernel)).trans lk_hd
theorem ad_ii (i j : Int) : dAdd (.int i) (.int j) = .ok (.int (i + j)) := rfl
theorem ad_tt {xs ys : List D} (h : xs.length + ys.length ≤ 1000) : dAdd (.tup xs) (.tup ys) = .ok (.tup (xs ++ ys)) := if_pos (le_size h)
theorem gx_ii (i j : Int) : dGtA (.int i) (.int j) = .ok (.bl (decide (j < i))) := rfl
theorem gx_tt (xs ys : List Int) : dGtA (.tup (IL xs)) (.tup (IL ys)) = .ok (.bl (HT.lexLt ys xs)) := by
  simp only [dGtA, intsOf_ints]
theorem lof_l (ds : List D) : dListOf [.lst ds] = .ok (.lst ds) := rfl
theorem lof_t (ds : List D) : dListOf [.tup ds] = .ok (.lst ds) := rfl
theorem toPs_ints : ∀ xs : List Int, toPs (IL xs) = some (xs.map PyData.int)
  | [] => rfl
  | x :: xs => by
    have := toPs_ints xs
    simp only [List.map_cons, toPs, toP, this, Option.bind_some, Option.map_some]
theorem lay_ints : ∀ xs : List Int, PyData.canLayAll0 (xs.map PyData.int) = true
  | [] => rfl
  | x :: xs => by
    have := lay_ints xs
    simp only [List.map_cons, PyData.canLayAll0, PyData.canLay0, this, Bool.and_self]
theorem eqv_ints : ∀ xs ys : List Int, PyData.eqvAll (xs.map PyData.int) (ys.map PyData.int) = decide (xs = ys)
  | [], [] => by simp [PyData.eqvAll]
  | [], _ :: _ => by simp [PyData.eqvAll]
  | _ :: _, [] => by simp [PyData.eqvAll]
  | x :: xs, y :: ys => by
    have := eqv_ints xs ys
    simp only [List.map_cons, PyData.eqvAll, PyData.eqv, this]
    rw [Bool.eq_iff_iff]
    simp
theorem eqP_ts (xs ys : List Int) : eqP (.tup (IL xs)) (.tup (IL ys)) = some (decide (xs = ys)) := by
  have h : ∀ zs : List Int, SeqAt.shaped (PyData.tuple (zs.map PyData.int)) = true := fun zs => by
    simp only [SeqAt.shaped, PyData.canLay0, lay_ints, PyData.depth, PyProof.Rows.depthAll_ints]
    decide
  simp only [eqP, toP, toPs_ints, Option.map_some, h, Bool.and_self, if_true, PyData.eqv, eqv_ints]
theorem dEq_ts (xs ys : List Int) : dEq (.tup (IL xs)) (.tup (IL ys)) = .ok (.bl (decide (xs = ys))) := by simp only [dEq, eqP_ts]
theorem dNe_ts (xs ys : List Int) : dNe (.tup (IL xs)) (.tup (IL ys)) = .ok (.bl (!decide (xs = ys))) := by simp only [dNe, eqP_ts]
theorem maxD_t (xs : List Int) (d : D) : dMaxD (.tup (IL xs)) d = match xs with | [] => .ok d | n :: ms => .ok (.int (ms.foldl max n)) := by
  simp only [dMaxD, seq_tup, intsOf_ints]
  cases xs <;> rfl
theorem sz1 : 1 ≤ sizeLine := by decide
theorem cutL_map {α β : Type} (f : α → β) (xs : List α) (lo hi : Option Int) : cutL (xs.map f) lo hi = (cutL xs lo hi).map f := by
  unfold cutL
  rw [List.length_map, List.map_take, List.map_drop]
theorem cutL_len {α : Type} (xs : List α) (lo hi : Option Int) : (cutL xs lo hi).length ≤ xs.length := by
  unfold cutL
  rw [List.length_take, List.length_drop]
  omega
theorem cutL_from {α : Type} {xs : List α} {k : Nat} (h : k ≤ xs.length) : cutL xs (some (k : Int)) none = xs.drop k := by
  unfold cutL
  rw [HT.sIx_nat, HT.sIx_none, Nat.min_eq_left h]
  exact List.take_of_length_le (by rw [List.length_drop]; exact Nat.le_refl _)
theorem cutL_to {α : Type} {xs : List α} {k : Nat} (h : k ≤ xs.length) : cutL xs none (some (k : Int)) = xs.take k := by
  unfold cutL
  rw [HT.sIx_nat, HT.sIx_none, Nat.min_eq_left h, List.drop_zero, Nat.sub_zero]
theorem sl_t (ds : List D) (lo hi : Option Int) : dSl (.tup ds) lo hi = .ok (.tup (cutL ds lo hi)) := rfl
theorem sl_l (ds : List D) (lo hi : Option Int) : dSl (.lst ds) lo hi = .ok (.lst (cutL ds lo hi)) := rfl
theorem atI_prev {α : Type} {xs : List α} {j : Nat} (h : j < xs.length) : ∃ x ∈ xs, atI xs ((j : Int) - 1) = some x := by
  unfold atI ixN
  cases j with
  | zero =>
    rw [if_neg (by omega), if_pos (by omega)]
    have l : (((0 : Nat) : Int) - 1 + (xs.length : Int)).toNat < xs.length := by omega
    exact ⟨_, List.getElem_mem l, by simp only [Option.bind_some, List.getElem?_eq_getElem l]⟩
  | succ j =>
    rw [if_pos (by omega), if_pos (by omega)]
    have l : (((j + 1 : Nat) : Int) - 1).toNat < xs.length := by omega
    exact ⟨_, List.getElem_mem l, by simp only [Option.bind_some, List.getElem?_eq_getElem l]⟩
end DA
set_option maxHeartbeats 4000000
namespace DA
open PySem PySem.Spec PyProof.Rows L2

noncomputable def sd_k06_law_cell : Rn → SOut := (sSeq (sIf (tst dLt (rd 1) (calD dLen (aCons (rd 0) aNil))) (sRet (toM (bin dIx (rd 0) (rd 1)))) sNil) (sRet (toM (cst (.int 0)))))
noncomputable def d_k06_law_cell : List D → Out M := runD 2 0 sd_k06_law_cell

noncomputable def sd_k06_law_weight : Rn → SOut := (sSeq (sIf (andB (tst dGtA (rd 1) (cst (.int 0))) (andB (tst dEq (bin dMod (bin dDiv (rd 0) (cst (.int 2))) (cst (.int 2))) (cst (.int 1))) (tst dLt (bin dMod (bin dDiv (rd 0) (cst (.int 8))) (cst (.int 4))) (rd 1)))) (sRet (toM (cst (.int 0)))) sNil) (sSeq (sIf (tst dEq (bin dMod (rd 0) (cst (.int 2))) (cst (.int 0))) (sRet (toM (bin dMod (bin dDiv (bin dMod (bin dMul (rd 0) (bin dAdd (cst (.int 69621)) (bin dMul (cst (.int 2)) (rd 1)))) (cst (.int 10009))) (cst (.int 5))) (cst (.int 3))))) sNil) (sRet (toM (bin dMod (bin dMul (rd 0) (bin dAdd (cst (.int 69621)) (bin dMul (cst (.int 2)) (rd 1)))) (bin dAdd (bin dAdd (bin dPow (cst (.int 10)) (cst (.int 10))) (cst (.int 19))) (rd 1)))))))
noncomputable def d_k06_law_weight : List D → Out M := runD 2 0 sd_k06_law_weight

noncomputable def sl_Weights_init_1 : Rn → SOut := (sIf (tst dLt (rd 2) (cst (.int 0))) (sExc "NoOrder") sNil)
noncomputable def si_Weights : Addr → Ac → Rn → Out Ac := (iPre (sFor (itSeq (rd 1)) (gSet 2) sl_Weights_init_1) (iSet "weights" (calD dTuple (aCons (rd 1) aNil)) (rd 0) iNil))
noncomputable def i_Weights : Addr → List D → Out Ac := runI 1 1 si_Weights

noncomputable def sd_k06_law_order : Rn → SOut := (sSeq (sIf (tst dEq (rd 0) (cst (.int 0))) (sRet (toM (cst (.obj "Order" [] [])))) sNil) (sSeq (sIf (tst dEq (rd 0) (cst (.int 1))) (sRet (toM (cst (.obj "Degrees" [] [])))) sNil) (sSeq (sIf (tst dEq (rd 0) (cst (.int 2))) (sRet (toM (cst (.obj "Tails" [] [])))) sNil) (sRet (toM (newF "Weights" i_Weights (aCons (calD dListOf (aCons (rd 1) aNil)) aNil)))))))
noncomputable def d_k06_law_order : List D → Out M := runD 2 0 sd_k06_law_order

noncomputable def sd_k06_law_power : Rn → SOut := (sSeq (sIf (tst dEq (bin dMod (rd 0) (cst (.int 4))) (cst (.int 0))) (sRet (toM (bin dMod (bin dMul (rd 0) (bin dAdd (cst (.int 48271)) (bin dMul (cst (.int 2)) (rd 1)))) (bin dAdd (bin dAdd (bin dPow (cst (.int 10)) (cst (.int 20))) (cst (.int 39))) (rd 1))))) sNil) (sRet (toM (bin dMod (bin dDiv (bin dMod (bin dMul (rd 0) (bin dAdd (cst (.int 48271)) (bin dMul (cst (.int 2)) (rd 1)))) (cst (.int 10007))) (cst (.int 7))) (cst (.int 3))))))
noncomputable def d_k06_law_power : List D → Out M := runD 2 0 sd_k06_law_power

noncomputable def sd_Order_takes_out : Rn → SOut := (sRet (toM (cst (.bl true))))
noncomputable def d_Order_takes_out : List D → Out M := runD 2 0 sd_Order_takes_out

noncomputable def sd_Degrees_takes_out : Rn → SOut := (sRet (toM (cst (.bl false))))
noncomputable def d_Degrees_takes_out : List D → Out M := runD 2 0 sd_Degrees_takes_out

noncomputable def sd_Tails_takes_out : Rn → SOut := (sRet (toM (cst (.bl false))))
noncomputable def d_Tails_takes_out : List D → Out M := runD 2 0 sd_Tails_takes_out

noncomputable def sd_Weights_takes_out : Rn → SOut := (sRet (toM (bin dEq (maxDf (slD (una (dFld ["Weights"] "weights") (rd 0)) (oSome (rd 1)) oNone) (cst (.int 0))) (cst (.int 0)))))
noncomputable def d_Weights_takes_out : List D → Out M := runD 2 0 sd_Weights_takes_out

noncomputable def t_takes_out : List (Str × (List D → Out M)) := [("Order", d_Order_takes_out), ("Degrees", d_Degrees_takes_out), ("Tails", d_Tails_takes_out), ("Weights", d_Weights_takes_out)]

noncomputable def sd_k06_law_only : Rn → SOut := (sRet (toM (calD dTuple (aCons (toD (lcD (itRange1 (aCons (rd 2) aNil)) [3] (gSet 3) tYesB (ifD (tst dEq (rd 3) (rd 0)) (rd 1) (cst (.int 0))))) aNil))))
noncomputable def d_k06_law_only : List D → Out M := runD 3 1 sd_k06_law_only

noncomputable def sd_Order_rank : Rn → SOut := (sRet (toM (rd 1)))
noncomputable def d_Order_rank : List D → Out M := runD 2 0 sd_Order_rank

noncomputable def sd_degree : Rn → SOut := (sRet (toM (calD dSum (aCons (rd 0) aNil))))
noncomputable def d_degree : List D → Out M := runD 1 0 sd_degree

noncomputable def sd_Degrees_rank : Rn → SOut := (sRet (toM (bin dAdd (tupD (aCons (toD (callM d_degree (aCons (rd 1) aNil))) aNil)) (rd 1))))
noncomputable def d_Degrees_rank : List D → Out M := runD 2 0 sd_Degrees_rank

noncomputable def sd_Tails_rank : Rn → SOut := (sRet (toM (bin dAdd (tupD (aCons (toD (callM d_degree (aCons (rd 1) aNil))) aNil)) (calD dTuple (aCons (toD (lcD (itRev (rd 1)) [2] (gSet 2) tYesB (una dNeg (rd 2)))) aNil)))))
noncomputable def d_Tails_rank : List D → Out M := runD 2 1 sd_Tails_rank

noncomputable def sd_Weights_rank : Rn → SOut := (sRet (toM (bin dAdd (tupD (aCons (calD dSum (aCons (toD (lcD (itZip (aCons (rd 1) (aCons (una (dFld ["Weights"] "weights") (rd 0)) aNil))) [2, 3] (gTupD 2 (gsCons (gSet 2) (gsCons (gSet 3) gsNil))) tYesB (bin dMul (rd 2) (rd 3)))) aNil)) aNil)) (rd 1))))
noncomputable def d_Weights_rank : List D → Out M := runD 2 2 sd_Weights_rank

noncomputable def t_rank : List (Str × (List D → Out M)) := [("Order", d_Order_rank), ("Degrees", d_Degrees_rank), ("Tails", d_Tails_rank), ("Weights", d_Weights_rank)]

noncomputable def sd_Order_goes_before : Rn → SOut := (sRet (toM (bin dGtA (toD (mtC "rank" t_rank (rd 0) (aCons (rd 1) aNil))) (toD (mtC "rank" t_rank (rd 0) (aCons (rd 2) aNil))))))
noncomputable def d_Order_goes_before : List D → Out M := runD 3 0 sd_Order_goes_before

noncomputable def t_goes_before : List (Str × (List D → Out M)) := [("Order", d_Order_goes_before), ("Degrees", d_Order_goes_before), ("Tails", d_Order_goes_before), ("Weights", d_Order_goes_before)]

noncomputable def sl_k06_law_not_out_1 : Rn → SOut := (sSeq (sSet 7 (toM (cst (.int 2)))) (sSeq (sIf (tst dEq (rd 1) (cst (.int 3))) (sSet 7 (toM (bin dAdd (bin dIx (rd 2) (cst (.int 0))) (cst (.int 1))))) sNil) (sIf (isB (toD (mtC "goes_before" t_goes_before (rd 0) (aCons (toD (callM d_k06_law_only (aCons (rd 6) (aCons (rd 7) (aCons (rd 4) aNil))))) (aCons (rd 5) aNil))))) (sRet (toM (cst (.bl true)))) sNil)))
noncomputable def sd_k06_law_not_out : Rn → SOut := (sSeq (sSet 5 (toM (toD (callM d_k06_law_only (aCons (cst (.int 0)) (aCons (cst (.int 1)) (aCons (rd 4) aNil))))))) (sSeq (sFor (itRange2 (aCons (rd 3) (aCons (rd 4) aNil))) (gSet 6) sl_k06_law_not_out_1) (sRet (toM (cst (.bl false))))))
noncomputable def d_k06_law_not_out : List D → Out M := runD 5 3 sd_k06_law_not_out

noncomputable def sd_k06_law_out : Rn → SOut := (sSeq (sSet 4 (toM (calD dTuple (aCons (toD (lcD (itRange1 (aCons (calD dLen (aCons (rd 1) aNil)) aNil)) [6] (gSet 6) tYesB (ifD (tst dGe (rd 6) (rd 3)) (bin dIx (rd 1) (rd 6)) (bin dMod (bin dIx (rd 1) (rd 6)) (cst (.int 2)))))) aNil)))) (sSeq (sSet 5 (toM (calD dTuple (aCons (toD (lcD (itRange1 (aCons (calD dLen (aCons (rd 2) aNil)) aNil)) [6] (gSet 6) tYesB (ifD (tst dGe (rd 6) (rd 3)) (bin dIx (rd 2) (rd 6)) (cst (.int 0))))) aNil)))) (sSeq (sIf (tst dEq (calD dSum (aCons (slD (rd 4) oNone (oSome (rd 3))) aNil)) (cst (.int 0))) (sSet 4 (toM (bin dAdd (tupD (aCons (cst (.int 1)) aNil)) (slD (rd 4) (oSome (cst (.int 1))) oNone)))) sNil) (sRet (mtC "goes_before" t_goes_before (rd 0) (aCons (rd 4) (aCons (rd 5) aNil)))))))
noncomputable def d_k06_law_out : List D → Out M := runD 4 3 sd_k06_law_out

noncomputable def sd_k06_law_three : Rn → SOut := (sSeq (sSet 4 (toM (calD dTuple (aCons (toD (lcD (itSeq (rd 1)) [7] (gSet 7) tYesB (cst (.int 0)))) aNil)))) (sSeq (sIf (orB (isB (toD (mtC "goes_before" t_goes_before (rd 0) (aCons (rd 1) (aCons (rd 1) aNil))))) (isB (toD (mtC "goes_before" t_goes_before (rd 0) (aCons (rd 4) (aCons (rd 1) aNil)))))) (sRet (toM (cst (.bl false)))) sNil) (sSeq (sIf (andB (tst dNe (rd 1) (rd 4)) (notB (isB (toD (mtC "goes_before" t_goes_before (rd 0) (aCons (rd 1) (aCons (rd 4) aNil))))))) (sRet (toM (cst (.bl false)))) sNil) (sSeq (sIf (andB (tst dNe (rd 1) (rd 2)) (tst dEq (toD (mtC "goes_before" t_goes_before (rd 0) (aCons (rd 1) (aCons (rd 2) aNil)))) (toD (mtC "goes_before" t_goes_before (rd 0) (aCons (rd 2) (aCons (rd 1) aNil)))))) (sRet (toM (cst (.bl false)))) sNil) (sSeq (sIf (andB (tst dEq (rd 1) (rd 2)) (orB (isB (toD (mtC "goes_before" t_goes_before (rd 0) (aCons (rd 1) (aCons (rd 2) aNil))))) (isB (toD (mtC "goes_before" t_goes_before (rd 0) (aCons (rd 2) (aCons (rd 1) aNil))))))) (sRet (toM (cst (.bl false)))) sNil) (sSeq (sIf (andB (isB (toD (mtC "goes_before" t_goes_before (rd 0) (aCons (rd 1) (aCons (rd 2) aNil))))) (andB (isB (toD (mtC "goes_before" t_goes_before (rd 0) (aCons (rd 2) (aCons (rd 3) aNil))))) (notB (isB (toD (mtC "goes_before" t_goes_before (rd 0) (aCons (rd 1) (aCons (rd 3) aNil)))))))) (sRet (toM (cst (.bl false)))) sNil) (sSeq (sSet 5 (toM (calD dTuple (aCons (toD (lcD (itZip (aCons (rd 1) (aCons (rd 3) aNil))) [8, 9] (gTupD 2 (gsCons (gSet 8) (gsCons (gSet 9) gsNil))) tYesB (bin dAdd (rd 8) (rd 9)))) aNil)))) (sSeq (sSet 6 (toM (calD dTuple (aCons (toD (lcD (itZip (aCons (rd 2) (aCons (rd 3) aNil))) [8, 9] (gTupD 2 (gsCons (gSet 8) (gsCons (gSet 9) gsNil))) tYesB (bin dAdd (rd 8) (rd 9)))) aNil)))) (sRet (toM (bin dEq (toD (mtC "goes_before" t_goes_before (rd 0) (aCons (rd 5) (aCons (rd 6) aNil)))) (toD (mtC "goes_before" t_goes_before (rd 0) (aCons (rd 1) (aCons (rd 2) aNil)))))))))))))))
noncomputable def d_k06_law_three : List D → Out M := runD 4 6 sd_k06_law_three

noncomputable def sl_k06_law_1 : Rn → SOut := (sIf (andB (isB (rd 9)) (notB (isB (toD (callM d_k06_law_out (aCons (rd 5) (aCons (bin dIx (rd 6) (rd 8)) (aCons (bin dIx (rd 6) (bin dSub (rd 8) (cst (.int 1)))) (aCons (rd 7) aNil))))))))) (sRet (toM (cst (.bl false)))) sNil)
noncomputable def sl_k06_law_2 : Rn → SOut := (sSeq (sSet 9 (toM (toD (mtC "takes_out" t_takes_out (rd 5) (aCons (rd 7) aNil))))) (sSeq (sIf (notB (isB (una (isiT "bool") (rd 9)))) (sRet (toM (cst (.bl false)))) sNil) (sSeq (sIf (andB (notB (isB (rd 9))) (notB (isB (toD (callM d_k06_law_not_out (aCons (rd 5) (aCons (rd 3) (aCons (rd 4) (aCons (rd 7) (aCons (rd 2) aNil)))))))))) (sRet (toM (cst (.bl false)))) sNil) (sFor (itRange1 (aCons (calD dLen (aCons (rd 6) aNil)) aNil)) (gSet 8) sl_k06_law_1))))
noncomputable def sl_k06_law_3 : Rn → SOut := (sIf (notB (isB (toD (callM d_k06_law_three (aCons (rd 5) (aCons (bin dIx (rd 6) (rd 8)) (aCons (bin dIx (rd 6) (bin dMod (bin dAdd (rd 8) (cst (.int 1))) (calD dLen (aCons (rd 6) aNil)))) (aCons (bin dIx (rd 6) (bin dMod (bin dAdd (rd 8) (cst (.int 2))) (calD dLen (aCons (rd 6) aNil)))) aNil)))))))) (sRet (toM (cst (.bl false)))) sNil)
noncomputable def sd_k06_law : Rn → SOut := (sSeq (sSet 1 (toM (toD (callM d_k06_law_cell (aCons (rd 0) (aCons (cst (.int 0)) aNil)))))) (sSeq (sSet 2 (toM (bin dAdd (cst (.int 1)) (bin dMod (bin dDiv (rd 1) (cst (.int 4))) (cst (.int 4)))))) (sSeq (sSet 3 (toM (bin dMod (rd 1) (cst (.int 4))))) (sSeq (sSet 4 (toM (toD (lcD (itRange1 (aCons (rd 2) aNil)) [10] (gSet 10) tYesB (toD (callM d_k06_law_weight (aCons (bin dDiv (rd 1) (cst (.int 16))) (aCons (rd 10) aNil)))))))) (sSeq (sSet 5 (toM (toD (callM d_k06_law_order (aCons (rd 3) (aCons (rd 4) aNil)))))) (sSeq (sSet 6 (toM (toD (lcD (itSeq (slD (rd 0) (oSome (cst (.int 1))) (oSome (cst (.int 70))))) [11] (gSet 11) tYesB (calD dTuple (aCons (toD (lcD (itRange1 (aCons (rd 2) aNil)) [10] (gSet 10) tYesB (toD (callM d_k06_law_power (aCons (rd 11) (aCons (rd 10) aNil)))))) aNil)))))) (sSeq (sFor (itRange2 (aCons (cst (.int 1)) (aCons (rd 2) aNil))) (gSet 7) sl_k06_law_2) (sSeq (sFor (itRange1 (aCons (calD dLen (aCons (rd 6) aNil)) aNil)) (gSet 8) sl_k06_law_3) (sRet (toM (cst (.bl true))))))))))))
noncomputable def d_k06_law : List D → Out M := runD 1 11 sd_k06_law

end DA
set_option maxHeartbeats 4000000
namespace Wk06
open DA PySem PySem.Spec PyProof.Rows L2

def top (i : Nat) : Stmt := PySem.Challenge.pw_idealroom_k06_orders_keep.main.body.getD i (.Pass ⟨0, 0, 0, 0⟩)
abbrev cs : List Str := ["RoomError", "NoOrder", "Order", "Degrees", "Tails", "Weights"]
abbrev s_k06_law_cell : Stmt := top 12
abbrev N_k06_law_cell : List Str := ["_law_script", "_law_k"]
abbrev D_k06_law_cell : He.DefD := ⟨("_law_cell", none), "_law_cell", "_law_cell", defArgs s_k06_law_cell, defBody s_k06_law_cell, defScope s_k06_law_cell, [], []⟩
abbrev s_k06_law_weight : Stmt := top 14
abbrev N_k06_law_weight : List Str := ["_law_cell_here", "_law_at"]
abbrev D_k06_law_weight : He.DefD := ⟨("_law_weight", none), "_law_weight", "_law_weight", defArgs s_k06_law_weight, defBody s_k06_law_weight, defScope s_k06_law_weight, [], []⟩
abbrev s_Weights_init : Stmt := inClass (top 10) 0
abbrev N_Weights_init : List Str := ["self", "weights", "weight"]
abbrev D_Weights_init : He.DefD := ⟨("Weights", some "__init__"), "__init__", "Weights.__init__", defArgs s_Weights_init, defBody s_Weights_init, defScope s_Weights_init, [], []⟩
abbrev s_k06_law_order : Stmt := top 15
abbrev N_k06_law_order : List Str := ["_law_kind", "_law_weights"]
abbrev D_k06_law_order : He.DefD := ⟨("_law_order", none), "_law_order", "_law_order", defArgs s_k06_law_order, defBody s_k06_law_order, defScope s_k06_law_order, [], []⟩
abbrev s_k06_law_power : Stmt := top 13
abbrev N_k06_law_power : List Str := ["_law_cell_here", "_law_at"]
abbrev D_k06_law_power : He.DefD := ⟨("_law_power", none), "_law_power", "_law_power", defArgs s_k06_law_power, defBody s_k06_law_power, defScope s_k06_law_power, [], []⟩
abbrev s_Order_takes_out : Stmt := inClass (top 7) 4
abbrev N_Order_takes_out : List Str := ["self", "k"]
abbrev D_Order_takes_out : He.DefD := ⟨("Order", some "takes_out"), "takes_out", "Order.takes_out", defArgs s_Order_takes_out, defBody s_Order_takes_out, defScope s_Order_takes_out, [], []⟩
abbrev s_Degrees_takes_out : Stmt := inClass (top 8) 1
abbrev N_Degrees_takes_out : List Str := ["self", "k"]
abbrev D_Degrees_takes_out : He.DefD := ⟨("Degrees", some "takes_out"), "takes_out", "Degrees.takes_out", defArgs s_Degrees_takes_out, defBody s_Degrees_takes_out, defScope s_Degrees_takes_out, [], []⟩
abbrev s_Tails_takes_out : Stmt := inClass (top 9) 1
abbrev N_Tails_takes_out : List Str := ["self", "k"]
abbrev D_Tails_takes_out : He.DefD := ⟨("Tails", some "takes_out"), "takes_out", "Tails.takes_out", defArgs s_Tails_takes_out, defBody s_Tails_takes_out, defScope s_Tails_takes_out, [], []⟩
abbrev s_Weights_takes_out : Stmt := inClass (top 10) 2
abbrev N_Weights_takes_out : List Str := ["self", "k"]
abbrev D_Weights_takes_out : He.DefD := ⟨("Weights", some "takes_out"), "takes_out", "Weights.takes_out", defArgs s_Weights_takes_out, defBody s_Weights_takes_out, defScope s_Weights_takes_out, [], []⟩
abbrev s_k06_law_only : Stmt := top 17
abbrev N_k06_law_only : List Str := ["_law_at", "_law_power_here", "_law_many", "_law_k"]
abbrev D_k06_law_only : He.DefD := ⟨("_law_only", none), "_law_only", "_law_only", defArgs s_k06_law_only, defBody s_k06_law_only, defScope s_k06_law_only, [], []⟩
abbrev s_Order_rank : Stmt := inClass (top 7) 0
abbrev N_Order_rank : List Str := ["self", "term"]
abbrev D_Order_rank : He.DefD := ⟨("Order", some "rank"), "rank", "Order.rank", defArgs s_Order_rank, defBody s_Order_rank, defScope s_Order_rank, [], []⟩
abbrev s_degree : Stmt := top 5
abbrev N_degree : List Str := ["term"]
abbrev D_degree : He.DefD := ⟨("degree", none), "degree", "degree", defArgs s_degree, defBody s_degree, defScope s_degree, [], []⟩
abbrev s_Degrees_rank : Stmt := inClass (top 8) 0
abbrev N_Degrees_rank : List Str := ["self", "term"]
abbrev D_Degrees_rank : He.DefD := ⟨("Degrees", some "rank"), "rank", "Degrees.rank", defArgs s_Degrees_rank, defBody s_Degrees_rank, defScope s_Degrees_rank, [], []⟩
abbrev s_Tails_rank : Stmt := inClass (top 9) 0
abbrev N_Tails_rank : List Str := ["self", "term", "power"]
abbrev D_Tails_rank : He.DefD := ⟨("Tails", some "rank"), "rank", "Tails.rank", defArgs s_Tails_rank, defBody s_Tails_rank, defScope s_Tails_rank, [], []⟩
abbrev s_Weights_rank : Stmt := inClass (top 10) 1
abbrev N_Weights_rank : List Str := ["self", "term", "a", "w"]
abbrev D_Weights_rank : He.DefD := ⟨("Weights", some "rank"), "rank", "Weights.rank", defArgs s_Weights_rank, defBody s_Weights_rank, defScope s_Weights_rank, [], []⟩
abbrev s_Order_goes_before : Stmt := inClass (top 7) 1
abbrev N_Order_goes_before : List Str := ["self", "one", "other"]
abbrev D_Order_goes_before : He.DefD := ⟨("Order", some "goes_before"), "goes_before", "Order.goes_before", defArgs s_Order_goes_before, defBody s_Order_goes_before, defScope s_Order_goes_before, [], []⟩
abbrev D_Degrees_goes_before : He.DefD := ⟨("Degrees", some "goes_before"), "goes_before", "Order.goes_before", defArgs s_Order_goes_before, defBody s_Order_goes_before, defScope s_Order_goes_before, [], []⟩
abbrev D_Tails_goes_before : He.DefD := ⟨("Tails", some "goes_before"), "goes_before", "Order.goes_before", defArgs s_Order_goes_before, defBody s_Order_goes_before, defScope s_Order_goes_before, [], []⟩
abbrev D_Weights_goes_before : He.DefD := ⟨("Weights", some "goes_before"), "goes_before", "Order.goes_before", defArgs s_Order_goes_before, defBody s_Order_goes_before, defScope s_Order_goes_before, [], []⟩
abbrev s_k06_law_not_out : Stmt := top 18
abbrev N_k06_law_not_out : List Str := ["_law_order_here", "_law_kind", "_law_weights", "_law_k", "_law_many", "_law_one", "_law_at", "_law_power_here"]
abbrev D_k06_law_not_out : He.DefD := ⟨("_law_not_out", none), "_law_not_out", "_law_not_out", defArgs s_k06_law_not_out, defBody s_k06_law_not_out, defScope s_k06_law_not_out, [], []⟩
abbrev s_k06_law_out : Stmt := top 19
abbrev N_k06_law_out : List Str := ["_law_order_here", "_law_a", "_law_b", "_law_k", "_law_left", "_law_right", "_law_at"]
abbrev D_k06_law_out : He.DefD := ⟨("_law_out", none), "_law_out", "_law_out", defArgs s_k06_law_out, defBody s_k06_law_out, defScope s_k06_law_out, [], []⟩
abbrev s_k06_law_three : Stmt := top 16
abbrev N_k06_law_three : List Str := ["_law_order_here", "_law_a", "_law_b", "_law_c", "_law_still", "_law_left", "_law_right", "_law_power_here", "_law_x", "_law_y"]
abbrev D_k06_law_three : He.DefD := ⟨("_law_three", none), "_law_three", "_law_three", defArgs s_k06_law_three, defBody s_k06_law_three, defScope s_k06_law_three, [], []⟩
abbrev s_k06_law : Stmt := top 20
abbrev N_k06_law : List Str := ["_law_script", "_law_cell_here", "_law_many", "_law_kind", "_law_weights", "_law_order_here", "_law_terms", "_law_k", "_law_j", "_law_out_here", "_law_at", "_law_one"]
abbrev D_k06_law : He.DefD := ⟨("law", none), "law", "law", defArgs s_k06_law, defBody s_k06_law, defScope s_k06_law, [], []⟩
abbrev fa : List He.Fa := [.free "len", .glo "_law_cell", .free "range", .glo "_law_weight", .glo "Order", .glo "Degrees", .glo "Tails", .free "list", .free "tuple", .cls "Weights", .noat "Weights" "weights", .cls "Tails", .noat "Tails" "weights", .cls "Degrees", .noat "Degrees" "weights", .cls "Order", .noat "Order" "weights", .glo "NoOrder", .exc "NoOrder", .glo "Weights", .mkr "Weights", .glo "_law_order", .glo "_law_power", .meth "Order" "takes_out", .meth "Degrees" "takes_out", .meth "Tails" "takes_out", .free "max", .meth "Weights" "takes_out", .free "isinstance", .free "bool", .glo "_law_only", .meth "Order" "rank", .free "sum", .glo "degree", .meth "Degrees" "rank", .free "reversed", .meth "Tails" "rank", .free "zip", .meth "Weights" "rank", .meth "Order" "goes_before", .meth "Degrees" "goes_before", .meth "Tails" "goes_before", .meth "Weights" "goes_before", .glo "_law_not_out", .glo "_law_out", .glo "_law_three", .glo "law"]
abbrev fn : List He.DefD := [D_k06_law_cell,
  D_k06_law_weight,
  D_Weights_init,
  D_k06_law_order,
  D_k06_law_power,
  D_Order_takes_out,
  D_Degrees_takes_out,
  D_Tails_takes_out,
  D_Weights_takes_out,
  D_k06_law_only,
  D_Order_rank,
  D_degree,
  D_Degrees_rank,
  D_Tails_rank,
  D_Weights_rank,
  D_Order_goes_before,
  D_Degrees_goes_before,
  D_Tails_goes_before,
  D_Weights_goes_before,
  D_k06_law_not_out,
  D_k06_law_out,
  D_k06_law_three,
  D_k06_law]
abbrev fc : List (Nat × Str) := [(1, "Order"), (1, "Degrees"), (1, "Tails")]
abbrev Ls : List Str := ["Order", "Degrees", "Tails", "Weights"]
section
variable {P : Program} {w : World} {K : PySem.W.Frag} {mg : Str → Option Value} {base : Heap}
theorem sc_k06_law_cell : FnScope N_k06_law_cell ["_law_script", "_law_k"] (defScope s_k06_law_cell) := ⟨rfl, rfl, rfl, by decide +kernel, rfl, by decide +kernel, by decide +kernel⟩
theorem b_k06_law_cell (L : LX P w K mg base fa fn fc) (f : Addr) (cdv : Value) (A : Around) (outer : List PySem.Env) (s0 : Shared) (H : Hp) (E : XK) (J : JX (cxOf (L2.CX P w) P w K mg base N_k06_law_cell "_law_cell" (defScope s_k06_law_cell) f cdv A outer s0 H E) (fun c d _ H' => E c d H') 0) :
    SSs (caK cs K) (cxOf (L2.CX P w) P w K mg base N_k06_law_cell "_law_cell" (defScope s_k06_law_cell) f cdv A outer s0 H E) (fun c d _ H' => E c d H') (defBody s_k06_law_cell) sd_k06_law_cell := by
  unfold sd_k06_law_cell
  exact (ss_cons (ss_if (eb_lt (ed_var 1) (ed_len (L.free 0) (ea_cons (ed_var 0) ea_nil))) (ss_one (ss_ret (em_of (ed_ix (ed_var 0) (ed_var 1))))) ss_nil) (ss_one (ss_ret (em_of ed_int))))
theorem o_k06_law_cell (L : LX P w K mg base fa fn fc) : Ok1 (caK cs K) P w K mg base "_law_cell" 1 d_k06_law_cell := ok1 (N := N_k06_law_cell) (ps := ["_law_script", "_law_k"]) (d := D_k06_law_cell) L 0 1 sc_k06_law_cell (b_k06_law_cell L) rfl rfl rfl (fun _ _ _ _ _ _ us hl => match us, hl with | [_, _], _ => rfl)

theorem sc_k06_law_weight : FnScope N_k06_law_weight ["_law_cell_here", "_law_at"] (defScope s_k06_law_weight) := ⟨rfl, rfl, rfl, by decide +kernel, rfl, by decide +kernel, by decide +kernel⟩
theorem b_k06_law_weight (L : LX P w K mg base fa fn fc) (f : Addr) (cdv : Value) (A : Around) (outer : List PySem.Env) (s0 : Shared) (H : Hp) (E : XK) (J : JX (cxOf (L2.CX P w) P w K mg base N_k06_law_weight "_law_weight" (defScope s_k06_law_weight) f cdv A outer s0 H E) (fun c d _ H' => E c d H') 0) :
    SSs (caK cs K) (cxOf (L2.CX P w) P w K mg base N_k06_law_weight "_law_weight" (defScope s_k06_law_weight) f cdv A outer s0 H E) (fun c d _ H' => E c d H') (defBody s_k06_law_weight) sd_k06_law_weight := by
  unfold sd_k06_law_weight
  exact (ss_cons (ss_if (eb_w (ew_and (eb_gtA J (ed_var 1) ed_int) (ew_and (eb_eq J (ed_mod (ed_div (ed_var 0) ed_int) ed_int) ed_int) (ew_and1 (eb_lt (ed_mod (ed_div (ed_var 0) ed_int) ed_int) (ed_var 1)))))) (ss_one (ss_ret (em_of ed_int))) ss_nil) (ss_cons (ss_if (eb_eq J (ed_mod (ed_var 0) ed_int) ed_int) (ss_one (ss_ret (em_of (ed_mod (ed_div (ed_mod (ed_mul (ed_var 0) (ed_add ed_int (ed_mul ed_int (ed_var 1)))) ed_int) ed_int) ed_int)))) ss_nil) (ss_one (ss_ret (em_of (ed_mod (ed_mul (ed_var 0) (ed_add ed_int (ed_mul ed_int (ed_var 1)))) (ed_add (ed_add (ed_pow ed_int ed_int) ed_int) (ed_var 1))))))))
theorem o_k06_law_weight (L : LX P w K mg base fa fn fc) : Ok1 (caK cs K) P w K mg base "_law_weight" 1 d_k06_law_weight := ok1 (N := N_k06_law_weight) (ps := ["_law_cell_here", "_law_at"]) (d := D_k06_law_weight) L 1 3 sc_k06_law_weight (b_k06_law_weight L) rfl rfl rfl (fun _ _ _ _ _ _ us hl => match us, hl with | [_, _], _ => rfl)

theorem sc_Weights_init : FnScope N_Weights_init ["self", "weights"] (defScope s_Weights_init) := ⟨rfl, rfl, rfl, by decide +kernel, rfl, by decide +kernel, by decide +kernel⟩
theorem b_Weights_init (L : LX P w K mg base fa fn fc) (f : Addr) (cdv : Value) (A : Around) (outer : List PySem.Env) (s0 : Shared) (H : Hp) (E : XK) (J : JX (cxOf (L2.CX P w) P w K mg base N_Weights_init "Weights.__init__" (defScope s_Weights_init) f cdv A outer s0 H E) (fun c d _ H' => E c d H') 0) :
    IM (caK cs K) (cxOf (L2.CX P w) P w K mg base N_Weights_init "Weights.__init__" (defScope s_Weights_init) f cdv A outer s0 H E) (fun c d _ H' => E c d H') Ls (defBody s_Weights_init) si_Weights := by
  unfold si_Weights sl_Weights_init_1
  exact (im_pre (ss_for J (ei_seq (ed_var 1)) (tg_name 2 J.nd) (ss_one (ss_if (eb_lt (ed_var 2) ed_int) (ss_one (ss_raise1 J (by decide +kernel) (L.glo 17) (L.fact 18))) ss_nil))) (im_set (fl_cons (fl_in L 15 16) (fl_cons (fl_in L 13 14) (fl_cons (fl_in L 11 12) (fl_cons (fl_in L 9 10) fl_nil)))) (ed_tuple (L.free 8) (ea_cons (ed_var 1) ea_nil)) (ed_var 0) im_nil))
theorem oi_Weights (L : LX P w K mg base fa fn fc) : OkI (caK cs K) P w K mg base Ls "Weights" 1 i_Weights := okI (N := N_Weights_init) (ps := ["self", "weights"]) (d := D_Weights_init) L 2 sc_Weights_init (by decide) (b_Weights_init L) rfl rfl rfl (fun _ _ _ _ _ _ us hl => match us, hl with | [_, _], _ => rfl)

theorem sc_k06_law_order : FnScope N_k06_law_order ["_law_kind", "_law_weights"] (defScope s_k06_law_order) := ⟨rfl, rfl, rfl, by decide +kernel, rfl, by decide +kernel, by decide +kernel⟩
theorem b_k06_law_order (L : LX P w K mg base fa fn fc) (f : Addr) (cdv : Value) (A : Around) (outer : List PySem.Env) (s0 : Shared) (H : Hp) (E : XK) (J : JX (cxOf (L2.CX P w) P w K mg base N_k06_law_order "_law_order" (defScope s_k06_law_order) f cdv A outer s0 H E) (fun c d _ H' => E c d H') 2) :
    SSs (caK cs K) (cxOf (L2.CX P w) P w K mg base N_k06_law_order "_law_order" (defScope s_k06_law_order) f cdv A outer s0 H E) (fun c d _ H' => E c d H') (defBody s_k06_law_order) sd_k06_law_order := by
  unfold sd_k06_law_order
  exact (ss_cons (ss_if (eb_eq J (ed_var 0) ed_int) (ss_one (ss_ret (em_of (ed_newO L (L.glo 4))))) ss_nil) (ss_cons (ss_if (eb_eq J (ed_var 0) ed_int) (ss_one (ss_ret (em_of (ed_newO L (L.glo 5))))) ss_nil) (ss_cons (ss_if (eb_eq J (ed_var 0) ed_int) (ss_one (ss_ret (em_of (ed_newO L (L.glo 6))))) ss_nil) (ss_one (ss_ret (em_of (ed_new J (oi_Weights L) (L.fact 20) (L.glo 19) (ea_cons (ed_list (L.free 7) (ea_cons (ed_var 1) ea_nil)) ea_nil))))))))
theorem o_k06_law_order (L : LX P w K mg base fa fn fc) : Ok1 (caK cs K) P w K mg base "_law_order" 3 d_k06_law_order := ok1 (N := N_k06_law_order) (ps := ["_law_kind", "_law_weights"]) (d := D_k06_law_order) L 3 21 sc_k06_law_order (b_k06_law_order L) rfl rfl rfl (fun _ _ _ _ _ _ us hl => match us, hl with | [_, _], _ => rfl)

theorem sc_k06_law_power : FnScope N_k06_law_power ["_law_cell_here", "_law_at"] (defScope s_k06_law_power) := ⟨rfl, rfl, rfl, by decide +kernel, rfl, by decide +kernel, by decide +kernel⟩
theorem b_k06_law_power (L : LX P w K mg base fa fn fc) (f : Addr) (cdv : Value) (A : Around) (outer : List PySem.Env) (s0 : Shared) (H : Hp) (E : XK) (J : JX (cxOf (L2.CX P w) P w K mg base N_k06_law_power "_law_power" (defScope s_k06_law_power) f cdv A outer s0 H E) (fun c d _ H' => E c d H') 0) :
    SSs (caK cs K) (cxOf (L2.CX P w) P w K mg base N_k06_law_power "_law_power" (defScope s_k06_law_power) f cdv A outer s0 H E) (fun c d _ H' => E c d H') (defBody s_k06_law_power) sd_k06_law_power := by
  unfold sd_k06_law_power
  exact (ss_cons (ss_if (eb_eq J (ed_mod (ed_var 0) ed_int) ed_int) (ss_one (ss_ret (em_of (ed_mod (ed_mul (ed_var 0) (ed_add ed_int (ed_mul ed_int (ed_var 1)))) (ed_add (ed_add (ed_pow ed_int ed_int) ed_int) (ed_var 1)))))) ss_nil) (ss_one (ss_ret (em_of (ed_mod (ed_div (ed_mod (ed_mul (ed_var 0) (ed_add ed_int (ed_mul ed_int (ed_var 1)))) ed_int) ed_int) ed_int)))))
theorem o_k06_law_power (L : LX P w K mg base fa fn fc) : Ok1 (caK cs K) P w K mg base "_law_power" 1 d_k06_law_power := ok1 (N := N_k06_law_power) (ps := ["_law_cell_here", "_law_at"]) (d := D_k06_law_power) L 4 22 sc_k06_law_power (b_k06_law_power L) rfl rfl rfl (fun _ _ _ _ _ _ us hl => match us, hl with | [_, _], _ => rfl)

theorem sc_Order_takes_out : FnScope N_Order_takes_out ["self", "k"] (defScope s_Order_takes_out) := ⟨rfl, rfl, rfl, by decide +kernel, rfl, by decide +kernel, by decide +kernel⟩
theorem b_Order_takes_out (L : LX P w K mg base fa fn fc) (f : Addr) (cdv : Value) (A : Around) (outer : List PySem.Env) (s0 : Shared) (H : Hp) (E : XK) (J : JX (cxOf (L2.CX P w) P w K mg base N_Order_takes_out "Order.takes_out" (defScope s_Order_takes_out) f cdv A outer s0 H E) (fun c d _ H' => E c d H') 0) :
    SSs (caK cs K) (cxOf (L2.CX P w) P w K mg base N_Order_takes_out "Order.takes_out" (defScope s_Order_takes_out) f cdv A outer s0 H E) (fun c d _ H' => E c d H') (defBody s_Order_takes_out) sd_Order_takes_out := by
  unfold sd_Order_takes_out
  exact (ss_one (ss_ret (em_of ed_bl)))
theorem o_Order_takes_out (L : LX P w K mg base fa fn fc) : OkM (caK cs K) P w K mg base "takes_out" "Order" 1 d_Order_takes_out := okM (N := N_Order_takes_out) (ps := ["self", "k"]) (d := D_Order_takes_out) L 5 15 23 sc_Order_takes_out (b_Order_takes_out L) rfl rfl rfl (fun _ _ _ _ _ _ us hl => match us, hl with | [_, _], _ => rfl)

theorem sc_Degrees_takes_out : FnScope N_Degrees_takes_out ["self", "k"] (defScope s_Degrees_takes_out) := ⟨rfl, rfl, rfl, by decide +kernel, rfl, by decide +kernel, by decide +kernel⟩
theorem b_Degrees_takes_out (L : LX P w K mg base fa fn fc) (f : Addr) (cdv : Value) (A : Around) (outer : List PySem.Env) (s0 : Shared) (H : Hp) (E : XK) (J : JX (cxOf (L2.CX P w) P w K mg base N_Degrees_takes_out "Degrees.takes_out" (defScope s_Degrees_takes_out) f cdv A outer s0 H E) (fun c d _ H' => E c d H') 0) :
    SSs (caK cs K) (cxOf (L2.CX P w) P w K mg base N_Degrees_takes_out "Degrees.takes_out" (defScope s_Degrees_takes_out) f cdv A outer s0 H E) (fun c d _ H' => E c d H') (defBody s_Degrees_takes_out) sd_Degrees_takes_out := by
  unfold sd_Degrees_takes_out
  exact (ss_one (ss_ret (em_of ed_bl)))
theorem o_Degrees_takes_out (L : LX P w K mg base fa fn fc) : OkM (caK cs K) P w K mg base "takes_out" "Degrees" 1 d_Degrees_takes_out := okM (N := N_Degrees_takes_out) (ps := ["self", "k"]) (d := D_Degrees_takes_out) L 6 13 24 sc_Degrees_takes_out (b_Degrees_takes_out L) rfl rfl rfl (fun _ _ _ _ _ _ us hl => match us, hl with | [_, _], _ => rfl)

theorem sc_Tails_takes_out : FnScope N_Tails_takes_out ["self", "k"] (defScope s_Tails_takes_out) := ⟨rfl, rfl, rfl, by decide +kernel, rfl, by decide +kernel, by decide +kernel⟩
theorem b_Tails_takes_out (L : LX P w K mg base fa fn fc) (f : Addr) (cdv : Value) (A : Around) (outer : List PySem.Env) (s0 : Shared) (H : Hp) (E : XK) (J : JX (cxOf (L2.CX P w) P w K mg base N_Tails_takes_out "Tails.takes_out" (defScope s_Tails_takes_out) f cdv A outer s0 H E) (fun c d _ H' => E c d H') 0) :
    SSs (caK cs K) (cxOf (L2.CX P w) P w K mg base N_Tails_takes_out "Tails.takes_out" (defScope s_Tails_takes_out) f cdv A outer s0 H E) (fun c d _ H' => E c d H') (defBody s_Tails_takes_out) sd_Tails_takes_out := by
  unfold sd_Tails_takes_out
  exact (ss_one (ss_ret (em_of ed_bl)))
theorem o_Tails_takes_out (L : LX P w K mg base fa fn fc) : OkM (caK cs K) P w K mg base "takes_out" "Tails" 1 d_Tails_takes_out := okM (N := N_Tails_takes_out) (ps := ["self", "k"]) (d := D_Tails_takes_out) L 7 11 25 sc_Tails_takes_out (b_Tails_takes_out L) rfl rfl rfl (fun _ _ _ _ _ _ us hl => match us, hl with | [_, _], _ => rfl)

theorem sc_Weights_takes_out : FnScope N_Weights_takes_out ["self", "k"] (defScope s_Weights_takes_out) := ⟨rfl, rfl, rfl, by decide +kernel, rfl, by decide +kernel, by decide +kernel⟩
theorem b_Weights_takes_out (L : LX P w K mg base fa fn fc) (f : Addr) (cdv : Value) (A : Around) (outer : List PySem.Env) (s0 : Shared) (H : Hp) (E : XK) (J : JX (cxOf (L2.CX P w) P w K mg base N_Weights_takes_out "Weights.takes_out" (defScope s_Weights_takes_out) f cdv A outer s0 H E) (fun c d _ H' => E c d H') 0) :
    SSs (caK cs K) (cxOf (L2.CX P w) P w K mg base N_Weights_takes_out "Weights.takes_out" (defScope s_Weights_takes_out) f cdv A outer s0 H E) (fun c d _ H' => E c d H') (defBody s_Weights_takes_out) sd_Weights_takes_out := by
  unfold sd_Weights_takes_out
  exact (ss_one (ss_ret (em_of (ed_eq J (ed_maxD J (L.free 26) (ed_slice (ed_fld ["Weights"] (ed_var 0) (fl_cons (fl_in L 9 10) fl_nil)) (eo_some (ed_var 1)) eo_none) ed_int) ed_int))))
theorem o_Weights_takes_out (L : LX P w K mg base fa fn fc) : OkM (caK cs K) P w K mg base "takes_out" "Weights" 1 d_Weights_takes_out := okM (N := N_Weights_takes_out) (ps := ["self", "k"]) (d := D_Weights_takes_out) L 8 9 27 sc_Weights_takes_out (b_Weights_takes_out L) rfl rfl rfl (fun _ _ _ _ _ _ us hl => match us, hl with | [_, _], _ => rfl)

theorem sc_k06_law_only : FnScope N_k06_law_only ["_law_at", "_law_power_here", "_law_many"] (defScope s_k06_law_only) := ⟨rfl, rfl, rfl, by decide +kernel, rfl, by decide +kernel, by decide +kernel⟩
theorem b_k06_law_only (L : LX P w K mg base fa fn fc) (f : Addr) (cdv : Value) (A : Around) (outer : List PySem.Env) (s0 : Shared) (H : Hp) (E : XK) (J : JX (cxOf (L2.CX P w) P w K mg base N_k06_law_only "_law_only" (defScope s_k06_law_only) f cdv A outer s0 H E) (fun c d _ H' => E c d H') 0) :
    SSs (caK cs K) (cxOf (L2.CX P w) P w K mg base N_k06_law_only "_law_only" (defScope s_k06_law_only) f cdv A outer s0 H E) (fun c d _ H' => E c d H') (defBody s_k06_law_only) sd_k06_law_only := by
  unfold sd_k06_law_only
  exact (ss_one (ss_ret (em_of (ed_tuple (L.free 8) (ea_cons (ed_of (em_lc1 (lc_ok [("_law_k", 3)] J (ei_range1 (L.free 2) (ea_cons (ed_var 2) ea_nil)) (blkOk_by (N := N_k06_law_only) (sc := defScope s_k06_law_only) (by decide +kernel)) (fun _ _ _ _ _ J => (tg_name 3 J.nd)) (fun _ _ _ _ _ J => et_nil) (fun _ _ _ _ _ J => (ed_if (eb_eq J (ed_var 3) (ed_var 0)) (ed_var 1) ed_int)) (by decide)))) ea_nil)))))
theorem o_k06_law_only (L : LX P w K mg base fa fn fc) : Ok1 (caK cs K) P w K mg base "_law_only" 1 d_k06_law_only := ok1 (N := N_k06_law_only) (ps := ["_law_at", "_law_power_here", "_law_many"]) (d := D_k06_law_only) L 9 30 sc_k06_law_only (b_k06_law_only L) rfl rfl rfl (fun _ _ _ _ _ _ us hl => match us, hl with | [_, _, _], _ => rfl)

theorem sc_Order_rank : FnScope N_Order_rank ["self", "term"] (defScope s_Order_rank) := ⟨rfl, rfl, rfl, by decide +kernel, rfl, by decide +kernel, by decide +kernel⟩
theorem b_Order_rank (L : LX P w K mg base fa fn fc) (f : Addr) (cdv : Value) (A : Around) (outer : List PySem.Env) (s0 : Shared) (H : Hp) (E : XK) (J : JX (cxOf (L2.CX P w) P w K mg base N_Order_rank "Order.rank" (defScope s_Order_rank) f cdv A outer s0 H E) (fun c d _ H' => E c d H') 0) :
    SSs (caK cs K) (cxOf (L2.CX P w) P w K mg base N_Order_rank "Order.rank" (defScope s_Order_rank) f cdv A outer s0 H E) (fun c d _ H' => E c d H') (defBody s_Order_rank) sd_Order_rank := by
  unfold sd_Order_rank
  exact (ss_one (ss_ret (em_of (ed_var 1))))
theorem o_Order_rank (L : LX P w K mg base fa fn fc) : OkM (caK cs K) P w K mg base "rank" "Order" 1 d_Order_rank := okM (N := N_Order_rank) (ps := ["self", "term"]) (d := D_Order_rank) L 10 15 31 sc_Order_rank (b_Order_rank L) rfl rfl rfl (fun _ _ _ _ _ _ us hl => match us, hl with | [_, _], _ => rfl)

theorem sc_degree : FnScope N_degree ["term"] (defScope s_degree) := ⟨rfl, rfl, rfl, by decide +kernel, rfl, by decide +kernel, by decide +kernel⟩
theorem b_degree (L : LX P w K mg base fa fn fc) (f : Addr) (cdv : Value) (A : Around) (outer : List PySem.Env) (s0 : Shared) (H : Hp) (E : XK) (J : JX (cxOf (L2.CX P w) P w K mg base N_degree "degree" (defScope s_degree) f cdv A outer s0 H E) (fun c d _ H' => E c d H') 0) :
    SSs (caK cs K) (cxOf (L2.CX P w) P w K mg base N_degree "degree" (defScope s_degree) f cdv A outer s0 H E) (fun c d _ H' => E c d H') (defBody s_degree) sd_degree := by
  unfold sd_degree
  exact (ss_one (ss_ret (em_of (ed_sum J (L.free 32) (ea_cons (ed_var 0) ea_nil)))))
theorem o_degree (L : LX P w K mg base fa fn fc) : Ok1 (caK cs K) P w K mg base "degree" 1 d_degree := ok1 (N := N_degree) (ps := ["term"]) (d := D_degree) L 11 33 sc_degree (b_degree L) rfl rfl rfl (fun _ _ _ _ _ _ us hl => match us, hl with | [_], _ => rfl)

theorem sc_Degrees_rank : FnScope N_Degrees_rank ["self", "term"] (defScope s_Degrees_rank) := ⟨rfl, rfl, rfl, by decide +kernel, rfl, by decide +kernel, by decide +kernel⟩
theorem b_Degrees_rank (L : LX P w K mg base fa fn fc) (f : Addr) (cdv : Value) (A : Around) (outer : List PySem.Env) (s0 : Shared) (H : Hp) (E : XK) (J : JX (cxOf (L2.CX P w) P w K mg base N_Degrees_rank "Degrees.rank" (defScope s_Degrees_rank) f cdv A outer s0 H E) (fun c d _ H' => E c d H') 1) :
    SSs (caK cs K) (cxOf (L2.CX P w) P w K mg base N_Degrees_rank "Degrees.rank" (defScope s_Degrees_rank) f cdv A outer s0 H E) (fun c d _ H' => E c d H') (defBody s_Degrees_rank) sd_Degrees_rank := by
  unfold sd_Degrees_rank
  exact (ss_one (ss_ret (em_of (ed_add (ed_tup (ea_cons (ed_of (em_call1 J (o_degree L) (ea_cons (ed_var 1) ea_nil))) ea_nil)) (ed_var 1)))))
theorem o_Degrees_rank (L : LX P w K mg base fa fn fc) : OkM (caK cs K) P w K mg base "rank" "Degrees" 2 d_Degrees_rank := okM (N := N_Degrees_rank) (ps := ["self", "term"]) (d := D_Degrees_rank) L 12 13 34 sc_Degrees_rank (b_Degrees_rank L) rfl rfl rfl (fun _ _ _ _ _ _ us hl => match us, hl with | [_, _], _ => rfl)

theorem sc_Tails_rank : FnScope N_Tails_rank ["self", "term"] (defScope s_Tails_rank) := ⟨rfl, rfl, rfl, by decide +kernel, rfl, by decide +kernel, by decide +kernel⟩
theorem b_Tails_rank (L : LX P w K mg base fa fn fc) (f : Addr) (cdv : Value) (A : Around) (outer : List PySem.Env) (s0 : Shared) (H : Hp) (E : XK) (J : JX (cxOf (L2.CX P w) P w K mg base N_Tails_rank "Tails.rank" (defScope s_Tails_rank) f cdv A outer s0 H E) (fun c d _ H' => E c d H') 1) :
    SSs (caK cs K) (cxOf (L2.CX P w) P w K mg base N_Tails_rank "Tails.rank" (defScope s_Tails_rank) f cdv A outer s0 H E) (fun c d _ H' => E c d H') (defBody s_Tails_rank) sd_Tails_rank := by
  unfold sd_Tails_rank
  exact (ss_one (ss_ret (em_of (ed_add (ed_tup (ea_cons (ed_of (em_call1 J (o_degree L) (ea_cons (ed_var 1) ea_nil))) ea_nil)) (ed_tuple (L.free 8) (ea_cons (ed_of (em_lc1 (lc_ok [("power", 2)] J (ei_rev (L.free 35) (ed_var 1)) (blkOk_by (N := N_Tails_rank) (sc := defScope s_Tails_rank) (by decide +kernel)) (fun _ _ _ _ _ J => (tg_name 2 J.nd)) (fun _ _ _ _ _ J => et_nil) (fun _ _ _ _ _ J => (ed_neg (ed_var 2))) (by decide)))) ea_nil))))))
theorem o_Tails_rank (L : LX P w K mg base fa fn fc) : OkM (caK cs K) P w K mg base "rank" "Tails" 2 d_Tails_rank := okM (N := N_Tails_rank) (ps := ["self", "term"]) (d := D_Tails_rank) L 13 11 36 sc_Tails_rank (b_Tails_rank L) rfl rfl rfl (fun _ _ _ _ _ _ us hl => match us, hl with | [_, _], _ => rfl)

theorem sc_Weights_rank : FnScope N_Weights_rank ["self", "term"] (defScope s_Weights_rank) := ⟨rfl, rfl, rfl, by decide +kernel, rfl, by decide +kernel, by decide +kernel⟩
theorem b_Weights_rank (L : LX P w K mg base fa fn fc) (f : Addr) (cdv : Value) (A : Around) (outer : List PySem.Env) (s0 : Shared) (H : Hp) (E : XK) (J : JX (cxOf (L2.CX P w) P w K mg base N_Weights_rank "Weights.rank" (defScope s_Weights_rank) f cdv A outer s0 H E) (fun c d _ H' => E c d H') 0) :
    SSs (caK cs K) (cxOf (L2.CX P w) P w K mg base N_Weights_rank "Weights.rank" (defScope s_Weights_rank) f cdv A outer s0 H E) (fun c d _ H' => E c d H') (defBody s_Weights_rank) sd_Weights_rank := by
  unfold sd_Weights_rank
  exact (ss_one (ss_ret (em_of (ed_add (ed_tup (ea_cons (ed_sum J (L.free 32) (ea_cons (ed_of (em_lc1 (lc_ok [("a", 2), ("w", 3)] J (ei_zip (L.free 37) (ea_cons (ed_var 1) (ea_cons (ed_fld ["Weights"] (ed_var 0) (fl_cons (fl_in L 9 10) fl_nil)) ea_nil))) (blkOk_by (N := N_Weights_rank) (sc := defScope s_Weights_rank) (by decide +kernel)) (fun _ _ _ _ _ J => (tg_tup J.calm (tgs_cons (tg_name 2 J.nd) (tgs_cons (tg_name 3 J.nd) tgs_nil)))) (fun _ _ _ _ _ J => et_nil) (fun _ _ _ _ _ J => (ed_mul (ed_var 2) (ed_var 3))) (by decide)))) ea_nil)) ea_nil)) (ed_var 1)))))
theorem o_Weights_rank (L : LX P w K mg base fa fn fc) : OkM (caK cs K) P w K mg base "rank" "Weights" 1 d_Weights_rank := okM (N := N_Weights_rank) (ps := ["self", "term"]) (d := D_Weights_rank) L 14 9 38 sc_Weights_rank (b_Weights_rank L) rfl rfl rfl (fun _ _ _ _ _ _ us hl => match us, hl with | [_, _], _ => rfl)

theorem sc_Order_goes_before : FnScope N_Order_goes_before ["self", "one", "other"] (defScope s_Order_goes_before) := ⟨rfl, rfl, rfl, by decide +kernel, rfl, by decide +kernel, by decide +kernel⟩
theorem b_Order_goes_before (L : LX P w K mg base fa fn fc) (f : Addr) (cdv : Value) (A : Around) (outer : List PySem.Env) (s0 : Shared) (H : Hp) (E : XK) (J : JX (cxOf (L2.CX P w) P w K mg base N_Order_goes_before "Order.goes_before" (defScope s_Order_goes_before) f cdv A outer s0 H E) (fun c d _ H' => E c d H') 2) :
    SSs (caK cs K) (cxOf (L2.CX P w) P w K mg base N_Order_goes_before "Order.goes_before" (defScope s_Order_goes_before) f cdv A outer s0 H E) (fun c d _ H' => E c d H') (defBody s_Order_goes_before) sd_Order_goes_before := by
  unfold sd_Order_goes_before
  exact (ss_one (ss_ret (em_of (ed_gtA J (ed_of (em_meth J (j := 2) (by decide) (mt_cons (OkM.mt (fun _ h => (caK_eq h).2) (o_Order_rank L) (by decide)) (mt_cons (OkM.mt (fun _ h => (caK_eq h).2) (o_Degrees_rank L) (by decide)) (mt_cons (OkM.mt (fun _ h => (caK_eq h).2) (o_Tails_rank L) (by decide)) (mt_cons (OkM.mt (fun _ h => (caK_eq h).2) (o_Weights_rank L) (by decide)) mt_nil)))) (ed_var 0) (ea_cons (ed_var 1) ea_nil))) (ed_of (em_meth J (j := 2) (by decide) (mt_cons (OkM.mt (fun _ h => (caK_eq h).2) (o_Order_rank L) (by decide)) (mt_cons (OkM.mt (fun _ h => (caK_eq h).2) (o_Degrees_rank L) (by decide)) (mt_cons (OkM.mt (fun _ h => (caK_eq h).2) (o_Tails_rank L) (by decide)) (mt_cons (OkM.mt (fun _ h => (caK_eq h).2) (o_Weights_rank L) (by decide)) mt_nil)))) (ed_var 0) (ea_cons (ed_var 2) ea_nil)))))))
theorem o_Order_goes_before (L : LX P w K mg base fa fn fc) : OkM (caK cs K) P w K mg base "goes_before" "Order" 3 d_Order_goes_before := okM (N := N_Order_goes_before) (ps := ["self", "one", "other"]) (d := D_Order_goes_before) L 15 15 39 sc_Order_goes_before (b_Order_goes_before L) rfl rfl rfl (fun _ _ _ _ _ _ us hl => match us, hl with | [_, _, _], _ => rfl)
theorem o_Degrees_goes_before (L : LX P w K mg base fa fn fc) : OkM (caK cs K) P w K mg base "goes_before" "Degrees" 3 d_Order_goes_before := okM (N := N_Order_goes_before) (ps := ["self", "one", "other"]) (d := D_Degrees_goes_before) L 16 13 40 sc_Order_goes_before (b_Order_goes_before L) rfl rfl rfl (fun _ _ _ _ _ _ us hl => match us, hl with | [_, _, _], _ => rfl)
theorem o_Tails_goes_before (L : LX P w K mg base fa fn fc) : OkM (caK cs K) P w K mg base "goes_before" "Tails" 3 d_Order_goes_before := okM (N := N_Order_goes_before) (ps := ["self", "one", "other"]) (d := D_Tails_goes_before) L 17 11 41 sc_Order_goes_before (b_Order_goes_before L) rfl rfl rfl (fun _ _ _ _ _ _ us hl => match us, hl with | [_, _, _], _ => rfl)
theorem o_Weights_goes_before (L : LX P w K mg base fa fn fc) : OkM (caK cs K) P w K mg base "goes_before" "Weights" 3 d_Order_goes_before := okM (N := N_Order_goes_before) (ps := ["self", "one", "other"]) (d := D_Weights_goes_before) L 18 9 42 sc_Order_goes_before (b_Order_goes_before L) rfl rfl rfl (fun _ _ _ _ _ _ us hl => match us, hl with | [_, _, _], _ => rfl)

theorem sc_k06_law_not_out : FnScope N_k06_law_not_out ["_law_order_here", "_law_kind", "_law_weights", "_law_k", "_law_many"] (defScope s_k06_law_not_out) := ⟨rfl, rfl, rfl, by decide +kernel, rfl, by decide +kernel, by decide +kernel⟩
theorem b_k06_law_not_out (L : LX P w K mg base fa fn fc) (f : Addr) (cdv : Value) (A : Around) (outer : List PySem.Env) (s0 : Shared) (H : Hp) (E : XK) (J : JX (cxOf (L2.CX P w) P w K mg base N_k06_law_not_out "_law_not_out" (defScope s_k06_law_not_out) f cdv A outer s0 H E) (fun c d _ H' => E c d H') 3) :
    SSs (caK cs K) (cxOf (L2.CX P w) P w K mg base N_k06_law_not_out "_law_not_out" (defScope s_k06_law_not_out) f cdv A outer s0 H E) (fun c d _ H' => E c d H') (defBody s_k06_law_not_out) sd_k06_law_not_out := by
  unfold sd_k06_law_not_out sl_k06_law_not_out_1
  exact (ss_cons (ss_setN 5 J.nd (em_of (ed_of (em_call1 J (o_k06_law_only L) (ea_cons ed_int (ea_cons ed_int (ea_cons (ed_var 4) ea_nil))))))) (ss_cons (ss_for J (ei_range2 (L.free 2) (ea_cons (ed_var 3) (ea_cons (ed_var 4) ea_nil))) (tg_name 6 J.nd) (ss_cons (ss_setN 7 J.nd (em_of ed_int)) (ss_cons (ss_if (eb_eq J (ed_var 1) ed_int) (ss_one (ss_setN 7 J.nd (em_of (ed_add (ed_ix (ed_var 2) ed_int) ed_int)))) ss_nil) (ss_one (ss_if (eb_val (ed_of (em_meth J (j := 3) (by decide) (mt_cons (OkM.mt (fun _ h => (caK_eq h).2) (o_Order_goes_before L) (by decide)) (mt_cons (OkM.mt (fun _ h => (caK_eq h).2) (o_Degrees_goes_before L) (by decide)) (mt_cons (OkM.mt (fun _ h => (caK_eq h).2) (o_Tails_goes_before L) (by decide)) (mt_cons (OkM.mt (fun _ h => (caK_eq h).2) (o_Weights_goes_before L) (by decide)) mt_nil)))) (ed_var 0) (ea_cons (ed_of (em_call1 J (o_k06_law_only L) (ea_cons (ed_var 6) (ea_cons (ed_var 7) (ea_cons (ed_var 4) ea_nil))))) (ea_cons (ed_var 5) ea_nil))))) (ss_one (ss_ret (em_of ed_bl))) ss_nil))))) (ss_one (ss_ret (em_of ed_bl)))))
theorem o_k06_law_not_out (L : LX P w K mg base fa fn fc) : Ok1 (caK cs K) P w K mg base "_law_not_out" 4 d_k06_law_not_out := ok1 (N := N_k06_law_not_out) (ps := ["_law_order_here", "_law_kind", "_law_weights", "_law_k", "_law_many"]) (d := D_k06_law_not_out) L 19 43 sc_k06_law_not_out (b_k06_law_not_out L) rfl rfl rfl (fun _ _ _ _ _ _ us hl => match us, hl with | [_, _, _, _, _], _ => rfl)

theorem sc_k06_law_out : FnScope N_k06_law_out ["_law_order_here", "_law_a", "_law_b", "_law_k"] (defScope s_k06_law_out) := ⟨rfl, rfl, rfl, by decide +kernel, rfl, by decide +kernel, by decide +kernel⟩
theorem b_k06_law_out (L : LX P w K mg base fa fn fc) (f : Addr) (cdv : Value) (A : Around) (outer : List PySem.Env) (s0 : Shared) (H : Hp) (E : XK) (J : JX (cxOf (L2.CX P w) P w K mg base N_k06_law_out "_law_out" (defScope s_k06_law_out) f cdv A outer s0 H E) (fun c d _ H' => E c d H') 3) :
    SSs (caK cs K) (cxOf (L2.CX P w) P w K mg base N_k06_law_out "_law_out" (defScope s_k06_law_out) f cdv A outer s0 H E) (fun c d _ H' => E c d H') (defBody s_k06_law_out) sd_k06_law_out := by
  unfold sd_k06_law_out
  exact (ss_cons (ss_setN 4 J.nd (em_of (ed_tuple (L.free 8) (ea_cons (ed_of (em_lc1 (lc_ok [("_law_at", 6)] J (ei_range1 (L.free 2) (ea_cons (ed_len (L.free 0) (ea_cons (ed_var 1) ea_nil)) ea_nil)) (blkOk_by (N := N_k06_law_out) (sc := defScope s_k06_law_out) (by decide +kernel)) (fun _ _ _ _ _ J => (tg_name 6 J.nd)) (fun _ _ _ _ _ J => et_nil) (fun _ _ _ _ _ J => (ed_if (eb_ge (ed_var 6) (ed_var 3)) (ed_ix (ed_var 1) (ed_var 6)) (ed_mod (ed_ix (ed_var 1) (ed_var 6)) ed_int))) (by decide)))) ea_nil)))) (ss_cons (ss_setN 5 J.nd (em_of (ed_tuple (L.free 8) (ea_cons (ed_of (em_lc1 (lc_ok [("_law_at", 6)] J (ei_range1 (L.free 2) (ea_cons (ed_len (L.free 0) (ea_cons (ed_var 2) ea_nil)) ea_nil)) (blkOk_by (N := N_k06_law_out) (sc := defScope s_k06_law_out) (by decide +kernel)) (fun _ _ _ _ _ J => (tg_name 6 J.nd)) (fun _ _ _ _ _ J => et_nil) (fun _ _ _ _ _ J => (ed_if (eb_ge (ed_var 6) (ed_var 3)) (ed_ix (ed_var 2) (ed_var 6)) ed_int)) (by decide)))) ea_nil)))) (ss_cons (ss_if (eb_eq J (ed_sum J (L.free 32) (ea_cons (ed_slice (ed_var 4) eo_none (eo_some (ed_var 3))) ea_nil)) ed_int) (ss_one (ss_setN 4 J.nd (em_of (ed_add (ed_tup (ea_cons ed_int ea_nil)) (ed_slice (ed_var 4) (eo_some ed_int) eo_none))))) ss_nil) (ss_one (ss_ret (em_meth J (j := 3) (by decide) (mt_cons (OkM.mt (fun _ h => (caK_eq h).2) (o_Order_goes_before L) (by decide)) (mt_cons (OkM.mt (fun _ h => (caK_eq h).2) (o_Degrees_goes_before L) (by decide)) (mt_cons (OkM.mt (fun _ h => (caK_eq h).2) (o_Tails_goes_before L) (by decide)) (mt_cons (OkM.mt (fun _ h => (caK_eq h).2) (o_Weights_goes_before L) (by decide)) mt_nil)))) (ed_var 0) (ea_cons (ed_var 4) (ea_cons (ed_var 5) ea_nil))))))))
theorem o_k06_law_out (L : LX P w K mg base fa fn fc) : Ok1 (caK cs K) P w K mg base "_law_out" 4 d_k06_law_out := ok1 (N := N_k06_law_out) (ps := ["_law_order_here", "_law_a", "_law_b", "_law_k"]) (d := D_k06_law_out) L 20 44 sc_k06_law_out (b_k06_law_out L) rfl rfl rfl (fun _ _ _ _ _ _ us hl => match us, hl with | [_, _, _, _], _ => rfl)

theorem sc_k06_law_three : FnScope N_k06_law_three ["_law_order_here", "_law_a", "_law_b", "_law_c"] (defScope s_k06_law_three) := ⟨rfl, rfl, rfl, by decide +kernel, rfl, by decide +kernel, by decide +kernel⟩
theorem b_k06_law_three (L : LX P w K mg base fa fn fc) (f : Addr) (cdv : Value) (A : Around) (outer : List PySem.Env) (s0 : Shared) (H : Hp) (E : XK) (J : JX (cxOf (L2.CX P w) P w K mg base N_k06_law_three "_law_three" (defScope s_k06_law_three) f cdv A outer s0 H E) (fun c d _ H' => E c d H') 3) :
    SSs (caK cs K) (cxOf (L2.CX P w) P w K mg base N_k06_law_three "_law_three" (defScope s_k06_law_three) f cdv A outer s0 H E) (fun c d _ H' => E c d H') (defBody s_k06_law_three) sd_k06_law_three := by
  unfold sd_k06_law_three
  exact (ss_cons (ss_setN 4 J.nd (em_of (ed_tuple (L.free 8) (ea_cons (ed_of (em_lc1 (lc_ok [("_law_power_here", 7)] J (ei_seq (ed_var 1)) (blkOk_by (N := N_k06_law_three) (sc := defScope s_k06_law_three) (by decide +kernel)) (fun _ _ _ _ _ J => (tg_name 7 J.nd)) (fun _ _ _ _ _ J => et_nil) (fun _ _ _ _ _ J => ed_int) (by decide)))) ea_nil)))) (ss_cons (ss_if (eb_w (ew_or (eb_val (ed_of (em_meth J (j := 3) (by decide) (mt_cons (OkM.mt (fun _ h => (caK_eq h).2) (o_Order_goes_before L) (by decide)) (mt_cons (OkM.mt (fun _ h => (caK_eq h).2) (o_Degrees_goes_before L) (by decide)) (mt_cons (OkM.mt (fun _ h => (caK_eq h).2) (o_Tails_goes_before L) (by decide)) (mt_cons (OkM.mt (fun _ h => (caK_eq h).2) (o_Weights_goes_before L) (by decide)) mt_nil)))) (ed_var 0) (ea_cons (ed_var 1) (ea_cons (ed_var 1) ea_nil))))) (ew_or1 (eb_val (ed_of (em_meth J (j := 3) (by decide) (mt_cons (OkM.mt (fun _ h => (caK_eq h).2) (o_Order_goes_before L) (by decide)) (mt_cons (OkM.mt (fun _ h => (caK_eq h).2) (o_Degrees_goes_before L) (by decide)) (mt_cons (OkM.mt (fun _ h => (caK_eq h).2) (o_Tails_goes_before L) (by decide)) (mt_cons (OkM.mt (fun _ h => (caK_eq h).2) (o_Weights_goes_before L) (by decide)) mt_nil)))) (ed_var 0) (ea_cons (ed_var 4) (ea_cons (ed_var 1) ea_nil)))))))) (ss_one (ss_ret (em_of ed_bl))) ss_nil) (ss_cons (ss_if (eb_w (ew_and (eb_ne J (ed_var 1) (ed_var 4)) (ew_and1 (eb_not (eb_val (ed_of (em_meth J (j := 3) (by decide) (mt_cons (OkM.mt (fun _ h => (caK_eq h).2) (o_Order_goes_before L) (by decide)) (mt_cons (OkM.mt (fun _ h => (caK_eq h).2) (o_Degrees_goes_before L) (by decide)) (mt_cons (OkM.mt (fun _ h => (caK_eq h).2) (o_Tails_goes_before L) (by decide)) (mt_cons (OkM.mt (fun _ h => (caK_eq h).2) (o_Weights_goes_before L) (by decide)) mt_nil)))) (ed_var 0) (ea_cons (ed_var 1) (ea_cons (ed_var 4) ea_nil))))))))) (ss_one (ss_ret (em_of ed_bl))) ss_nil) (ss_cons (ss_if (eb_w (ew_and (eb_ne J (ed_var 1) (ed_var 2)) (ew_and1 (eb_eq J (ed_of (em_meth J (j := 3) (by decide) (mt_cons (OkM.mt (fun _ h => (caK_eq h).2) (o_Order_goes_before L) (by decide)) (mt_cons (OkM.mt (fun _ h => (caK_eq h).2) (o_Degrees_goes_before L) (by decide)) (mt_cons (OkM.mt (fun _ h => (caK_eq h).2) (o_Tails_goes_before L) (by decide)) (mt_cons (OkM.mt (fun _ h => (caK_eq h).2) (o_Weights_goes_before L) (by decide)) mt_nil)))) (ed_var 0) (ea_cons (ed_var 1) (ea_cons (ed_var 2) ea_nil)))) (ed_of (em_meth J (j := 3) (by decide) (mt_cons (OkM.mt (fun _ h => (caK_eq h).2) (o_Order_goes_before L) (by decide)) (mt_cons (OkM.mt (fun _ h => (caK_eq h).2) (o_Degrees_goes_before L) (by decide)) (mt_cons (OkM.mt (fun _ h => (caK_eq h).2) (o_Tails_goes_before L) (by decide)) (mt_cons (OkM.mt (fun _ h => (caK_eq h).2) (o_Weights_goes_before L) (by decide)) mt_nil)))) (ed_var 0) (ea_cons (ed_var 2) (ea_cons (ed_var 1) ea_nil)))))))) (ss_one (ss_ret (em_of ed_bl))) ss_nil) (ss_cons (ss_if (eb_w (ew_and (eb_eq J (ed_var 1) (ed_var 2)) (ew_and1 (eb_w (ew_or (eb_val (ed_of (em_meth J (j := 3) (by decide) (mt_cons (OkM.mt (fun _ h => (caK_eq h).2) (o_Order_goes_before L) (by decide)) (mt_cons (OkM.mt (fun _ h => (caK_eq h).2) (o_Degrees_goes_before L) (by decide)) (mt_cons (OkM.mt (fun _ h => (caK_eq h).2) (o_Tails_goes_before L) (by decide)) (mt_cons (OkM.mt (fun _ h => (caK_eq h).2) (o_Weights_goes_before L) (by decide)) mt_nil)))) (ed_var 0) (ea_cons (ed_var 1) (ea_cons (ed_var 2) ea_nil))))) (ew_or1 (eb_val (ed_of (em_meth J (j := 3) (by decide) (mt_cons (OkM.mt (fun _ h => (caK_eq h).2) (o_Order_goes_before L) (by decide)) (mt_cons (OkM.mt (fun _ h => (caK_eq h).2) (o_Degrees_goes_before L) (by decide)) (mt_cons (OkM.mt (fun _ h => (caK_eq h).2) (o_Tails_goes_before L) (by decide)) (mt_cons (OkM.mt (fun _ h => (caK_eq h).2) (o_Weights_goes_before L) (by decide)) mt_nil)))) (ed_var 0) (ea_cons (ed_var 2) (ea_cons (ed_var 1) ea_nil))))))))))) (ss_one (ss_ret (em_of ed_bl))) ss_nil) (ss_cons (ss_if (eb_w (ew_and (eb_val (ed_of (em_meth J (j := 3) (by decide) (mt_cons (OkM.mt (fun _ h => (caK_eq h).2) (o_Order_goes_before L) (by decide)) (mt_cons (OkM.mt (fun _ h => (caK_eq h).2) (o_Degrees_goes_before L) (by decide)) (mt_cons (OkM.mt (fun _ h => (caK_eq h).2) (o_Tails_goes_before L) (by decide)) (mt_cons (OkM.mt (fun _ h => (caK_eq h).2) (o_Weights_goes_before L) (by decide)) mt_nil)))) (ed_var 0) (ea_cons (ed_var 1) (ea_cons (ed_var 2) ea_nil))))) (ew_and (eb_val (ed_of (em_meth J (j := 3) (by decide) (mt_cons (OkM.mt (fun _ h => (caK_eq h).2) (o_Order_goes_before L) (by decide)) (mt_cons (OkM.mt (fun _ h => (caK_eq h).2) (o_Degrees_goes_before L) (by decide)) (mt_cons (OkM.mt (fun _ h => (caK_eq h).2) (o_Tails_goes_before L) (by decide)) (mt_cons (OkM.mt (fun _ h => (caK_eq h).2) (o_Weights_goes_before L) (by decide)) mt_nil)))) (ed_var 0) (ea_cons (ed_var 2) (ea_cons (ed_var 3) ea_nil))))) (ew_and1 (eb_not (eb_val (ed_of (em_meth J (j := 3) (by decide) (mt_cons (OkM.mt (fun _ h => (caK_eq h).2) (o_Order_goes_before L) (by decide)) (mt_cons (OkM.mt (fun _ h => (caK_eq h).2) (o_Degrees_goes_before L) (by decide)) (mt_cons (OkM.mt (fun _ h => (caK_eq h).2) (o_Tails_goes_before L) (by decide)) (mt_cons (OkM.mt (fun _ h => (caK_eq h).2) (o_Weights_goes_before L) (by decide)) mt_nil)))) (ed_var 0) (ea_cons (ed_var 1) (ea_cons (ed_var 3) ea_nil)))))))))) (ss_one (ss_ret (em_of ed_bl))) ss_nil) (ss_cons (ss_setN 5 J.nd (em_of (ed_tuple (L.free 8) (ea_cons (ed_of (em_lc1 (lc_ok [("_law_x", 8), ("_law_y", 9)] J (ei_zip (L.free 37) (ea_cons (ed_var 1) (ea_cons (ed_var 3) ea_nil))) (blkOk_by (N := N_k06_law_three) (sc := defScope s_k06_law_three) (by decide +kernel)) (fun _ _ _ _ _ J => (tg_tup J.calm (tgs_cons (tg_name 8 J.nd) (tgs_cons (tg_name 9 J.nd) tgs_nil)))) (fun _ _ _ _ _ J => et_nil) (fun _ _ _ _ _ J => (ed_add (ed_var 8) (ed_var 9))) (by decide)))) ea_nil)))) (ss_cons (ss_setN 6 J.nd (em_of (ed_tuple (L.free 8) (ea_cons (ed_of (em_lc1 (lc_ok [("_law_x", 8), ("_law_y", 9)] J (ei_zip (L.free 37) (ea_cons (ed_var 2) (ea_cons (ed_var 3) ea_nil))) (blkOk_by (N := N_k06_law_three) (sc := defScope s_k06_law_three) (by decide +kernel)) (fun _ _ _ _ _ J => (tg_tup J.calm (tgs_cons (tg_name 8 J.nd) (tgs_cons (tg_name 9 J.nd) tgs_nil)))) (fun _ _ _ _ _ J => et_nil) (fun _ _ _ _ _ J => (ed_add (ed_var 8) (ed_var 9))) (by decide)))) ea_nil)))) (ss_one (ss_ret (em_of (ed_eq J (ed_of (em_meth J (j := 3) (by decide) (mt_cons (OkM.mt (fun _ h => (caK_eq h).2) (o_Order_goes_before L) (by decide)) (mt_cons (OkM.mt (fun _ h => (caK_eq h).2) (o_Degrees_goes_before L) (by decide)) (mt_cons (OkM.mt (fun _ h => (caK_eq h).2) (o_Tails_goes_before L) (by decide)) (mt_cons (OkM.mt (fun _ h => (caK_eq h).2) (o_Weights_goes_before L) (by decide)) mt_nil)))) (ed_var 0) (ea_cons (ed_var 5) (ea_cons (ed_var 6) ea_nil)))) (ed_of (em_meth J (j := 3) (by decide) (mt_cons (OkM.mt (fun _ h => (caK_eq h).2) (o_Order_goes_before L) (by decide)) (mt_cons (OkM.mt (fun _ h => (caK_eq h).2) (o_Degrees_goes_before L) (by decide)) (mt_cons (OkM.mt (fun _ h => (caK_eq h).2) (o_Tails_goes_before L) (by decide)) (mt_cons (OkM.mt (fun _ h => (caK_eq h).2) (o_Weights_goes_before L) (by decide)) mt_nil)))) (ed_var 0) (ea_cons (ed_var 1) (ea_cons (ed_var 2) ea_nil))))))))))))))))
theorem o_k06_law_three (L : LX P w K mg base fa fn fc) : Ok1 (caK cs K) P w K mg base "_law_three" 4 d_k06_law_three := ok1 (N := N_k06_law_three) (ps := ["_law_order_here", "_law_a", "_law_b", "_law_c"]) (d := D_k06_law_three) L 21 45 sc_k06_law_three (b_k06_law_three L) rfl rfl rfl (fun _ _ _ _ _ _ us hl => match us, hl with | [_, _, _, _], _ => rfl)

theorem sc_k06_law : FnScope N_k06_law ["_law_script"] (defScope s_k06_law) := ⟨rfl, rfl, rfl, by decide +kernel, rfl, by decide +kernel, by decide +kernel⟩
theorem b_k06_law (L : LX P w K mg base fa fn fc) (f : Addr) (cdv : Value) (A : Around) (outer : List PySem.Env) (s0 : Shared) (H : Hp) (E : XK) (J : JX (cxOf (L2.CX P w) P w K mg base N_k06_law "law" (defScope s_k06_law) f cdv A outer s0 H E) (fun c d _ H' => E c d H') 4) :
    SSs (caK cs K) (cxOf (L2.CX P w) P w K mg base N_k06_law "law" (defScope s_k06_law) f cdv A outer s0 H E) (fun c d _ H' => E c d H') (defBody s_k06_law) sd_k06_law := by
  unfold sd_k06_law sl_k06_law_3 sl_k06_law_2 sl_k06_law_1
  exact (ss_cons (ss_setN 1 J.nd (em_of (ed_of (em_call1 J (o_k06_law_cell L) (ea_cons (ed_var 0) (ea_cons ed_int ea_nil)))))) (ss_cons (ss_setN 2 J.nd (em_of (ed_add ed_int (ed_mod (ed_div (ed_var 1) ed_int) ed_int)))) (ss_cons (ss_setN 3 J.nd (em_of (ed_mod (ed_var 1) ed_int))) (ss_cons (ss_setLc 4 (lc_frz (lc_ok [("_law_at", 10)] J (ei_range1 (L.free 2) (ea_cons (ed_var 2) ea_nil)) (blkOk_by (N := N_k06_law) (sc := defScope s_k06_law) (by decide +kernel)) (fun _ _ _ _ _ J => (tg_name 10 J.nd)) (fun _ _ _ _ _ J => et_nil) (fun _ _ _ _ _ J => (ed_of (em_call1 J (o_k06_law_weight L) (ea_cons (ed_div (ed_var 1) ed_int) (ea_cons (ed_var 10) ea_nil))))) (by decide)))) (ss_cons (ss_setN 5 J.nd (em_of (ed_of (em_call1 J (o_k06_law_order L) (ea_cons (ed_var 3) (ea_cons (ed_var 4) ea_nil)))))) (ss_cons (ss_setLc 6 (lc_frz (lc_ok [("_law_one", 11)] J (ei_seq (ed_slice (ed_var 0) (eo_some ed_int) (eo_some ed_int))) (blkOk_by (N := N_k06_law) (sc := defScope s_k06_law) (by decide +kernel)) (fun _ _ _ _ _ J => (tg_name 11 J.nd)) (fun _ _ _ _ _ J => et_nil) (fun _ _ _ _ _ J => (ed_tuple (L.free 8) (ea_cons (ed_of (em_lc1 (lc_ok [("_law_at", 10)] J (ei_range1 (L.free 2) (ea_cons (ed_var 2) ea_nil)) (blkOk_by (N := N_k06_law) (sc := (relS _ (defScope s_k06_law))) (by decide +kernel)) (fun _ _ _ _ _ J => (tg_name 10 J.nd)) (fun _ _ _ _ _ J => et_nil) (fun _ _ _ _ _ J => (ed_of (em_call1 J (o_k06_law_power L) (ea_cons (ed_var 11) (ea_cons (ed_var 10) ea_nil))))) (by decide)))) ea_nil))) (by decide)))) (ss_cons (ss_for J (ei_range2 (L.free 2) (ea_cons ed_int (ea_cons (ed_var 2) ea_nil))) (tg_name 7 J.nd) (ss_cons (ss_setN 9 J.nd (em_of (ed_of (em_meth J (j := 1) (by decide) (mt_cons (OkM.mt (fun _ h => (caK_eq h).2) (o_Order_takes_out L) (by decide)) (mt_cons (OkM.mt (fun _ h => (caK_eq h).2) (o_Degrees_takes_out L) (by decide)) (mt_cons (OkM.mt (fun _ h => (caK_eq h).2) (o_Tails_takes_out L) (by decide)) (mt_cons (OkM.mt (fun _ h => (caK_eq h).2) (o_Weights_takes_out L) (by decide)) mt_nil)))) (ed_var 5) (ea_cons (ed_var 7) ea_nil))))) (ss_cons (ss_if (eb_not (eb_val (ed_isi "bool" (L.free 28) (L.free 29) (ed_var 9) (ed_ty "bool" (L.free 29) (by decide +kernel))))) (ss_one (ss_ret (em_of ed_bl))) ss_nil) (ss_cons (ss_if (eb_w (ew_and (eb_not (eb_val (ed_var 9))) (ew_and1 (eb_not (eb_val (ed_of (em_call1 J (o_k06_law_not_out L) (ea_cons (ed_var 5) (ea_cons (ed_var 3) (ea_cons (ed_var 4) (ea_cons (ed_var 7) (ea_cons (ed_var 2) ea_nil)))))))))))) (ss_one (ss_ret (em_of ed_bl))) ss_nil) (ss_one (ss_for J (ei_range1 (L.free 2) (ea_cons (ed_len (L.free 0) (ea_cons (ed_var 6) ea_nil)) ea_nil)) (tg_name 8 J.nd) (ss_one (ss_if (eb_w (ew_and (eb_val (ed_var 9)) (ew_and1 (eb_not (eb_val (ed_of (em_call1 J (o_k06_law_out L) (ea_cons (ed_var 5) (ea_cons (ed_ix (ed_var 6) (ed_var 8)) (ea_cons (ed_ix (ed_var 6) (ed_sub (ed_var 8) ed_int)) (ea_cons (ed_var 7) ea_nil))))))))))) (ss_one (ss_ret (em_of ed_bl))) ss_nil)))))))) (ss_cons (ss_for J (ei_range1 (L.free 2) (ea_cons (ed_len (L.free 0) (ea_cons (ed_var 6) ea_nil)) ea_nil)) (tg_name 8 J.nd) (ss_one (ss_if (eb_not (eb_val (ed_of (em_call1 J (o_k06_law_three L) (ea_cons (ed_var 5) (ea_cons (ed_ix (ed_var 6) (ed_var 8)) (ea_cons (ed_ix (ed_var 6) (ed_mod (ed_add (ed_var 8) ed_int) (ed_len (L.free 0) (ea_cons (ed_var 6) ea_nil)))) (ea_cons (ed_ix (ed_var 6) (ed_mod (ed_add (ed_var 8) ed_int) (ed_len (L.free 0) (ea_cons (ed_var 6) ea_nil)))) ea_nil)))))))) (ss_one (ss_ret (em_of ed_bl))) ss_nil))) (ss_one (ss_ret (em_of ed_bl)))))))))))
theorem o_k06_law (L : LX P w K mg base fa fn fc) : Ok1 (caK cs K) P w K mg base "law" 5 d_k06_law := ok1 (N := N_k06_law) (ps := ["_law_script"]) (d := D_k06_law) L 22 46 sc_k06_law (b_k06_law L) rfl rfl rfl (fun _ _ _ _ _ _ us hl => match us, hl with | [_], _ => rfl)

end
end Wk06
set_option maxHeartbeats 4000000
namespace Mk06
open DA PySem PySem.Spec PyProof.Rows L2
/-! ### lists of ints, in the order of the first difference -/
abbrev lt (x y : List Int) : Bool := HT.lexLt x y
theorem lt_irr : ∀ x : List Int, lt x x = false
  | [] => rfl
  | a :: x => by
    show HT.lexLt _ _ = _
    rw [HT.lexLt_cons, if_pos rfl]
    exact lt_irr x
theorem lt_tri : ∀ {x y : List Int}, x.length = y.length → x ≠ y → (lt x y = !lt y x)
  | [], [], _, h => absurd rfl h
  | [], _ :: _, l, _ => by simp at l
  | _ :: _, [], l, _ => by simp at l
  | a :: x, b :: y, l, h => by
    show HT.lexLt _ _ = !HT.lexLt _ _
    rw [HT.lexLt_cons, HT.lexLt_cons]
    by_cases e : a = b
    · subst e
      rw [if_pos rfl, if_pos rfl]
      exact lt_tri (by simpa using l) (fun z => h (by rw [z]))
    · rw [if_neg e, if_neg (fun z => e z.symm)]
      by_cases q : a < b
      · rw [decide_eq_true q, decide_eq_false (by omega)]; rfl
      · rw [decide_eq_false q, decide_eq_true (by omega)]; rfl
theorem lt_trans : ∀ {x y z : List Int}, x.length = y.length → y.length = z.length → lt x y = true → lt y z = true → lt x z = true
  | [], [], [], _, _, h, _ => by cases h
  | [], _ :: _, _, l, _, _, _ => by simp at l
  | _ :: _, [], _, l, _, _, _ => by simp at l
  | [], [], _ :: _, _, l, _, _ => by simp at l
  | _ :: _, _ :: _, [], _, l, _, _ => by simp at l
  | a :: x, b :: y, c :: z, l1, l2, h, g => by
    have h : HT.lexLt _ _ = true := h
    have g : HT.lexLt _ _ = true := g
    show HT.lexLt _ _ = true
    rw [HT.lexLt_cons] at h g ⊢
    by_cases e : a = b
    · subst e
      rw [if_pos rfl] at h
      by_cases e2 : a = c
      · subst e2
        rw [if_pos rfl] at g ⊢
        exact lt_trans (by simpa using l1) (by simpa using l2) h g
      · rw [if_neg e2] at g ⊢; exact g
    · rw [if_neg e] at h
      have h := of_decide_eq_true h
      by_cases e2 : b = c
      · subst e2
        rw [if_neg e]
        exact decide_eq_true h
      · rw [if_neg e2] at g
        have g := of_decide_eq_true g
        rw [if_neg (by omega)]
        exact decide_eq_true (by omega)
def ad : List Int → List Int → List Int
  | a :: x, b :: y => (a + b) :: ad x y
  | _, _ => []
theorem ad_cons (a b : Int) (x y : List Int) : ad (a :: x) (b :: y) = (a + b) :: ad x y := rfl
theorem ad_zip : ∀ x y : List Int, ((x.zip y).map fun p => p.1 + p.2) = ad x y
  | [], _ => by simp [ad]
  | _ :: _, [] => by simp [ad]
  | a :: x, b :: y => by rw [List.zip_cons_cons, List.map_cons, ad_zip x y]; rfl
theorem ad_len : ∀ {x y : List Int}, x.length = y.length → (ad x y).length = x.length
  | [], _, _ => rfl
  | _ :: _, [], l => by simp at l
  | a :: x, b :: y, l => by rw [ad_cons, List.length_cons, List.length_cons, ad_len (by simpa using l)]
theorem ad_app : ∀ {x y z w : List Int}, x.length = y.length → ad (x ++ z) (y ++ w) = ad x y ++ ad z w
  | [], [], _, _, _ => rfl
  | [], _ :: _, _, _, l => by simp at l
  | _ :: _, [], _, _, l => by simp at l
  | a :: x, b :: y, z, w, l => by
    rw [List.cons_append, List.cons_append, ad_cons, ad_cons, ad_app (by simpa using l)]; rfl
theorem lt_shift : ∀ {x y z : List Int}, x.length = z.length → y.length = z.length → lt (ad x z) (ad y z) = lt x y
  | [], [], [], _, _ => rfl
  | [], [], _ :: _, l, _ => by simp at l
  | [], _ :: _, [], _, l => by simp at l
  | _ :: _, _, [], l, _ => by simp at l
  | [], _ :: _, _ :: _, l, _ => by simp at l
  | _ :: _, [], _ :: _, _, l => by simp at l
  | a :: x, b :: y, c :: z, l1, l2 => by
    have ih := lt_shift (x := x) (y := y) (z := z) (by simpa using l1) (by simpa using l2)
    show HT.lexLt _ _ = HT.lexLt _ _
    rw [ad_cons, ad_cons, HT.lexLt_cons, HT.lexLt_cons]
    by_cases e : a = b
    · subst e
      rw [if_pos rfl, if_pos rfl]; exact ih
    · rw [if_neg e, if_neg (by omega)]
      rw [Bool.eq_iff_iff]
      simp
theorem lt_head {a b : Int} {x y : List Int} (h : a < b) : lt (a :: x) (b :: y) = true := by
  show HT.lexLt _ _ = true
  rw [HT.lexLt_cons, if_neg (by omega)]
  exact decide_eq_true h
theorem lt_tail {a : Int} {x y : List Int} : lt (a :: x) (a :: y) = lt x y := by
  show HT.lexLt _ _ = _
  rw [HT.lexLt_cons, if_pos rfl]
abbrev ze (n : Nat) : List Int := List.replicate n 0
/-- not below nought, and not nought: greater than nought -/
theorem lt_zero : ∀ {x y z : List Int}, (∀ a ∈ x, 0 ≤ a) → (∃ a ∈ x, a ≠ 0) → lt (ze x.length ++ y) (x ++ z) = true
  | [], _, _, _, h => by obtain ⟨a, h, _⟩ := h; cases h
  | a :: x, y, z, p, h => by
    rw [List.length_cons]
    show lt (0 :: (ze x.length ++ y)) (a :: (x ++ z)) = true
    have p0 := p a (by simp)
    by_cases e : a = 0
    · subst e
      rw [lt_tail]
      refine lt_zero (fun b hb => p b (by simp [hb])) ?_
      obtain ⟨b, hb, n⟩ := h
      rcases List.mem_cons.mp hb with q | q
      · exact absurd q n
      · exact ⟨b, q, n⟩
    · exact lt_head (by omega)
theorem ne_zero {x : List Int} (h : x ≠ ze x.length) : ∃ a ∈ x, a ≠ 0 := by
  by_cases z : ∃ a ∈ x, a ≠ 0
  · exact z
  · exfalso
    apply h
    refine List.eq_replicate_iff.mpr ⟨rfl, fun b hb => ?_⟩
    by_cases q : b = 0
    · exact q
    · exact absurd ⟨b, hb, q⟩ z
theorem sum_ad : ∀ {x y : List Int}, x.length = y.length → (ad x y).sum = x.sum + y.sum
  | [], [], _ => rfl
  | [], _ :: _, l => by simp at l
  | _ :: _, [], l => by simp at l
  | a :: x, b :: y, l => by
    have ih := sum_ad (x := x) (y := y) (by simpa using l)
    rw [ad_cons, List.sum_cons, List.sum_cons, List.sum_cons, ih]
    omega
theorem sum_nonneg : ∀ {x : List Int}, (∀ a ∈ x, 0 ≤ a) → 0 ≤ x.sum
  | [], _ => by simp
  | a :: x, p => by
    have := sum_nonneg fun b hb => p b (List.mem_cons_of_mem _ hb)
    have := p a (by simp)
    rw [List.sum_cons]; omega
theorem sum_pos : ∀ {x : List Int}, (∀ a ∈ x, 0 ≤ a) → (∃ a ∈ x, a ≠ 0) → 0 < x.sum
  | [], _, h => by obtain ⟨a, h, _⟩ := h; cases h
  | a :: x, p, h => by
    have q := sum_nonneg fun b hb => p b (List.mem_cons_of_mem _ hb)
    have p0 := p a (by simp)
    rw [List.sum_cons]
    obtain ⟨b, hb, n⟩ := h
    rcases List.mem_cons.mp hb with e | e
    · subst e; omega
    · have := sum_pos (fun c hc => p c (List.mem_cons_of_mem _ hc)) ⟨b, e, n⟩
      omega
def ng (x : List Int) : List Int := (x.reverse).map fun a => -a
theorem ng_cons (a : Int) (x : List Int) : ng (a :: x) = ng x ++ [-a] := by simp only [ng, List.reverse_cons, List.map_append, List.map_cons, List.map_nil]
theorem ng_len (x : List Int) : (ng x).length = x.length := by simp [ng]
theorem ng_ad : ∀ {x y : List Int}, x.length = y.length → ng (ad x y) = ad (ng x) (ng y)
  | [], [], _ => rfl
  | [], _ :: _, l => by simp at l
  | _ :: _, [], l => by simp at l
  | a :: x, b :: y, l => by
    have ih := ng_ad (x := x) (y := y) (by simpa using l)
    rw [ad_cons, ng_cons, ng_cons, ng_cons, ad_app (by rw [ng_len, ng_len]; simpa using l), ih]
    show _ ++ [-(a + b)] = _ ++ [-a + -b]
    rw [Int.neg_add]
theorem ng_inj {x y : List Int} (h : ng x = ng y) : x = y := by
  have id : ∀ z : List Int, ng (ng z) = z := fun z => by
    unfold ng
    rw [← List.map_reverse, List.reverse_reverse, List.map_map]
    exact (List.map_congr_left (g := id) fun a _ => by simp).trans (List.map_id _)
  rw [← id x, ← id y, h]
def dot : List Int → List Int → Int
  | a :: x, b :: w => a * b + dot x w
  | _, _ => 0
theorem dot_cons (a b : Int) (x y : List Int) : dot (a :: x) (b :: y) = a * b + dot x y := rfl
theorem dot_zip : ∀ x y : List Int, ((x.zip y).map fun p => p.1 * p.2).sum = dot x y
  | [], _ => by simp [dot]
  | _ :: _, [] => by simp [dot]
  | a :: x, b :: y => by rw [List.zip_cons_cons, List.map_cons, List.sum_cons, dot_zip x y]; rfl
theorem dot_ad : ∀ {x y w : List Int}, x.length = y.length → dot (ad x y) w = dot x w + dot y w
  | [], [], _, _ => by simp [ad, dot]
  | [], _ :: _, _, l => by simp at l
  | _ :: _, [], _, l => by simp at l
  | _ :: _, _ :: _, [], _ => by simp [ad, dot]
  | a :: x, b :: y, c :: w, l => by
    have ih := dot_ad (x := x) (y := y) (w := w) (by simpa using l)
    rw [ad_cons, dot_cons, dot_cons, dot_cons, ih, Int.add_mul]
    omega
theorem dot_nonneg : ∀ {x w : List Int}, (∀ a ∈ x, 0 ≤ a) → (∀ a ∈ w, 0 ≤ a) → 0 ≤ dot x w
  | [], _, _, _ => by simp [dot]
  | _ :: _, [], _, _ => by simp [dot]
  | a :: x, b :: w, p, q => by
    have ih := dot_nonneg (x := x) (w := w) (fun c hc => p c (by simp [hc])) (fun c hc => q c (by simp [hc]))
    have := Int.mul_nonneg (p a (by simp)) (q b (by simp))
    rw [dot_cons]
    omega
theorem dot_zero : ∀ (n : Nat) (w : List Int), dot (ze n) w = 0
  | 0, _ => by simp [dot]
  | n + 1, [] => by simp [dot, List.replicate_succ]
  | n + 1, b :: w => by
    show dot (0 :: ze n) (b :: w) = 0
    rw [dot_cons, dot_zero n w, Int.zero_mul]; rfl
/-! ### the four orders -/
inductive Kd | lex | deg | tail | wei (w : List Int)
def R (o : Kd) (x : List Int) : List Int := match o with
  | .lex => x
  | .deg => x.sum :: x
  | .tail => x.sum :: ng x
  | .wei w => dot x w :: x
theorem R_len (o : Kd) {x y : List Int} (h : x.length = y.length) : (R o x).length = (R o y).length := by
  cases o <;> simp [R, h, ng_len]
theorem R_inj (o : Kd) {x y : List Int} (h : R o x = R o y) : x = y := by
  cases o with
  | lex => exact h
  | deg => injection h
  | tail => injection h with _ h; exact ng_inj h
  | wei w => injection h
theorem R_ad (o : Kd) {x y : List Int} (h : x.length = y.length) : R o (ad x y) = ad (R o x) (R o y) := by
  cases o with
  | lex => rfl
  | deg => simp only [R, ad_cons, sum_ad h]
  | tail => simp only [R, ad_cons, sum_ad h, ng_ad h]
  | wei w => simp only [R, ad_cons, dot_ad h]
def gb (o : Kd) (x y : List Int) : Bool := lt (R o y) (R o x)
theorem gb_shift (o : Kd) {x y z : List Int} (h : x.length = z.length) (g : y.length = z.length) : gb o (ad x z) (ad y z) = gb o x y := by
  unfold gb
  rw [R_ad o h, R_ad o g]
  exact lt_shift (R_len o g) (R_len o h)
theorem gb_tri (o : Kd) {x y : List Int} (h : x.length = y.length) (n : x ≠ y) : gb o x y = !gb o y x := lt_tri (R_len o h.symm) fun e => n (R_inj o e).symm
theorem gb_irr (o : Kd) (x : List Int) : gb o x x = false := lt_irr _
theorem gb_trans (o : Kd) {x y z : List Int} (h : x.length = y.length) (g : y.length = z.length) (a : gb o x y = true) (b : gb o y z = true) : gb o x z = true := lt_trans (R_len o g.symm) (R_len o h.symm) b a
theorem gb_zero (o : Kd) {x : List Int} (hw : ∀ w, o = .wei w → ∀ a ∈ w, 0 ≤ a) (p : ∀ a ∈ x, 0 ≤ a) (n : x ≠ ze x.length) : gb o x (ze x.length) = true := by
  have nz := ne_zero n
  have lz := lt_zero (y := []) (z := []) p nz
  rw [List.append_nil, List.append_nil] at lz
  have s0 : (ze x.length).sum = 0 := by simp
  cases o with
  | lex => exact lz
  | deg => exact lt_head (by rw [s0]; exact sum_pos p nz)
  | tail => exact lt_head (by rw [s0]; exact sum_pos p nz)
  | wei w =>
    show lt (dot (ze x.length) w :: ze x.length) (dot x w :: x) = true
    rw [dot_zero]
    have d := dot_nonneg p (hw w rfl)
    by_cases e : dot x w = 0
    · rw [e, lt_tail]; exact lz
    · exact lt_head (by omega)
/-! ### what the defs are worth -/
def ob : Kd → D
  | .lex => .obj "Order" [] []
  | .deg => .obj "Degrees" [] []
  | .tail => .obj "Tails" [] []
  | .wei w => .obj "Weights" ["weights"] [.tup (IL w)]
def Wk (o : Kd) : Prop := ∀ w, o = .wei w → ∀ a ∈ w, 0 ≤ a ∧ a.natAbs < 2 ^ 64
theorem IL_rev (x : List Int) : (IL x).reverse = IL x.reverse := by simp only [IL, List.map_reverse]
theorem map_nought {α : Type} (a : List α) : (a.map fun _ => D.int 0) = IL (ze a.length) := by
  rw [show IL (ze a.length) = List.replicate a.length (D.int 0) from List.map_replicate]
  exact List.eq_replicate_iff.mpr ⟨by simp, fun b hb => by obtain ⟨_, _, rfl⟩ := List.mem_map.mp hb; rfl⟩
theorem degree (x : List Int) : d_degree [.tup (IL x)] = .ok (.dat (.int x.sum)) := by
  simp only [d_degree, sd_degree, sSeq, sIf, sRet, sSet, sNil, sFor, sExc, sRetN, sCont, sBrk, toM, toD, DA.bin, una, tst, calD, callM, cst, andD, orD, notD, ifD, isB, notB, andB, orB, aNil, aCons, itSeq, itRange1, itRange2, itZip, rd, ob_ok, ob_ex, ob_st, om_ok, om_ex, on_ok, gSet, gTupD, gsNil, gsCons, tYesB, runD, fin_rt, fin_nx, fin_ex, asB_bl, add_ii, ad_ii, gx_ii, lof_l, lof_t, oNone, oSome, slD, dSl, itRev, maxDf,  sub_ii, neg_i, lt_ii, le_ii, gt_ii, ge_ii, seq_lst, seq_tup, zip_tt, zip_tl, zip_lt, zip_ll, er_dat, er_lst, tuple_lst, tuple_tup, len_lst, len_tup, max_ii, min_ii, abs_n, c0, c1, c2, c3, dEq_int, dNe_int, dEq_bl, isi_int_int, isi_bool_int, isi_bool_bl, isi_int_bl, isi_tuple_tup, isi_list_lst, isn_non, isn_tup, isn_int, nn_non, nn_tup, nn_int, isn_obj, nn_obj, List.getElem?_cons_zero, List.getElem?_cons_succ, List.set_cons_zero, List.set_cons_succ, List.length_cons, List.length_nil, List.length_map, List.map_cons, List.map_nil, List.replicate_succ, List.replicate_zero, List.cons_append, List.nil_append, if_true, if_false, Bool.false_eq_true, ite_self, Bool.not_true, Bool.not_false, Nat.reduceAdd, Nat.reduceLT, Nat.zero_add, dSum, intsOf_ints]
theorem cons_IL (a : Int) (x : List Int) (h : x.length ≤ 900) : dAdd (.tup [.int a]) (.tup (IL x)) = .ok (.tup (IL (a :: x))) := ad_tt (by simp; omega)
theorem r_deg (x : List Int) (h : x.length ≤ 900) : d_Degrees_rank [ob .deg, .tup (IL x)] = .ok (.dat (.tup (IL (R .deg x)))) := by
  simp only [d_Degrees_rank, sd_Degrees_rank, sSeq, sIf, sRet, sSet, sNil, sFor, sExc, sRetN, sCont, sBrk, toM, toD, DA.bin, una, tst, calD, callM, cst, andD, orD, notD, ifD, isB, notB, andB, orB, aNil, aCons, itSeq, itRange1, itRange2, itZip, rd, ob_ok, ob_ex, ob_st, om_ok, om_ex, on_ok, gSet, gTupD, gsNil, gsCons, tYesB, runD, fin_rt, fin_nx, fin_ex, asB_bl, add_ii, ad_ii, gx_ii, lof_l, lof_t, oNone, oSome, slD, dSl, itRev, maxDf,  sub_ii, neg_i, lt_ii, le_ii, gt_ii, ge_ii, seq_lst, seq_tup, zip_tt, zip_tl, zip_lt, zip_ll, er_dat, er_lst, tuple_lst, tuple_tup, len_lst, len_tup, max_ii, min_ii, abs_n, c0, c1, c2, c3, dEq_int, dNe_int, dEq_bl, isi_int_int, isi_bool_int, isi_bool_bl, isi_int_bl, isi_tuple_tup, isi_list_lst, isn_non, isn_tup, isn_int, nn_non, nn_tup, nn_int, isn_obj, nn_obj, List.getElem?_cons_zero, List.getElem?_cons_succ, List.set_cons_zero, List.set_cons_succ, List.length_cons, List.length_nil, List.length_map, List.map_cons, List.map_nil, List.replicate_succ, List.replicate_zero, List.cons_append, List.nil_append, if_true, if_false, Bool.false_eq_true, ite_self, Bool.not_true, Bool.not_false, Nat.reduceAdd, Nat.reduceLT, Nat.zero_add, degree, tupD, sz1, cons_IL _ _ h, R]
theorem r_tail (x : List Int) (h : x.length ≤ 900) : d_Tails_rank [ob .tail, .tup (IL x)] = .ok (.dat (.tup (IL (R .tail x)))) := by
  have e := lcD_map (fi := itRev (rd 1)) (vs := [2]) (g := gSet 2) (f := una dNeg (rd 2)) (ρ := [some (.dat (ob .tail)), some (.dat (.tup (IL x))), none]) D.int (fun a => D.int (-a)) x.reverse (by simp only [sSeq, sIf, sRet, sSet, sNil, sFor, sExc, sRetN, sCont, sBrk, toM, toD, DA.bin, una, tst, calD, callM, cst, andD, orD, notD, ifD, isB, notB, andB, orB, aNil, aCons, itSeq, itRange1, itRange2, itZip, rd, ob_ok, ob_ex, ob_st, om_ok, om_ex, on_ok, gSet, gTupD, gsNil, gsCons, tYesB, runD, fin_rt, fin_nx, fin_ex, asB_bl, add_ii, ad_ii, gx_ii, lof_l, lof_t, oNone, oSome, slD, dSl, itRev, maxDf,  sub_ii, neg_i, lt_ii, le_ii, gt_ii, ge_ii, seq_lst, seq_tup, zip_tt, zip_tl, zip_lt, zip_ll, er_dat, er_lst, tuple_lst, tuple_tup, len_lst, len_tup, max_ii, min_ii, abs_n, c0, c1, c2, c3, dEq_int, dNe_int, dEq_bl, isi_int_int, isi_bool_int, isi_bool_bl, isi_int_bl, isi_tuple_tup, isi_list_lst, isn_non, isn_tup, isn_int, nn_non, nn_tup, nn_int, isn_obj, nn_obj, List.getElem?_cons_zero, List.getElem?_cons_succ, List.set_cons_zero, List.set_cons_succ, List.length_cons, List.length_nil, List.length_map, List.map_cons, List.map_nil, List.replicate_succ, List.replicate_zero, List.cons_append, List.nil_append, if_true, if_false, Bool.false_eq_true, ite_self, Bool.not_true, Bool.not_false, Nat.reduceAdd, Nat.reduceLT, Nat.zero_add, IL_rev]) (le_size (by rw [List.length_reverse]; omega)) (fun a _ => ⟨_, rfl, rfl⟩)
  have e2 : (x.reverse.map fun a => D.int (-a)) = IL (ng x) := by simp only [IL, ng, List.map_map]; rfl
  rw [e2] at e
  simp only [d_Tails_rank, sd_Tails_rank, sSeq, sIf, sRet, sSet, sNil, sFor, sExc, sRetN, sCont, sBrk, toM, toD, DA.bin, una, tst, calD, callM, cst, andD, orD, notD, ifD, isB, notB, andB, orB, aNil, aCons, itSeq, itRange1, itRange2, itZip, rd, ob_ok, ob_ex, ob_st, om_ok, om_ex, on_ok, gSet, gTupD, gsNil, gsCons, tYesB, runD, fin_rt, fin_nx, fin_ex, asB_bl, add_ii, ad_ii, gx_ii, lof_l, lof_t, oNone, oSome, slD, dSl, itRev, maxDf,  sub_ii, neg_i, lt_ii, le_ii, gt_ii, ge_ii, seq_lst, seq_tup, zip_tt, zip_tl, zip_lt, zip_ll, er_dat, er_lst, tuple_lst, tuple_tup, len_lst, len_tup, max_ii, min_ii, abs_n, c0, c1, c2, c3, dEq_int, dNe_int, dEq_bl, isi_int_int, isi_bool_int, isi_bool_bl, isi_int_bl, isi_tuple_tup, isi_list_lst, isn_non, isn_tup, isn_int, nn_non, nn_tup, nn_int, isn_obj, nn_obj, List.getElem?_cons_zero, List.getElem?_cons_succ, List.set_cons_zero, List.set_cons_succ, List.length_cons, List.length_nil, List.length_map, List.map_cons, List.map_nil, List.replicate_succ, List.replicate_zero, List.cons_append, List.nil_append, if_true, if_false, Bool.false_eq_true, ite_self, Bool.not_true, Bool.not_false, Nat.reduceAdd, Nat.reduceLT, Nat.zero_add, degree, tupD, sz1, e, cons_IL _ _ (show (ng x).length ≤ 900 by rw [ng_len]; exact h), R]
theorem r_wei (x w : List Int) (h : x.length ≤ 900) (hw : ∀ a ∈ w, a.natAbs < 2 ^ 64) : d_Weights_rank [ob (.wei w), .tup (IL x)] = .ok (.dat (.tup (IL (R (.wei w) x)))) := by
  have fl : dFld ["Weights"] "weights" (ob (.wei w)) = .ok (.tup (IL w)) := fld_ok (by decide +kernel) rfl
  have e := lcD_map (fi := itZip (aCons (rd 1) (aCons (una (dFld ["Weights"] "weights") (rd 0)) aNil))) (vs := [2, 3]) (g := gTupD 2 (gsCons (gSet 2) (gsCons (gSet 3) gsNil))) (f := DA.bin dMul (rd 2) (rd 3)) (ρ := [some (.dat (ob (.wei w))), some (.dat (.tup (IL x))), none, none])
    IP (fun p => .int (p.1 * p.2)) (x.zip w) (by simp only [sSeq, sIf, sRet, sSet, sNil, sFor, sExc, sRetN, sCont, sBrk, toM, toD, DA.bin, una, tst, calD, callM, cst, andD, orD, notD, ifD, isB, notB, andB, orB, aNil, aCons, itSeq, itRange1, itRange2, itZip, rd, ob_ok, ob_ex, ob_st, om_ok, om_ex, on_ok, gSet, gTupD, gsNil, gsCons, tYesB, runD, fin_rt, fin_nx, fin_ex, asB_bl, add_ii, ad_ii, gx_ii, lof_l, lof_t, oNone, oSome, slD, dSl, itRev, maxDf,  sub_ii, neg_i, lt_ii, le_ii, gt_ii, ge_ii, seq_lst, seq_tup, zip_tt, zip_tl, zip_lt, zip_ll, er_dat, er_lst, tuple_lst, tuple_tup, len_lst, len_tup, max_ii, min_ii, abs_n, c0, c1, c2, c3, dEq_int, dNe_int, dEq_bl, isi_int_int, isi_bool_int, isi_bool_bl, isi_int_bl, isi_tuple_tup, isi_list_lst, isn_non, isn_tup, isn_int, nn_non, nn_tup, nn_int, isn_obj, nn_obj, List.getElem?_cons_zero, List.getElem?_cons_succ, List.set_cons_zero, List.set_cons_succ, List.length_cons, List.length_nil, List.length_map, List.map_cons, List.map_nil, List.replicate_succ, List.replicate_zero, List.cons_append, List.nil_append, if_true, if_false, Bool.false_eq_true, ite_self, Bool.not_true, Bool.not_false, Nat.reduceAdd, Nat.reduceLT, Nat.zero_add, fl, zipL_ints]) (le_size (by rw [List.length_zip]; omega)) (fun p hp => ⟨_, rfl, by
      have m : MulC p.1 p.2 := mulC_right (hw _ (List.of_mem_zip hp).2)
      show (dMul (.int p.1) (.int p.2)).nx = _
      rw [dMul_ok m]; rfl⟩)
  have e2 : ((x.zip w).map fun p => D.int (p.1 * p.2)) = IL ((x.zip w).map fun p => p.1 * p.2) := by simp only [IL, List.map_map]; rfl
  rw [e2] at e
  simp only [d_Weights_rank, sd_Weights_rank, sSeq, sIf, sRet, sSet, sNil, sFor, sExc, sRetN, sCont, sBrk, toM, toD, DA.bin, una, tst, calD, callM, cst, andD, orD, notD, ifD, isB, notB, andB, orB, aNil, aCons, itSeq, itRange1, itRange2, itZip, rd, ob_ok, ob_ex, ob_st, om_ok, om_ex, on_ok, gSet, gTupD, gsNil, gsCons, tYesB, runD, fin_rt, fin_nx, fin_ex, asB_bl, add_ii, ad_ii, gx_ii, lof_l, lof_t, oNone, oSome, slD, dSl, itRev, maxDf,  sub_ii, neg_i, lt_ii, le_ii, gt_ii, ge_ii, seq_lst, seq_tup, zip_tt, zip_tl, zip_lt, zip_ll, er_dat, er_lst, tuple_lst, tuple_tup, len_lst, len_tup, max_ii, min_ii, abs_n, c0, c1, c2, c3, dEq_int, dNe_int, dEq_bl, isi_int_int, isi_bool_int, isi_bool_bl, isi_int_bl, isi_tuple_tup, isi_list_lst, isn_non, isn_tup, isn_int, nn_non, nn_tup, nn_int, isn_obj, nn_obj, List.getElem?_cons_zero, List.getElem?_cons_succ, List.set_cons_zero, List.set_cons_succ, List.length_cons, List.length_nil, List.length_map, List.map_cons, List.map_nil, List.replicate_succ, List.replicate_zero, List.cons_append, List.nil_append, if_true, if_false, Bool.false_eq_true, ite_self, Bool.not_true, Bool.not_false, Nat.reduceAdd, Nat.reduceLT, Nat.zero_add, e, dSum, intsOf_ints, dot_zip, tupD, sz1, cons_IL _ _ h, R]
theorem r_lex (x : List Int) : d_Order_rank [ob .lex, .tup (IL x)] = .ok (.dat (.tup (IL (R .lex x)))) := by
  simp only [d_Order_rank, sd_Order_rank, sSeq, sIf, sRet, sSet, sNil, sFor, sExc, sRetN, sCont, sBrk, toM, toD, DA.bin, una, tst, calD, callM, cst, andD, orD, notD, ifD, isB, notB, andB, orB, aNil, aCons, itSeq, itRange1, itRange2, itZip, rd, ob_ok, ob_ex, ob_st, om_ok, om_ex, on_ok, gSet, gTupD, gsNil, gsCons, tYesB, runD, fin_rt, fin_nx, fin_ex, asB_bl, add_ii, ad_ii, gx_ii, lof_l, lof_t, oNone, oSome, slD, dSl, itRev, maxDf,  sub_ii, neg_i, lt_ii, le_ii, gt_ii, ge_ii, seq_lst, seq_tup, zip_tt, zip_tl, zip_lt, zip_ll, er_dat, er_lst, tuple_lst, tuple_tup, len_lst, len_tup, max_ii, min_ii, abs_n, c0, c1, c2, c3, dEq_int, dNe_int, dEq_bl, isi_int_int, isi_bool_int, isi_bool_bl, isi_int_bl, isi_tuple_tup, isi_list_lst, isn_non, isn_tup, isn_int, nn_non, nn_tup, nn_int, isn_obj, nn_obj, List.getElem?_cons_zero, List.getElem?_cons_succ, List.set_cons_zero, List.set_cons_succ, List.length_cons, List.length_nil, List.length_map, List.map_cons, List.map_nil, List.replicate_succ, List.replicate_zero, List.cons_append, List.nil_append, if_true, if_false, Bool.false_eq_true, ite_self, Bool.not_true, Bool.not_false, Nat.reduceAdd, Nat.reduceLT, Nat.zero_add, R]
theorem rank (o : Kd) (ho : Wk o) (x : List Int) (h : x.length ≤ 900) : ∃ f, mtR "rank" t_rank (ob o) = .ok f ∧ f [ob o, .tup (IL x)] = .ok (.dat (.tup (IL (R o x)))) := by
  cases o with
  | lex => exact ⟨_, mtR_ok (by decide +kernel) lk_hd, r_lex x⟩
  | deg => exact ⟨_, mtR_ok (by decide +kernel) ((lk_tl (by decide +kernel)).trans lk_hd), r_deg x h⟩
  | tail => exact ⟨_, mtR_ok (by decide +kernel) ((lk_tl (by decide +kernel)).trans ((lk_tl (by decide +kernel)).trans lk_hd)), r_tail x h⟩
  | wei w => exact ⟨_, mtR_ok (by decide +kernel) ((lk_tl (by decide +kernel)).trans ((lk_tl (by decide +kernel)).trans ((lk_tl (by decide +kernel)).trans lk_hd))), r_wei x w h fun a ha => (ho w rfl a ha).2⟩
theorem mGB (o : Kd) : mtR "goes_before" t_goes_before (ob o) = .ok d_Order_goes_before := by
  cases o with
  | lex => exact mtR_ok (by decide +kernel) lk_hd
  | deg => exact mtR_ok (by decide +kernel) ((lk_tl (by decide +kernel)).trans lk_hd)
  | tail => exact mtR_ok (by decide +kernel) ((lk_tl (by decide +kernel)).trans ((lk_tl (by decide +kernel)).trans lk_hd))
  | wei w => exact mtR_ok (by decide +kernel) ((lk_tl (by decide +kernel)).trans ((lk_tl (by decide +kernel)).trans ((lk_tl (by decide +kernel)).trans lk_hd)))
theorem GB {o : Kd} (ho : Wk o) {x y : List Int} (h : x.length ≤ 900) (g : y.length ≤ 900) : d_Order_goes_before [ob o, .tup (IL x), .tup (IL y)] = .ok (.dat (.bl (gb o x y))) := by
  obtain ⟨f, e1, e2⟩ := rank o ho x h
  obtain ⟨f', e1', e3⟩ := rank o ho y g
  rw [e1] at e1'
  cases e1'
  simp only [d_Order_goes_before, sd_Order_goes_before, sSeq, sIf, sRet, sSet, sNil, sFor, sExc, sRetN, sCont, sBrk, toM, toD, DA.bin, una, tst, calD, callM, cst, andD, orD, notD, ifD, isB, notB, andB, orB, aNil, aCons, itSeq, itRange1, itRange2, itZip, rd, ob_ok, ob_ex, ob_st, om_ok, om_ex, on_ok, gSet, gTupD, gsNil, gsCons, tYesB, runD, fin_rt, fin_nx, fin_ex, asB_bl, add_ii, ad_ii, gx_ii, lof_l, lof_t, oNone, oSome, slD, dSl, itRev, maxDf,  sub_ii, neg_i, lt_ii, le_ii, gt_ii, ge_ii, seq_lst, seq_tup, zip_tt, zip_tl, zip_lt, zip_ll, er_dat, er_lst, tuple_lst, tuple_tup, len_lst, len_tup, max_ii, min_ii, abs_n, c0, c1, c2, c3, dEq_int, dNe_int, dEq_bl, isi_int_int, isi_bool_int, isi_bool_bl, isi_int_bl, isi_tuple_tup, isi_list_lst, isn_non, isn_tup, isn_int, nn_non, nn_tup, nn_int, isn_obj, nn_obj, List.getElem?_cons_zero, List.getElem?_cons_succ, List.set_cons_zero, List.set_cons_succ, List.length_cons, List.length_nil, List.length_map, List.map_cons, List.map_nil, List.replicate_succ, List.replicate_zero, List.cons_append, List.nil_append, if_true, if_false, Bool.false_eq_true, ite_self, Bool.not_true, Bool.not_false, Nat.reduceAdd, Nat.reduceLT, Nat.zero_add, mtC, e1, e2, e3, gx_tt, gb, lt]
theorem three {o : Kd} (ho : Wk o) {a b c : List Int} (la : a.length ≤ 900) (lb : b.length = a.length) (lc : c.length = a.length) (pa : ∀ x ∈ a, 0 ≤ x) : d_k06_law_three [ob o, .tup (IL a), .tup (IL b), .tup (IL c)] = .ok (.dat (.bl true)) := by
  have f1 := lcD_map (fi := itSeq (rd 1)) (vs := [7]) (g := gSet 7) (f := cst (.int 0)) (ρ := [some (.dat (ob o)), some (.dat (.tup (IL a))), some (.dat (.tup (IL b))), some (.dat (.tup (IL c))), none, none, none, none, none, none]) D.int (fun _ => D.int 0) a (by simp only [sSeq, sIf, sRet, sSet, sNil, sFor, sExc, sRetN, sCont, sBrk, toM, toD, DA.bin, una, tst, calD, callM, cst, andD, orD, notD, ifD, isB, notB, andB, orB, aNil, aCons, itSeq, itRange1, itRange2, itZip, rd, ob_ok, ob_ex, ob_st, om_ok, om_ex, on_ok, gSet, gTupD, gsNil, gsCons, tYesB, runD, fin_rt, fin_nx, fin_ex, asB_bl, add_ii, ad_ii, gx_ii, lof_l, lof_t, oNone, oSome, slD, dSl, itRev, maxDf,  sub_ii, neg_i, lt_ii, le_ii, gt_ii, ge_ii, seq_lst, seq_tup, zip_tt, zip_tl, zip_lt, zip_ll, er_dat, er_lst, tuple_lst, tuple_tup, len_lst, len_tup, max_ii, min_ii, abs_n, c0, c1, c2, c3, dEq_int, dNe_int, dEq_bl, isi_int_int, isi_bool_int, isi_bool_bl, isi_int_bl, isi_tuple_tup, isi_list_lst, isn_non, isn_tup, isn_int, nn_non, nn_tup, nn_int, isn_obj, nn_obj, List.getElem?_cons_zero, List.getElem?_cons_succ, List.set_cons_zero, List.set_cons_succ, List.length_cons, List.length_nil, List.length_map, List.map_cons, List.map_nil, List.replicate_succ, List.replicate_zero, List.cons_append, List.nil_append, if_true, if_false, Bool.false_eq_true, ite_self, Bool.not_true, Bool.not_false, Nat.reduceAdd, Nat.reduceLT, Nat.zero_add]) (le_size (by omega)) (fun _ _ => ⟨_, rfl, rfl⟩)
  have f1' : (a.map fun _ => D.int 0) = IL (ze a.length) := map_nought a
  rw [f1'] at f1
  have f2 := lcD_map (fi := itZip (aCons (rd 1) (aCons (rd 3) aNil))) (vs := [8, 9]) (g := gTupD 2 (gsCons (gSet 8) (gsCons (gSet 9) gsNil))) (f := DA.bin dAdd (rd 8) (rd 9)) (ρ := [some (.dat (ob o)), some (.dat (.tup (IL a))), some (.dat (.tup (IL b))), some (.dat (.tup (IL c))), some (.dat (.tup (IL (ze a.length)))), none, none, none, none, none])
    IP (fun p => .int (p.1 + p.2)) (a.zip c) (by simp only [sSeq, sIf, sRet, sSet, sNil, sFor, sExc, sRetN, sCont, sBrk, toM, toD, DA.bin, una, tst, calD, callM, cst, andD, orD, notD, ifD, isB, notB, andB, orB, aNil, aCons, itSeq, itRange1, itRange2, itZip, rd, ob_ok, ob_ex, ob_st, om_ok, om_ex, on_ok, gSet, gTupD, gsNil, gsCons, tYesB, runD, fin_rt, fin_nx, fin_ex, asB_bl, add_ii, ad_ii, gx_ii, lof_l, lof_t, oNone, oSome, slD, dSl, itRev, maxDf,  sub_ii, neg_i, lt_ii, le_ii, gt_ii, ge_ii, seq_lst, seq_tup, zip_tt, zip_tl, zip_lt, zip_ll, er_dat, er_lst, tuple_lst, tuple_tup, len_lst, len_tup, max_ii, min_ii, abs_n, c0, c1, c2, c3, dEq_int, dNe_int, dEq_bl, isi_int_int, isi_bool_int, isi_bool_bl, isi_int_bl, isi_tuple_tup, isi_list_lst, isn_non, isn_tup, isn_int, nn_non, nn_tup, nn_int, isn_obj, nn_obj, List.getElem?_cons_zero, List.getElem?_cons_succ, List.set_cons_zero, List.set_cons_succ, List.length_cons, List.length_nil, List.length_map, List.map_cons, List.map_nil, List.replicate_succ, List.replicate_zero, List.cons_append, List.nil_append, if_true, if_false, Bool.false_eq_true, ite_self, Bool.not_true, Bool.not_false, Nat.reduceAdd, Nat.reduceLT, Nat.zero_add, zipL_ints]) (le_size (by rw [List.length_zip]; omega)) (fun _ _ => ⟨_, rfl, rfl⟩)
  have f2' : ((a.zip c).map fun p => D.int (p.1 + p.2)) = IL (ad a c) := by rw [← ad_zip]; simp only [IL, List.map_map]; rfl
  rw [f2'] at f2
  have f3 := lcD_map (fi := itZip (aCons (rd 2) (aCons (rd 3) aNil))) (vs := [8, 9]) (g := gTupD 2 (gsCons (gSet 8) (gsCons (gSet 9) gsNil))) (f := DA.bin dAdd (rd 8) (rd 9)) (ρ := [some (.dat (ob o)), some (.dat (.tup (IL a))), some (.dat (.tup (IL b))), some (.dat (.tup (IL c))), some (.dat (.tup (IL (ze a.length)))), some (.dat (.tup (IL (ad a c)))), none, none, none, none])
    IP (fun p => .int (p.1 + p.2)) (b.zip c) (by simp only [sSeq, sIf, sRet, sSet, sNil, sFor, sExc, sRetN, sCont, sBrk, toM, toD, DA.bin, una, tst, calD, callM, cst, andD, orD, notD, ifD, isB, notB, andB, orB, aNil, aCons, itSeq, itRange1, itRange2, itZip, rd, ob_ok, ob_ex, ob_st, om_ok, om_ex, on_ok, gSet, gTupD, gsNil, gsCons, tYesB, runD, fin_rt, fin_nx, fin_ex, asB_bl, add_ii, ad_ii, gx_ii, lof_l, lof_t, oNone, oSome, slD, dSl, itRev, maxDf,  sub_ii, neg_i, lt_ii, le_ii, gt_ii, ge_ii, seq_lst, seq_tup, zip_tt, zip_tl, zip_lt, zip_ll, er_dat, er_lst, tuple_lst, tuple_tup, len_lst, len_tup, max_ii, min_ii, abs_n, c0, c1, c2, c3, dEq_int, dNe_int, dEq_bl, isi_int_int, isi_bool_int, isi_bool_bl, isi_int_bl, isi_tuple_tup, isi_list_lst, isn_non, isn_tup, isn_int, nn_non, nn_tup, nn_int, isn_obj, nn_obj, List.getElem?_cons_zero, List.getElem?_cons_succ, List.set_cons_zero, List.set_cons_succ, List.length_cons, List.length_nil, List.length_map, List.map_cons, List.map_nil, List.replicate_succ, List.replicate_zero, List.cons_append, List.nil_append, if_true, if_false, Bool.false_eq_true, ite_self, Bool.not_true, Bool.not_false, Nat.reduceAdd, Nat.reduceLT, Nat.zero_add, zipL_ints]) (le_size (by rw [List.length_zip]; omega)) (fun _ _ => ⟨_, rfl, rfl⟩)
  have f3' : ((b.zip c).map fun p => D.int (p.1 + p.2)) = IL (ad b c) := by rw [← ad_zip]; simp only [IL, List.map_map]; rfl
  rw [f3'] at f3
  have lz : (ze a.length).length = a.length := List.length_replicate
  have hw : ∀ w, o = .wei w → ∀ x ∈ w, 0 ≤ x := fun w e x hx => (ho w e x hx).1
  have g1 := GB ho la la
  have g2 := GB ho (x := ze a.length) (y := a) (by omega) la
  have g3 := GB ho (x := a) (y := ze a.length) la (by omega)
  have g4 := GB ho (x := a) (y := b) la (by omega)
  have g5 := GB ho (x := b) (y := a) (by omega) la
  have g6 := GB ho (x := b) (y := c) (by omega) (by omega)
  have g7 := GB ho (x := a) (y := c) la (by omega)
  have g8 := GB ho (x := ad a c) (y := ad b c) (by rw [ad_len lc.symm]; exact la) (by rw [ad_len (by omega)]; omega)
  rw [gb_shift o lc.symm (by omega)] at g8
  rw [gb_irr] at g1
  have tr : gb o a b = true → gb o b c = true → gb o a c = true := gb_trans o (by omega) (by omega)
  have z2 : gb o (ze a.length) a = false := by
    by_cases e : a = ze a.length
    · rw [← e]; exact gb_irr o a
    · have t := gb_zero o hw pa e
      rw [gb_tri o lz.symm e] at t
      simpa using t
  rw [z2] at g2
  have z3 : a = ze a.length ∨ gb o a (ze a.length) = true := by
    by_cases e : a = ze a.length
    · exact .inl e
    · exact .inr (gb_zero o hw pa e)
  have z4 : a = b ∨ (a ≠ b ∧ gb o b a = !gb o a b) := by
    by_cases e : a = b
    · exact .inl e
    · exact .inr ⟨e, gb_tri o (by omega) fun z => e z.symm⟩
  have mg := mGB o
  have fin : ∀ q1 q2 haz hba hab hbc hac : Bool, decide (a = ze a.length) = q1 → decide (a = b) = q2 → gb o a (ze a.length) = haz → gb o b a = hba → gb o a b = hab → gb o b c = hbc → gb o a c = hac → (q1 = true ∨ haz = true) → (if q2 then hab = false ∧ hba = false else hba = !hab) → (hab = true → hbc = true → hac = true) → d_k06_law_three [ob o, .tup (IL a), .tup (IL b), .tup (IL c)] = .ok (.dat (.bl true)) := by
    intro q1 q2 haz hba hab hbc hac h1 h2 h3 h4 h5 h6 h7 c1 c2 c3
    rw [h3] at g3
    rw [h5] at g4 g8
    rw [h4] at g5
    rw [h6] at g6
    rw [h7] at g7
    cases q1 <;> cases q2 <;> cases haz <;> cases hba <;> cases hab <;> cases hbc <;> cases hac <;> first
      | (exfalso; revert c1 c2 c3; decide)
      | simp only [d_k06_law_three, sd_k06_law_three, sSeq, sIf, sRet, sSet, sNil, sFor, sExc, sRetN, sCont, sBrk, toM, toD, DA.bin, una, tst, calD, callM, cst, andD, orD, notD, ifD, isB, notB, andB, orB, aNil, aCons, itSeq, itRange1, itRange2, itZip, rd, ob_ok, ob_ex, ob_st, om_ok, om_ex, on_ok, gSet, gTupD, gsNil, gsCons, tYesB, runD, fin_rt, fin_nx, fin_ex, asB_bl, add_ii, ad_ii, gx_ii, lof_l, lof_t, oNone, oSome, slD, dSl, itRev, maxDf,  sub_ii, neg_i, lt_ii, le_ii, gt_ii, ge_ii, seq_lst, seq_tup, zip_tt, zip_tl, zip_lt, zip_ll, er_dat, er_lst, tuple_lst, tuple_tup, len_lst, len_tup, max_ii, min_ii, abs_n, c0, c1, c2, c3, dEq_int, dNe_int, dEq_bl, isi_int_int, isi_bool_int, isi_bool_bl, isi_int_bl, isi_tuple_tup, isi_list_lst, isn_non, isn_tup, isn_int, nn_non, nn_tup, nn_int, isn_obj, nn_obj, List.getElem?_cons_zero, List.getElem?_cons_succ, List.set_cons_zero, List.set_cons_succ, List.length_cons, List.length_nil, List.length_map, List.map_cons, List.map_nil, List.replicate_succ, List.replicate_zero, List.cons_append, List.nil_append, if_true, if_false, Bool.false_eq_true, ite_self, Bool.not_true, Bool.not_false, Nat.reduceAdd, Nat.reduceLT, Nat.zero_add, f1, f2, f3, mtC, mg, g1, g2, g3, g4, g5, g6, g7, g8, dNe_ts, dEq_ts, h1, h2, beq_self_eq_true, show (true == false) = false from rfl, show (false == true) = false from rfl]
  refine fin _ _ _ _ _ _ _ rfl rfl rfl rfl rfl rfl rfl (z3.imp (fun e => decide_eq_true e) fun e => e) ?_ tr
  rcases z4 with e | ⟨ne, e⟩
  · rw [if_pos (decide_eq_true e)]
    subst e
    exact ⟨gb_irr o a, gb_irr o a⟩
  · rw [if_neg (by simpa using ne)]
    exact e
theorem cell (ns : List Int) (k : Nat) : d_k06_law_cell [.lst (IL ns), .int k] = .ok (.dat (.int (ns.getD k 0))) := by
  by_cases h : k < ns.length
  · have h2 : ((k : Int) < (ns.length : Int)) := by omega
    simp only [d_k06_law_cell, sd_k06_law_cell, sSeq, sIf, sRet, sSet, sNil, sFor, sExc, sRetN, sCont, sBrk, toM, toD, DA.bin, una, tst, calD, callM, cst, andD, orD, notD, ifD, isB, notB, andB, orB, aNil, aCons, itSeq, itRange1, itRange2, itZip, rd, ob_ok, ob_ex, ob_st, om_ok, om_ex, on_ok, gSet, gTupD, gsNil, gsCons, tYesB, runD, fin_rt, fin_nx, fin_ex, asB_bl, add_ii, ad_ii, gx_ii, lof_l, lof_t, oNone, oSome, slD, dSl, itRev, maxDf,  sub_ii, neg_i, lt_ii, le_ii, gt_ii, ge_ii, seq_lst, seq_tup, zip_tt, zip_tl, zip_lt, zip_ll, er_dat, er_lst, tuple_lst, tuple_tup, len_lst, len_tup, max_ii, min_ii, abs_n, c0, c1, c2, c3, dEq_int, dNe_int, dEq_bl, isi_int_int, isi_bool_int, isi_bool_bl, isi_int_bl, isi_tuple_tup, isi_list_lst, isn_non, isn_tup, isn_int, nn_non, nn_tup, nn_int, isn_obj, nn_obj, List.getElem?_cons_zero, List.getElem?_cons_succ, List.set_cons_zero, List.set_cons_succ, List.length_cons, List.length_nil, List.length_map, List.map_cons, List.map_nil, List.replicate_succ, List.replicate_zero, List.cons_append, List.nil_append, if_true, if_false, Bool.false_eq_true, ite_self, Bool.not_true, Bool.not_false, Nat.reduceAdd, Nat.reduceLT, Nat.zero_add, h2, decide_true, dIx_lst (ds := IL ns) (k := k) (by simpa using h), List.getElem_map, List.getD_eq_getElem?_getD, List.getElem?_eq_getElem h, Option.getD_some]
  · have h2 : ¬ ((k : Int) < (ns.length : Int)) := by omega
    simp only [d_k06_law_cell, sd_k06_law_cell, sSeq, sIf, sRet, sSet, sNil, sFor, sExc, sRetN, sCont, sBrk, toM, toD, DA.bin, una, tst, calD, callM, cst, andD, orD, notD, ifD, isB, notB, andB, orB, aNil, aCons, itSeq, itRange1, itRange2, itZip, rd, ob_ok, ob_ex, ob_st, om_ok, om_ex, on_ok, gSet, gTupD, gsNil, gsCons, tYesB, runD, fin_rt, fin_nx, fin_ex, asB_bl, add_ii, ad_ii, gx_ii, lof_l, lof_t, oNone, oSome, slD, dSl, itRev, maxDf,  sub_ii, neg_i, lt_ii, le_ii, gt_ii, ge_ii, seq_lst, seq_tup, zip_tt, zip_tl, zip_lt, zip_ll, er_dat, er_lst, tuple_lst, tuple_tup, len_lst, len_tup, max_ii, min_ii, abs_n, c0, c1, c2, c3, dEq_int, dNe_int, dEq_bl, isi_int_int, isi_bool_int, isi_bool_bl, isi_int_bl, isi_tuple_tup, isi_list_lst, isn_non, isn_tup, isn_int, nn_non, nn_tup, nn_int, isn_obj, nn_obj, List.getElem?_cons_zero, List.getElem?_cons_succ, List.set_cons_zero, List.set_cons_succ, List.length_cons, List.length_nil, List.length_map, List.map_cons, List.map_nil, List.replicate_succ, List.replicate_zero, List.cons_append, List.nil_append, if_true, if_false, Bool.false_eq_true, ite_self, Bool.not_true, Bool.not_false, Nat.reduceAdd, Nat.reduceLT, Nat.zero_add, h2, decide_false, List.getD_eq_getElem?_getD, List.getElem?_eq_none (by omega : ns.length ≤ k), Option.getD_none]
theorem power (c : Int) (k : Nat) (hk : k < 1000) : ∃ v, 0 ≤ v ∧ d_k06_law_power [.int c, .int k] = .ok (.dat (.int v)) := by
  have m1 : MulC 2 (k : Int) := mulC_left (by decide)
  have m2 : MulC c (48271 + 2 * (k : Int)) := mulC_right (by omega)
  have pw : PowC 10 20 := by unfold PowC; decide
  have e20 : (10 : Int) ^ (Int.toNat 20) = 100000000000000000000 := by decide +kernel
  have z : ((10 : Int) ^ (Int.toNat 20) + 39 + (k : Int)) ≠ 0 := by rw [e20]; omega
  have z2 : 0 < ((10 : Int) ^ (Int.toNat 20) + 39 + (k : Int)) := by rw [e20]; omega
  have dv : ∀ i, DivC i 7 := fun i => divC_of (by decide) (by decide +kernel)
  cases h : (c.fmod 4 == 0) with
  | true => exact ⟨(c * (48271 + 2 * (k : Int))).fmod ((10 : Int) ^ (Int.toNat 20) + 39 + (k : Int)), (fmod_pos z2).1, by simp only [d_k06_law_power, sd_k06_law_power, sSeq, sIf, sRet, sSet, sNil, sFor, sExc, sRetN, sCont, sBrk, toM, toD, DA.bin, una, tst, calD, callM, cst, andD, orD, notD, ifD, isB, notB, andB, orB, aNil, aCons, itSeq, itRange1, itRange2, itZip, rd, ob_ok, ob_ex, ob_st, om_ok, om_ex, on_ok, gSet, gTupD, gsNil, gsCons, tYesB, runD, fin_rt, fin_nx, fin_ex, asB_bl, add_ii, ad_ii, gx_ii, lof_l, lof_t, oNone, oSome, slD, dSl, itRev, maxDf,  sub_ii, neg_i, lt_ii, le_ii, gt_ii, ge_ii, seq_lst, seq_tup, zip_tt, zip_tl, zip_lt, zip_ll, er_dat, er_lst, tuple_lst, tuple_tup, len_lst, len_tup, max_ii, min_ii, abs_n, c0, c1, c2, c3, dEq_int, dNe_int, dEq_bl, isi_int_int, isi_bool_int, isi_bool_bl, isi_int_bl, isi_tuple_tup, isi_list_lst, isn_non, isn_tup, isn_int, nn_non, nn_tup, nn_int, isn_obj, nn_obj, List.getElem?_cons_zero, List.getElem?_cons_succ, List.set_cons_zero, List.set_cons_succ, List.length_cons, List.length_nil, List.length_map, List.map_cons, List.map_nil, List.replicate_succ, List.replicate_zero, List.cons_append, List.nil_append, if_true, if_false, Bool.false_eq_true, ite_self, Bool.not_true, Bool.not_false, Nat.reduceAdd, Nat.reduceLT, Nat.zero_add, dMod_ok (i := c) (j := 4) (by decide), h, dMul_ok m1, dMul_ok m2, dPow_ok pw, dMod_ok z]⟩
  | false => exact ⟨(((c * (48271 + 2 * (k : Int))).fmod 10007).fdiv 7).fmod 3, (fmod_pos (by decide)).1, by simp only [d_k06_law_power, sd_k06_law_power, sSeq, sIf, sRet, sSet, sNil, sFor, sExc, sRetN, sCont, sBrk, toM, toD, DA.bin, una, tst, calD, callM, cst, andD, orD, notD, ifD, isB, notB, andB, orB, aNil, aCons, itSeq, itRange1, itRange2, itZip, rd, ob_ok, ob_ex, ob_st, om_ok, om_ex, on_ok, gSet, gTupD, gsNil, gsCons, tYesB, runD, fin_rt, fin_nx, fin_ex, asB_bl, add_ii, ad_ii, gx_ii, lof_l, lof_t, oNone, oSome, slD, dSl, itRev, maxDf,  sub_ii, neg_i, lt_ii, le_ii, gt_ii, ge_ii, seq_lst, seq_tup, zip_tt, zip_tl, zip_lt, zip_ll, er_dat, er_lst, tuple_lst, tuple_tup, len_lst, len_tup, max_ii, min_ii, abs_n, c0, c1, c2, c3, dEq_int, dNe_int, dEq_bl, isi_int_int, isi_bool_int, isi_bool_bl, isi_int_bl, isi_tuple_tup, isi_list_lst, isn_non, isn_tup, isn_int, nn_non, nn_tup, nn_int, isn_obj, nn_obj, List.getElem?_cons_zero, List.getElem?_cons_succ, List.set_cons_zero, List.set_cons_succ, List.length_cons, List.length_nil, List.length_map, List.map_cons, List.map_nil, List.replicate_succ, List.replicate_zero, List.cons_append, List.nil_append, if_true, if_false, Bool.false_eq_true, ite_self, Bool.not_true, Bool.not_false, Nat.reduceAdd, Nat.reduceLT, Nat.zero_add, dMod_ok (i := c) (j := 4) (by decide), h, dMul_ok m1, dMul_ok m2, dMod_ok (j := 10007) (by decide), dDiv_ok (dv _), dMod_ok (j := 3) (by decide)]⟩
theorem weight (c : Int) (k : Nat) (hk : k < 1000) : ∃ v, (0 ≤ v ∧ v.natAbs < 2 ^ 64) ∧ d_k06_law_weight [.int c, .int k] = .ok (.dat (.int v)) := by
  have m1 : MulC 2 (k : Int) := mulC_left (by decide)
  have m2 : MulC c (69621 + 2 * (k : Int)) := mulC_right (by omega)
  have pw : PowC 10 10 := by unfold PowC; decide
  have e20 : (10 : Int) ^ (Int.toNat 10) = 10000000000 := by decide +kernel
  have z : ((10 : Int) ^ (Int.toNat 10) + 19 + (k : Int)) ≠ 0 := by rw [e20]; omega
  have q3 := fmod_pos (a := ((c * (69621 + 2 * (k : Int))).fmod 10009).fdiv 5) (b := 3) (by decide)
  have q4 := fmod_pos (a := c * (69621 + 2 * (k : Int))) (b := (10 : Int) ^ (Int.toNat 10) + 19 + (k : Int)) (by rw [e20]; omega)
  have q4' : ((c * (69621 + 2 * (k : Int))).fmod ((10 : Int) ^ (Int.toNat 10) + 19 + (k : Int))).natAbs < 2 ^ 64 := by
    have := q4.2
    rw [e20] at this q4 ⊢
    omega
  have d2 : DivC c 2 := divC_of (by decide) (by decide +kernel)
  have d8 : DivC c 8 := divC_of (by decide) (by decide +kernel)
  have d5 : ∀ i, DivC i 5 := fun i => divC_of (by decide) (by decide +kernel)
  cases h1 : decide ((0 : Int) < (k : Int)) <;> cases h2 : ((c.fdiv 2).fmod 2 == 1) <;> cases h3 : decide ((c.fdiv 8).fmod 4 < (k : Int)) <;> cases h4 : (c.fmod 2 == 0) <;> first
    | (refine ⟨0, ⟨by decide, by decide⟩, ?_⟩; simp only [d_k06_law_weight, sd_k06_law_weight, sSeq, sIf, sRet, sSet, sNil, sFor, sExc, sRetN, sCont, sBrk, toM, toD, DA.bin, una, tst, calD, callM, cst, andD, orD, notD, ifD, isB, notB, andB, orB, aNil, aCons, itSeq, itRange1, itRange2, itZip, rd, ob_ok, ob_ex, ob_st, om_ok, om_ex, on_ok, gSet, gTupD, gsNil, gsCons, tYesB, runD, fin_rt, fin_nx, fin_ex, asB_bl, add_ii, ad_ii, gx_ii, lof_l, lof_t, oNone, oSome, slD, dSl, itRev, maxDf,  sub_ii, neg_i, lt_ii, le_ii, gt_ii, ge_ii, seq_lst, seq_tup, zip_tt, zip_tl, zip_lt, zip_ll, er_dat, er_lst, tuple_lst, tuple_tup, len_lst, len_tup, max_ii, min_ii, abs_n, c0, c1, c2, c3, dEq_int, dNe_int, dEq_bl, isi_int_int, isi_bool_int, isi_bool_bl, isi_int_bl, isi_tuple_tup, isi_list_lst, isn_non, isn_tup, isn_int, nn_non, nn_tup, nn_int, isn_obj, nn_obj, List.getElem?_cons_zero, List.getElem?_cons_succ, List.set_cons_zero, List.set_cons_succ, List.length_cons, List.length_nil, List.length_map, List.map_cons, List.map_nil, List.replicate_succ, List.replicate_zero, List.cons_append, List.nil_append, if_true, if_false, Bool.false_eq_true, ite_self, Bool.not_true, Bool.not_false, Nat.reduceAdd, Nat.reduceLT, Nat.zero_add, h1, h2, h3, h4, dDiv_ok d2, dDiv_ok d8, dMod_ok (j := 2) (by decide), dMod_ok (j := 4) (by decide)]; done)
    | (refine ⟨(((c * (69621 + 2 * (k : Int))).fmod 10009).fdiv 5).fmod 3, ⟨q3.1, by omega⟩, ?_⟩; simp only [d_k06_law_weight, sd_k06_law_weight, sSeq, sIf, sRet, sSet, sNil, sFor, sExc, sRetN, sCont, sBrk, toM, toD, DA.bin, una, tst, calD, callM, cst, andD, orD, notD, ifD, isB, notB, andB, orB, aNil, aCons, itSeq, itRange1, itRange2, itZip, rd, ob_ok, ob_ex, ob_st, om_ok, om_ex, on_ok, gSet, gTupD, gsNil, gsCons, tYesB, runD, fin_rt, fin_nx, fin_ex, asB_bl, add_ii, ad_ii, gx_ii, lof_l, lof_t, oNone, oSome, slD, dSl, itRev, maxDf,  sub_ii, neg_i, lt_ii, le_ii, gt_ii, ge_ii, seq_lst, seq_tup, zip_tt, zip_tl, zip_lt, zip_ll, er_dat, er_lst, tuple_lst, tuple_tup, len_lst, len_tup, max_ii, min_ii, abs_n, c0, c1, c2, c3, dEq_int, dNe_int, dEq_bl, isi_int_int, isi_bool_int, isi_bool_bl, isi_int_bl, isi_tuple_tup, isi_list_lst, isn_non, isn_tup, isn_int, nn_non, nn_tup, nn_int, isn_obj, nn_obj, List.getElem?_cons_zero, List.getElem?_cons_succ, List.set_cons_zero, List.set_cons_succ, List.length_cons, List.length_nil, List.length_map, List.map_cons, List.map_nil, List.replicate_succ, List.replicate_zero, List.cons_append, List.nil_append, if_true, if_false, Bool.false_eq_true, ite_self, Bool.not_true, Bool.not_false, Nat.reduceAdd, Nat.reduceLT, Nat.zero_add, h1, h2, h3, h4, dDiv_ok d2, dDiv_ok d8, dDiv_ok (d5 _), dMul_ok m1, dMul_ok m2, dMod_ok (j := 2) (by decide), dMod_ok (j := 4) (by decide), dMod_ok (j := 10009) (by decide), dMod_ok (j := 3) (by decide)]; done)
    | (refine ⟨(c * (69621 + 2 * (k : Int))).fmod ((10 : Int) ^ (Int.toNat 10) + 19 + (k : Int)), ⟨q4.1, q4'⟩, ?_⟩; simp only [d_k06_law_weight, sd_k06_law_weight, sSeq, sIf, sRet, sSet, sNil, sFor, sExc, sRetN, sCont, sBrk, toM, toD, DA.bin, una, tst, calD, callM, cst, andD, orD, notD, ifD, isB, notB, andB, orB, aNil, aCons, itSeq, itRange1, itRange2, itZip, rd, ob_ok, ob_ex, ob_st, om_ok, om_ex, on_ok, gSet, gTupD, gsNil, gsCons, tYesB, runD, fin_rt, fin_nx, fin_ex, asB_bl, add_ii, ad_ii, gx_ii, lof_l, lof_t, oNone, oSome, slD, dSl, itRev, maxDf,  sub_ii, neg_i, lt_ii, le_ii, gt_ii, ge_ii, seq_lst, seq_tup, zip_tt, zip_tl, zip_lt, zip_ll, er_dat, er_lst, tuple_lst, tuple_tup, len_lst, len_tup, max_ii, min_ii, abs_n, c0, c1, c2, c3, dEq_int, dNe_int, dEq_bl, isi_int_int, isi_bool_int, isi_bool_bl, isi_int_bl, isi_tuple_tup, isi_list_lst, isn_non, isn_tup, isn_int, nn_non, nn_tup, nn_int, isn_obj, nn_obj, List.getElem?_cons_zero, List.getElem?_cons_succ, List.set_cons_zero, List.set_cons_succ, List.length_cons, List.length_nil, List.length_map, List.map_cons, List.map_nil, List.replicate_succ, List.replicate_zero, List.cons_append, List.nil_append, if_true, if_false, Bool.false_eq_true, ite_self, Bool.not_true, Bool.not_false, Nat.reduceAdd, Nat.reduceLT, Nat.zero_add, h1, h2, h3, h4, dDiv_ok d2, dDiv_ok d8, dMul_ok m1, dMul_ok m2, dMod_ok (j := 2) (by decide), dMod_ok (j := 4) (by decide), dPow_ok pw, dMod_ok z]; done)
theorem made (x : Addr) (w : List Int) (hw : ∀ a ∈ w, 0 ≤ a) : i_Weights x [.lst (IL w)] = .ok [("weights", .tup (IL w))] := by
  have L := forD_ind (g := gSet 2) (b := sl_Weights_init_1) (fun ds ρ => (∃ v, ds = IL v ∧ ∀ a ∈ v, 0 ≤ a) ∧ ∃ y, ρ = [some (.dat (.loc x)), some (.dat (.lst (IL w))), y]) (fun o => ∃ y, o = .ok (.nx, [some (.dat (.loc x)), some (.dat (.lst (IL w))), y]))
    (fun ρ ⟨_, y, e⟩ => ⟨y, by rw [e]⟩) (fun d ds ρ ⟨⟨v, e, p⟩, y, eρ⟩ => by
      cases v with
      | nil => cases e
      | cons a v =>
        injection e with e1 e2
        subst e1 e2 eρ
        have n : decide (a < 0) = false := by have := p a (by simp); exact decide_eq_false (by omega)
        refine ⟨_, rfl, .inl ⟨[some (.dat (.loc x)), some (.dat (.lst (IL w))), some (.dat (.int a))], ?_, ⟨v, rfl, fun b hb => p b (by simp [hb])⟩, _, rfl⟩⟩
        simp only [sl_Weights_init_1, sSeq, sIf, sRet, sSet, sNil, sFor, sExc, sRetN, sCont, sBrk, toM, toD, DA.bin, una, tst, calD, callM, cst, andD, orD, notD, ifD, isB, notB, andB, orB, aNil, aCons, itSeq, itRange1, itRange2, itZip, rd, ob_ok, ob_ex, ob_st, om_ok, om_ex, on_ok, gSet, gTupD, gsNil, gsCons, tYesB, runD, fin_rt, fin_nx, fin_ex, asB_bl, add_ii, ad_ii, gx_ii, lof_l, lof_t, oNone, oSome, slD, dSl, itRev, maxDf,  sub_ii, neg_i, lt_ii, le_ii, gt_ii, ge_ii, seq_lst, seq_tup, zip_tt, zip_tl, zip_lt, zip_ll, er_dat, er_lst, tuple_lst, tuple_tup, len_lst, len_tup, max_ii, min_ii, abs_n, c0, c1, c2, c3, dEq_int, dNe_int, dEq_bl, isi_int_int, isi_bool_int, isi_bool_bl, isi_int_bl, isi_tuple_tup, isi_list_lst, isn_non, isn_tup, isn_int, nn_non, nn_tup, nn_int, isn_obj, nn_obj, List.getElem?_cons_zero, List.getElem?_cons_succ, List.set_cons_zero, List.set_cons_succ, List.length_cons, List.length_nil, List.length_map, List.map_cons, List.map_nil, List.replicate_succ, List.replicate_zero, List.cons_append, List.nil_append, if_true, if_false, Bool.false_eq_true, ite_self, Bool.not_true, Bool.not_false, Nat.reduceAdd, Nat.reduceLT, Nat.zero_add, n])
  obtain ⟨y, e⟩ := L (IL w) [some (.dat (.loc x)), some (.dat (.lst (IL w))), none] ⟨⟨w, rfl, hw⟩, _, rfl⟩
  unfold i_Weights runI si_Weights
  rw [if_pos (show ([.lst (IL w)] : List D).length = 1 from rfl)]
  have e2 : sFor (itSeq (rd 1)) (gSet 2) sl_Weights_init_1 (((D.loc x :: [D.lst (IL w)]).map fun d => some (M.dat d)) ++ List.replicate 1 none) = .ok (.nx, [some (.dat (.loc x)), some (.dat (.lst (IL w))), y]) := by
    simp only [sSeq, sIf, sRet, sSet, sNil, sFor, sExc, sRetN, sCont, sBrk, toM, toD, DA.bin, una, tst, calD, callM, cst, andD, orD, notD, ifD, isB, notB, andB, orB, aNil, aCons, itSeq, itRange1, itRange2, itZip, rd, ob_ok, ob_ex, ob_st, om_ok, om_ex, on_ok, gSet, gTupD, gsNil, gsCons, tYesB, runD, fin_rt, fin_nx, fin_ex, asB_bl, add_ii, ad_ii, gx_ii, lof_l, lof_t, oNone, oSome, slD, dSl, itRev, maxDf,  sub_ii, neg_i, lt_ii, le_ii, gt_ii, ge_ii, seq_lst, seq_tup, zip_tt, zip_tl, zip_lt, zip_ll, er_dat, er_lst, tuple_lst, tuple_tup, len_lst, len_tup, max_ii, min_ii, abs_n, c0, c1, c2, c3, dEq_int, dNe_int, dEq_bl, isi_int_int, isi_bool_int, isi_bool_bl, isi_int_bl, isi_tuple_tup, isi_list_lst, isn_non, isn_tup, isn_int, nn_non, nn_tup, nn_int, isn_obj, nn_obj, List.getElem?_cons_zero, List.getElem?_cons_succ, List.set_cons_zero, List.set_cons_succ, List.length_cons, List.length_nil, List.length_map, List.map_cons, List.map_nil, List.replicate_succ, List.replicate_zero, List.cons_append, List.nil_append, if_true, if_false, Bool.false_eq_true, ite_self, Bool.not_true, Bool.not_false, Nat.reduceAdd, Nat.reduceLT, Nat.zero_add, e]
  unfold iPre
  rw [e2]
  exact iset_ok (by simp only [sSeq, sIf, sRet, sSet, sNil, sFor, sExc, sRetN, sCont, sBrk, toM, toD, DA.bin, una, tst, calD, callM, cst, andD, orD, notD, ifD, isB, notB, andB, orB, aNil, aCons, itSeq, itRange1, itRange2, itZip, rd, ob_ok, ob_ex, ob_st, om_ok, om_ex, on_ok, gSet, gTupD, gsNil, gsCons, tYesB, runD, fin_rt, fin_nx, fin_ex, asB_bl, add_ii, ad_ii, gx_ii, lof_l, lof_t, oNone, oSome, slD, dSl, itRev, maxDf,  sub_ii, neg_i, lt_ii, le_ii, gt_ii, ge_ii, seq_lst, seq_tup, zip_tt, zip_tl, zip_lt, zip_ll, er_dat, er_lst, tuple_lst, tuple_tup, len_lst, len_tup, max_ii, min_ii, abs_n, c0, c1, c2, c3, dEq_int, dNe_int, dEq_bl, isi_int_int, isi_bool_int, isi_bool_bl, isi_int_bl, isi_tuple_tup, isi_list_lst, isn_non, isn_tup, isn_int, nn_non, nn_tup, nn_int, isn_obj, nn_obj, List.getElem?_cons_zero, List.getElem?_cons_succ, List.set_cons_zero, List.set_cons_succ, List.length_cons, List.length_nil, List.length_map, List.map_cons, List.map_nil, List.replicate_succ, List.replicate_zero, List.cons_append, List.nil_append, if_true, if_false, Bool.false_eq_true, ite_self, Bool.not_true, Bool.not_false, Nat.reduceAdd, Nat.reduceLT, Nat.zero_add]) rfl rfl (by decide) rfl
theorem newW (w : List Int) (hw : ∀ a ∈ w, 0 ≤ a) : newD "Weights" i_Weights [.lst (IL w)] = .ok (ob (.wei w)) := newD_ok (acc := [("weights", .tup (IL w))]) fun x => made x w hw
def kd (n : Nat) (w : List Int) : Kd := match n with
  | 0 => .lex
  | 1 => .deg
  | 2 => .tail
  | _ => .wei w
theorem order (n : Nat) (hn : n < 4) (w : List Int) (hw : ∀ a ∈ w, 0 ≤ a) : d_k06_law_order [.int n, .lst (IL w)] = .ok (.dat (ob (kd n w))) := by
  have nw := newW w hw
  match n, hn with
  | 0, _ => rfl
  | 1, _ => rfl
  | 2, _ => rfl
  | 3, _ =>
    have e0 : (((3 : Nat) : Int) == 0) = false := by decide
    have e1 : (((3 : Nat) : Int) == 1) = false := by decide
    have e2 : (((3 : Nat) : Int) == 2) = false := by decide
    simp only [d_k06_law_order, sd_k06_law_order, sSeq, sIf, sRet, sSet, sNil, sFor, sExc, sRetN, sCont, sBrk, toM, toD, DA.bin, una, tst, calD, callM, cst, andD, orD, notD, ifD, isB, notB, andB, orB, aNil, aCons, itSeq, itRange1, itRange2, itZip, rd, ob_ok, ob_ex, ob_st, om_ok, om_ex, on_ok, gSet, gTupD, gsNil, gsCons, tYesB, runD, fin_rt, fin_nx, fin_ex, asB_bl, add_ii, ad_ii, gx_ii, lof_l, lof_t, oNone, oSome, slD, dSl, itRev, maxDf,  sub_ii, neg_i, lt_ii, le_ii, gt_ii, ge_ii, seq_lst, seq_tup, zip_tt, zip_tl, zip_lt, zip_ll, er_dat, er_lst, tuple_lst, tuple_tup, len_lst, len_tup, max_ii, min_ii, abs_n, c0, c1, c2, c3, dEq_int, dNe_int, dEq_bl, isi_int_int, isi_bool_int, isi_bool_bl, isi_int_bl, isi_tuple_tup, isi_list_lst, isn_non, isn_tup, isn_int, nn_non, nn_tup, nn_int, isn_obj, nn_obj, List.getElem?_cons_zero, List.getElem?_cons_succ, List.set_cons_zero, List.set_cons_succ, List.length_cons, List.length_nil, List.length_map, List.map_cons, List.map_nil, List.replicate_succ, List.replicate_zero, List.cons_append, List.nil_append, if_true, if_false, Bool.false_eq_true, ite_self, Bool.not_true, Bool.not_false, Nat.reduceAdd, Nat.reduceLT, Nat.zero_add, show ((3 : Int) == 0) = false from by decide, show ((3 : Int) == 1) = false from by decide, show ((3 : Int) == 2) = false from by decide, e0, e1, e2, newF, nw, kd]
def mx (w : List Int) : Int := match w with
  | [] => 0
  | n :: ms => ms.foldl max n
theorem fold_ge : ∀ (ms : List Int) (n : Int), n ≤ ms.foldl max n ∧ ∀ a ∈ ms, a ≤ ms.foldl max n
  | [], n => ⟨Int.le_refl _, fun _ h => by cases h⟩
  | m :: ms, n => by
    obtain ⟨h1, h2⟩ := fold_ge ms (max n m)
    rw [List.foldl_cons]
    refine ⟨by omega, fun a ha => ?_⟩
    rcases List.mem_cons.mp ha with e | e
    · subst e; omega
    · exact h2 a e
theorem fold_zero : ∀ (ms : List Int), (∀ a ∈ ms, a = 0) → ms.foldl max 0 = 0
  | [], _ => rfl
  | m :: ms, h => by
    rw [List.foldl_cons, h m (by simp)]
    exact fold_zero ms fun a ha => h a (by simp [ha])
theorem mx_zero {w : List Int} (p : ∀ a ∈ w, 0 ≤ a) : mx w = 0 ↔ ∀ a ∈ w, a = 0 := by
  cases w with
  | nil => simp [mx]
  | cons n ms =>
    obtain ⟨h1, h2⟩ := fold_ge ms n
    constructor
    · intro e a ha
      have e : ms.foldl max n = 0 := e
      have p0 := p a ha
      rcases List.mem_cons.mp ha with q | q
      · subst q; omega
      · have := h2 a q; omega
    · intro z
      show ms.foldl max n = 0
      rw [z n (by simp)]
      exact fold_zero ms fun a ha => z a (by simp [ha])
def takes (o : Kd) (k : Nat) : Bool := match o with
  | .lex => true
  | .deg => false
  | .tail => false
  | .wei w => mx (w.drop k) == 0
theorem takes_ok (o : Kd) (k : Nat) (hk : ∀ w, o = .wei w → k ≤ w.length) : ∃ f, mtR "takes_out" t_takes_out (ob o) = .ok f ∧ f [ob o, .int k] = .ok (.dat (.bl (takes o k))) := by
  cases o with
  | lex => exact ⟨_, mtR_ok (by decide +kernel) lk_hd, rfl⟩
  | deg => exact ⟨_, mtR_ok (by decide +kernel) ((lk_tl (by decide +kernel)).trans lk_hd), rfl⟩
  | tail => exact ⟨_, mtR_ok (by decide +kernel) ((lk_tl (by decide +kernel)).trans ((lk_tl (by decide +kernel)).trans lk_hd)), rfl⟩
  | wei w =>
    refine ⟨_, mtR_ok (by decide +kernel) ((lk_tl (by decide +kernel)).trans ((lk_tl (by decide +kernel)).trans ((lk_tl (by decide +kernel)).trans lk_hd))), ?_⟩
    have fl : dFld ["Weights"] "weights" (ob (.wei w)) = .ok (.tup (IL w)) := fld_ok (by decide +kernel) rfl
    have h := hk w rfl
    have mm : dMaxD (.tup (IL (w.drop k))) (.int 0) = .ok (.int (mx (w.drop k))) := by
      rw [maxD_t]
      cases w.drop k <;> rfl
    have sl : cutL (IL w) (some (k : Int)) none = IL (w.drop k) := by rw [cutL_map, cutL_from h]
    simp only [d_Weights_takes_out, sd_Weights_takes_out, sSeq, sIf, sRet, sSet, sNil, sFor, sExc, sRetN, sCont, sBrk, toM, toD, DA.bin, una, tst, calD, callM, cst, andD, orD, notD, ifD, isB, notB, andB, orB, aNil, aCons, itSeq, itRange1, itRange2, itZip, rd, ob_ok, ob_ex, ob_st, om_ok, om_ex, on_ok, gSet, gTupD, gsNil, gsCons, tYesB, runD, fin_rt, fin_nx, fin_ex, asB_bl, add_ii, ad_ii, gx_ii, lof_l, lof_t, oNone, oSome, slD, dSl, itRev, maxDf,  sub_ii, neg_i, lt_ii, le_ii, gt_ii, ge_ii, seq_lst, seq_tup, zip_tt, zip_tl, zip_lt, zip_ll, er_dat, er_lst, tuple_lst, tuple_tup, len_lst, len_tup, max_ii, min_ii, abs_n, c0, c1, c2, c3, dEq_int, dNe_int, dEq_bl, isi_int_int, isi_bool_int, isi_bool_bl, isi_int_bl, isi_tuple_tup, isi_list_lst, isn_non, isn_tup, isn_int, nn_non, nn_tup, nn_int, isn_obj, nn_obj, List.getElem?_cons_zero, List.getElem?_cons_succ, List.set_cons_zero, List.set_cons_succ, List.length_cons, List.length_nil, List.length_map, List.map_cons, List.map_nil, List.replicate_succ, List.replicate_zero, List.cons_append, List.nil_append, if_true, if_false, Bool.false_eq_true, ite_self, Bool.not_true, Bool.not_false, Nat.reduceAdd, Nat.reduceLT, Nat.zero_add, fl, sl, mm, takes]
/-! ### one power alone -/
def on (at_ : Nat) (p : Int) (n : Nat) : List Int := (List.range n).map fun k => if k = at_ then p else 0
theorem on_len (a : Nat) (p : Int) (n : Nat) : (on a p n).length = n := by simp [on]
theorem only (a n : Nat) (p : Int) (hn : n ≤ 900) : d_k06_law_only [.int a, .int p, .int n] = .ok (.dat (.tup (IL (on a p n)))) := by
  have f : fits62 (n : Int) := fits_of (by omega) (by omega)
  have e := lcD_map (fi := itRange1 (aCons (rd 2) aNil)) (vs := [3]) (g := gSet 3) (f := ifD (tst dEq (rd 3) (rd 0)) (rd 1) (cst (.int 0))) (ρ := [some (.dat (.int a)), some (.dat (.int p)), some (.dat (.int n)), none])
    (fun k : Nat => D.int (k : Int)) (fun k => D.int (if k = a then p else 0)) (List.range n) (by simp only [sSeq, sIf, sRet, sSet, sNil, sFor, sExc, sRetN, sCont, sBrk, toM, toD, DA.bin, una, tst, calD, callM, cst, andD, orD, notD, ifD, isB, notB, andB, orB, aNil, aCons, itSeq, itRange1, itRange2, itZip, rd, ob_ok, ob_ex, ob_st, om_ok, om_ex, on_ok, gSet, gTupD, gsNil, gsCons, tYesB, runD, fin_rt, fin_nx, fin_ex, asB_bl, add_ii, ad_ii, gx_ii, lof_l, lof_t, oNone, oSome, slD, dSl, itRev, maxDf,  sub_ii, neg_i, lt_ii, le_ii, gt_ii, ge_ii, seq_lst, seq_tup, zip_tt, zip_tl, zip_lt, zip_ll, er_dat, er_lst, tuple_lst, tuple_tup, len_lst, len_tup, max_ii, min_ii, abs_n, c0, c1, c2, c3, dEq_int, dNe_int, dEq_bl, isi_int_int, isi_bool_int, isi_bool_bl, isi_int_bl, isi_tuple_tup, isi_list_lst, isn_non, isn_tup, isn_int, nn_non, nn_tup, nn_int, isn_obj, nn_obj, List.getElem?_cons_zero, List.getElem?_cons_succ, List.set_cons_zero, List.set_cons_succ, List.length_cons, List.length_nil, List.length_map, List.map_cons, List.map_nil, List.replicate_succ, List.replicate_zero, List.cons_append, List.nil_append, if_true, if_false, Bool.false_eq_true, ite_self, Bool.not_true, Bool.not_false, Nat.reduceAdd, Nat.reduceLT, Nat.zero_add, rng1 f, rangeL_map, Int.toNat_natCast]) (le_size (by rw [List.length_range]; omega)) (fun k _ => ⟨[some (.dat (.int a)), some (.dat (.int p)), some (.dat (.int n)), some (.dat (.int k))], rfl, by
      have b : (((k : Nat) : Int) == (a : Int)) = decide (k = a) := by
        rw [Bool.eq_iff_iff, beq_iff_eq, decide_eq_true_iff]; omega
      simp only [sSeq, sIf, sRet, sSet, sNil, sFor, sExc, sRetN, sCont, sBrk, toM, toD, DA.bin, una, tst, calD, callM, cst, andD, orD, notD, ifD, isB, notB, andB, orB, aNil, aCons, itSeq, itRange1, itRange2, itZip, rd, ob_ok, ob_ex, ob_st, om_ok, om_ex, on_ok, gSet, gTupD, gsNil, gsCons, tYesB, runD, fin_rt, fin_nx, fin_ex, asB_bl, add_ii, ad_ii, gx_ii, lof_l, lof_t, oNone, oSome, slD, dSl, itRev, maxDf,  sub_ii, neg_i, lt_ii, le_ii, gt_ii, ge_ii, seq_lst, seq_tup, zip_tt, zip_tl, zip_lt, zip_ll, er_dat, er_lst, tuple_lst, tuple_tup, len_lst, len_tup, max_ii, min_ii, abs_n, c0, c1, c2, c3, dEq_int, dNe_int, dEq_bl, isi_int_int, isi_bool_int, isi_bool_bl, isi_int_bl, isi_tuple_tup, isi_list_lst, isn_non, isn_tup, isn_int, nn_non, nn_tup, nn_int, isn_obj, nn_obj, List.getElem?_cons_zero, List.getElem?_cons_succ, List.set_cons_zero, List.set_cons_succ, List.length_cons, List.length_nil, List.length_map, List.map_cons, List.map_nil, List.replicate_succ, List.replicate_zero, List.cons_append, List.nil_append, if_true, if_false, Bool.false_eq_true, ite_self, Bool.not_true, Bool.not_false, Nat.reduceAdd, Nat.reduceLT, Nat.zero_add, b]
      by_cases q : k = a <;> simp [q]⟩)
  have e2 : ((List.range n).map fun k => D.int (if k = a then p else 0)) = IL (on a p n) := by simp only [IL, on, List.map_map]; rfl
  rw [e2] at e
  simp only [d_k06_law_only, sd_k06_law_only, sSeq, sIf, sRet, sSet, sNil, sFor, sExc, sRetN, sCont, sBrk, toM, toD, DA.bin, una, tst, calD, callM, cst, andD, orD, notD, ifD, isB, notB, andB, orB, aNil, aCons, itSeq, itRange1, itRange2, itZip, rd, ob_ok, ob_ex, ob_st, om_ok, om_ex, on_ok, gSet, gTupD, gsNil, gsCons, tYesB, runD, fin_rt, fin_nx, fin_ex, asB_bl, add_ii, ad_ii, gx_ii, lof_l, lof_t, oNone, oSome, slD, dSl, itRev, maxDf,  sub_ii, neg_i, lt_ii, le_ii, gt_ii, ge_ii, seq_lst, seq_tup, zip_tt, zip_tl, zip_lt, zip_ll, er_dat, er_lst, tuple_lst, tuple_tup, len_lst, len_tup, max_ii, min_ii, abs_n, c0, c1, c2, c3, dEq_int, dNe_int, dEq_bl, isi_int_int, isi_bool_int, isi_bool_bl, isi_int_bl, isi_tuple_tup, isi_list_lst, isn_non, isn_tup, isn_int, nn_non, nn_tup, nn_int, isn_obj, nn_obj, List.getElem?_cons_zero, List.getElem?_cons_succ, List.set_cons_zero, List.set_cons_succ, List.length_cons, List.length_nil, List.length_map, List.map_cons, List.map_nil, List.replicate_succ, List.replicate_zero, List.cons_append, List.nil_append, if_true, if_false, Bool.false_eq_true, ite_self, Bool.not_true, Bool.not_false, Nat.reduceAdd, Nat.reduceLT, Nat.zero_add, e]
theorem sum_on : ∀ (n a : Nat) (p : Int), a < n → (on a p n).sum = p := by
  intro n
  induction n with
  | zero => intro a p h; omega
  | succ n ih =>
    intro a p h
    have e : on a p (n + 1) = on a p n ++ [if n = a then p else 0] := by simp only [on, List.range_succ, List.map_append, List.map_cons, List.map_nil]
    rw [e, List.sum_append]
    by_cases q : n = a
    · subst q
      have z : on n p n = ze n := by
        refine List.eq_replicate_iff.mpr ⟨on_len _ _ _, fun b hb => ?_⟩
        obtain ⟨k, hk, rfl⟩ := List.mem_map.mp hb
        exact if_neg (by have := List.mem_range.mp hk; omega)
      rw [z, if_pos rfl]
      simp
    · rw [ih a p (by omega), if_neg q]
      simp
theorem dot_on : ∀ (w : List Int) (n a : Nat) (p : Int), n = w.length → (ha : a < w.length) → dot (on a p n) w = p * w[a] := by
  intro w
  induction w with
  | nil => intro n a p _ h; cases h
  | cons b w ih =>
    intro n a p hn ha
    subst hn
    have e : on a p (w.length + 1) = (if 0 = a then p else 0) :: (match a with | 0 => ze w.length | a + 1 => on a p w.length) := by
      unfold on
      rw [List.range_succ_eq_map, List.map_cons, List.map_map]
      congr 1
      cases a with
      | zero =>
        refine List.eq_replicate_iff.mpr ⟨by simp, fun c hc => ?_⟩
        obtain ⟨k, hk, rfl⟩ := List.mem_map.mp hc
        show (if k + 1 = 0 then p else 0) = 0
        rw [if_neg (by omega)]
      | succ a =>
        refine List.map_congr_left fun k _ => ?_
        show (if k + 1 = a + 1 then p else 0) = if k = a then p else 0
        by_cases q : k = a <;> simp [q]
    show dot (on a p (w.length + 1)) (b :: w) = p * (b :: w)[a]
    rw [e, dot_cons]
    cases a with
    | zero => rw [if_pos rfl, dot_zero]; simp
    | succ a =>
      rw [if_neg (by omega), ih w.length a p rfl (by simpa using ha)]
      simp
/-! ### where the order does not take out -/
def pw (o : Kd) : Int := match o with
  | .wei w => w.getD 0 0 + 1
  | _ => 2
theorem not_out_val {o : Kd} (n k : Nat) (hn : n ≤ 900) (hk : 1 ≤ k) (hkn : k < n) (hw : Wk o) (hl : ∀ w, o = .wei w → w.length = n) (ht : takes o k = false) : ∃ a, k ≤ a ∧ a < n ∧ gb o (on a (pw o) n) (on 0 1 n) = true := by
  cases o with
  | lex => cases ht
  | deg => exact ⟨k, Nat.le_refl _, hkn, lt_head (by rw [sum_on n k _ hkn, sum_on n 0 1 (by omega)]; decide)⟩
  | tail => exact ⟨k, Nat.le_refl _, hkn, lt_head (by rw [sum_on n k _ hkn, sum_on n 0 1 (by omega)]; decide)⟩
  | wei w =>
    have l := hl w rfl
    have p : ∀ a ∈ w, 0 ≤ a := fun a ha => (hw w rfl a ha).1
    have nz : ¬ ∀ a ∈ w.drop k, a = 0 := fun z => by
      have := (mx_zero (w := w.drop k) fun a ha => p a (List.mem_of_mem_drop ha)).mpr z
      simp only [takes, this, beq_self_eq_true] at ht
      cases ht
    obtain ⟨a, ha, na⟩ : ∃ a ∈ w.drop k, a ≠ 0 := Classical.byContradiction fun q => nz fun a ha => Classical.byContradiction fun z => q ⟨a, ha, z⟩
    obtain ⟨i, hi, e⟩ := List.mem_iff_getElem.mp ha
    rw [List.length_drop] at hi
    rw [List.getElem_drop] at e
    have hi2 : k + i < w.length := by omega
    refine ⟨k + i, by omega, by omega, ?_⟩
    show lt (dot (on 0 1 n) w :: _) (dot (on (k + i) (w.getD 0 0 + 1) n) w :: _) = true
    rw [dot_on w n 0 1 l.symm (by omega), dot_on w n (k + i) _ l.symm hi2, e]
    refine lt_head ?_
    have g0 : w.getD 0 0 = w[0] := by rw [List.getD_eq_getElem?_getD, List.getElem?_eq_getElem (by omega)]; rfl
    rw [g0]
    have p0 := p w[0] (List.getElem_mem _)
    have pa := p a (List.mem_of_mem_drop ha)
    have : (w[0] + 1) * 1 ≤ (w[0] + 1) * a := Int.mul_le_mul_of_nonneg_left (by omega) (by omega)
    omega
theorem not_out {o : Kd} (kn : Nat) (w : List Int) (hok : o = kd kn w) (hk4 : kn < 4) (n k : Nat) (hn : n ≤ 900) (hk : 1 ≤ k) (hkn : k < n) (hw : Wk o) (hl : w.length = n) (ht : takes o k = false) : d_k06_law_not_out [ob o, .int kn, .lst (IL w), .int k, .int n] = .ok (.dat (.bl true)) := by
  obtain ⟨a, ha, han, hg⟩ := not_out_val n k hn hk hkn hw (fun v e => by
    subst e
    match kn, hk4 with
    | 0, _ => cases hok
    | 1, _ => cases hok
    | 2, _ => cases hok
    | 3, _ => injection hok with e; rw [e]; exact hl) ht
  have o1 := only 0 n 1 hn
  have mg := mGB o
  have ix : dIx (.lst (IL w)) (.int 0) = .ok (.int (w.getD 0 0)) := by
    have := dIx_lst (ds := IL w) (k := 0) (by simp; omega)
    rw [List.getElem_map] at this
    rw [List.getD_eq_getElem?_getD, List.getElem?_eq_getElem (by omega)]
    exact this
  have L := forD_ind (g := gSet 6) (b := sl_k06_law_not_out_1) (fun ds ρ => (∃ j : Nat, ds = rangeL j n ∧ j ≤ a) ∧ ∃ x y, ρ = [some (.dat (ob o)), some (.dat (.int kn)), some (.dat (.lst (IL w))), some (.dat (.int k)), some (.dat (.int n)), some (.dat (.tup (IL (on 0 1 n)))), x, y]) (fun r => ∃ ρ, r = .ok (.rt (.dat (.bl true)), ρ))
    (fun ρ ⟨⟨j, e, hj⟩, _⟩ => by
      rw [rangeL_cons (by omega)] at e
      cases e) (fun d ds ρ ⟨⟨j, e, hj⟩, x, y, eρ⟩ => by
      rw [rangeL_cons (by omega)] at e
      injection e with e1 e2
      subst e1 e2 eρ
      have g := GB hw (x := on j (pw o) n) (y := on 0 1 n) (by rw [on_len]; exact hn) (by rw [on_len]; exact hn)
      have oj := only j n (pw o) hn
      have pe : pw o = if kn = 3 then w.getD 0 0 + 1 else 2 := by
        rw [hok]
        match kn, hk4 with
        | 0, _ => rfl
        | 1, _ => rfl
        | 2, _ => rfl
        | 3, _ => rfl
      have b3 : ((kn : Int) == 3) = decide (kn = 3) := by rw [Bool.eq_iff_iff, beq_iff_eq, decide_eq_true_iff]; omega
      refine ⟨_, rfl, ?_⟩
      cases hgj : gb o (on j (pw o) n) (on 0 1 n) with
      | true =>
        rw [hgj] at g
        refine .inr (.inr (.inl ⟨.dat (.bl true), [some (.dat (ob o)), some (.dat (.int kn)), some (.dat (.lst (IL w))), some (.dat (.int k)), some (.dat (.int n)), some (.dat (.tup (IL (on 0 1 n)))), some (.dat (.int j)), some (.dat (.int (pw o)))], ?_, _, rfl⟩))
        by_cases q : kn = 3
        · rw [if_pos q] at pe
          rw [decide_eq_true q] at b3
          simp only [sl_k06_law_not_out_1, sSeq, sIf, sRet, sSet, sNil, sFor, sExc, sRetN, sCont, sBrk, toM, toD, DA.bin, una, tst, calD, callM, cst, andD, orD, notD, ifD, isB, notB, andB, orB, aNil, aCons, itSeq, itRange1, itRange2, itZip, rd, ob_ok, ob_ex, ob_st, om_ok, om_ex, on_ok, gSet, gTupD, gsNil, gsCons, tYesB, runD, fin_rt, fin_nx, fin_ex, asB_bl, add_ii, ad_ii, gx_ii, lof_l, lof_t, oNone, oSome, slD, dSl, itRev, maxDf,  sub_ii, neg_i, lt_ii, le_ii, gt_ii, ge_ii, seq_lst, seq_tup, zip_tt, zip_tl, zip_lt, zip_ll, er_dat, er_lst, tuple_lst, tuple_tup, len_lst, len_tup, max_ii, min_ii, abs_n, c0, c1, c2, c3, dEq_int, dNe_int, dEq_bl, isi_int_int, isi_bool_int, isi_bool_bl, isi_int_bl, isi_tuple_tup, isi_list_lst, isn_non, isn_tup, isn_int, nn_non, nn_tup, nn_int, isn_obj, nn_obj, List.getElem?_cons_zero, List.getElem?_cons_succ, List.set_cons_zero, List.set_cons_succ, List.length_cons, List.length_nil, List.length_map, List.map_cons, List.map_nil, List.replicate_succ, List.replicate_zero, List.cons_append, List.nil_append, if_true, if_false, Bool.false_eq_true, ite_self, Bool.not_true, Bool.not_false, Nat.reduceAdd, Nat.reduceLT, Nat.zero_add, b3, ix, ← pe, oj, mtC, mg, g]
        · rw [if_neg q] at pe
          rw [pe] at oj g ⊢
          rw [decide_eq_false q] at b3
          simp only [sl_k06_law_not_out_1, sSeq, sIf, sRet, sSet, sNil, sFor, sExc, sRetN, sCont, sBrk, toM, toD, DA.bin, una, tst, calD, callM, cst, andD, orD, notD, ifD, isB, notB, andB, orB, aNil, aCons, itSeq, itRange1, itRange2, itZip, rd, ob_ok, ob_ex, ob_st, om_ok, om_ex, on_ok, gSet, gTupD, gsNil, gsCons, tYesB, runD, fin_rt, fin_nx, fin_ex, asB_bl, add_ii, ad_ii, gx_ii, lof_l, lof_t, oNone, oSome, slD, dSl, itRev, maxDf,  sub_ii, neg_i, lt_ii, le_ii, gt_ii, ge_ii, seq_lst, seq_tup, zip_tt, zip_tl, zip_lt, zip_ll, er_dat, er_lst, tuple_lst, tuple_tup, len_lst, len_tup, max_ii, min_ii, abs_n, c0, c1, c2, c3, dEq_int, dNe_int, dEq_bl, isi_int_int, isi_bool_int, isi_bool_bl, isi_int_bl, isi_tuple_tup, isi_list_lst, isn_non, isn_tup, isn_int, nn_non, nn_tup, nn_int, isn_obj, nn_obj, List.getElem?_cons_zero, List.getElem?_cons_succ, List.set_cons_zero, List.set_cons_succ, List.length_cons, List.length_nil, List.length_map, List.map_cons, List.map_nil, List.replicate_succ, List.replicate_zero, List.cons_append, List.nil_append, if_true, if_false, Bool.false_eq_true, ite_self, Bool.not_true, Bool.not_false, Nat.reduceAdd, Nat.reduceLT, Nat.zero_add, b3, oj, mtC, mg, g]
      | false =>
        have ja : j ≠ a := fun e => by rw [e, hg] at hgj; cases hgj
        rw [hgj] at g
        refine .inl ⟨[some (.dat (ob o)), some (.dat (.int kn)), some (.dat (.lst (IL w))), some (.dat (.int k)), some (.dat (.int n)), some (.dat (.tup (IL (on 0 1 n)))), some (.dat (.int j)), some (.dat (.int (pw o)))], ?_, ⟨j + 1, by rw [Int.natCast_add]; rfl, by omega⟩, _, _, rfl⟩
        by_cases q : kn = 3
        · rw [if_pos q] at pe
          rw [decide_eq_true q] at b3
          simp only [sl_k06_law_not_out_1, sSeq, sIf, sRet, sSet, sNil, sFor, sExc, sRetN, sCont, sBrk, toM, toD, DA.bin, una, tst, calD, callM, cst, andD, orD, notD, ifD, isB, notB, andB, orB, aNil, aCons, itSeq, itRange1, itRange2, itZip, rd, ob_ok, ob_ex, ob_st, om_ok, om_ex, on_ok, gSet, gTupD, gsNil, gsCons, tYesB, runD, fin_rt, fin_nx, fin_ex, asB_bl, add_ii, ad_ii, gx_ii, lof_l, lof_t, oNone, oSome, slD, dSl, itRev, maxDf,  sub_ii, neg_i, lt_ii, le_ii, gt_ii, ge_ii, seq_lst, seq_tup, zip_tt, zip_tl, zip_lt, zip_ll, er_dat, er_lst, tuple_lst, tuple_tup, len_lst, len_tup, max_ii, min_ii, abs_n, c0, c1, c2, c3, dEq_int, dNe_int, dEq_bl, isi_int_int, isi_bool_int, isi_bool_bl, isi_int_bl, isi_tuple_tup, isi_list_lst, isn_non, isn_tup, isn_int, nn_non, nn_tup, nn_int, isn_obj, nn_obj, List.getElem?_cons_zero, List.getElem?_cons_succ, List.set_cons_zero, List.set_cons_succ, List.length_cons, List.length_nil, List.length_map, List.map_cons, List.map_nil, List.replicate_succ, List.replicate_zero, List.cons_append, List.nil_append, if_true, if_false, Bool.false_eq_true, ite_self, Bool.not_true, Bool.not_false, Nat.reduceAdd, Nat.reduceLT, Nat.zero_add, b3, ix, ← pe, oj, mtC, mg, g]
        · rw [if_neg q] at pe
          rw [pe] at oj g ⊢
          rw [decide_eq_false q] at b3
          simp only [sl_k06_law_not_out_1, sSeq, sIf, sRet, sSet, sNil, sFor, sExc, sRetN, sCont, sBrk, toM, toD, DA.bin, una, tst, calD, callM, cst, andD, orD, notD, ifD, isB, notB, andB, orB, aNil, aCons, itSeq, itRange1, itRange2, itZip, rd, ob_ok, ob_ex, ob_st, om_ok, om_ex, on_ok, gSet, gTupD, gsNil, gsCons, tYesB, runD, fin_rt, fin_nx, fin_ex, asB_bl, add_ii, ad_ii, gx_ii, lof_l, lof_t, oNone, oSome, slD, dSl, itRev, maxDf,  sub_ii, neg_i, lt_ii, le_ii, gt_ii, ge_ii, seq_lst, seq_tup, zip_tt, zip_tl, zip_lt, zip_ll, er_dat, er_lst, tuple_lst, tuple_tup, len_lst, len_tup, max_ii, min_ii, abs_n, c0, c1, c2, c3, dEq_int, dNe_int, dEq_bl, isi_int_int, isi_bool_int, isi_bool_bl, isi_int_bl, isi_tuple_tup, isi_list_lst, isn_non, isn_tup, isn_int, nn_non, nn_tup, nn_int, isn_obj, nn_obj, List.getElem?_cons_zero, List.getElem?_cons_succ, List.set_cons_zero, List.set_cons_succ, List.length_cons, List.length_nil, List.length_map, List.map_cons, List.map_nil, List.replicate_succ, List.replicate_zero, List.cons_append, List.nil_append, if_true, if_false, Bool.false_eq_true, ite_self, Bool.not_true, Bool.not_false, Nat.reduceAdd, Nat.reduceLT, Nat.zero_add, b3, oj, mtC, mg, g])
  obtain ⟨ρ, e⟩ := L (rangeL k n) [some (.dat (ob o)), some (.dat (.int kn)), some (.dat (.lst (IL w))), some (.dat (.int k)), some (.dat (.int n)), some (.dat (.tup (IL (on 0 1 n)))), none, none] ⟨⟨k, rfl, ha⟩, _, _, rfl⟩
  have f : fits62 (k : Int) ∧ fits62 (n : Int) := ⟨fits_of (by omega) (by omega), fits_of (by omega) (by omega)⟩
  have o1' : d_k06_law_only [.int 0, .int 1, .int n] = .ok (.dat (.tup (IL (on 0 1 n)))) := o1
  simp only [d_k06_law_not_out, sd_k06_law_not_out, sSeq, sIf, sRet, sSet, sNil, sFor, sExc, sRetN, sCont, sBrk, toM, toD, DA.bin, una, tst, calD, callM, cst, andD, orD, notD, ifD, isB, notB, andB, orB, aNil, aCons, itSeq, itRange1, itRange2, itZip, rd, ob_ok, ob_ex, ob_st, om_ok, om_ex, on_ok, gSet, gTupD, gsNil, gsCons, tYesB, runD, fin_rt, fin_nx, fin_ex, asB_bl, add_ii, ad_ii, gx_ii, lof_l, lof_t, oNone, oSome, slD, dSl, itRev, maxDf,  sub_ii, neg_i, lt_ii, le_ii, gt_ii, ge_ii, seq_lst, seq_tup, zip_tt, zip_tl, zip_lt, zip_ll, er_dat, er_lst, tuple_lst, tuple_tup, len_lst, len_tup, max_ii, min_ii, abs_n, c0, c1, c2, c3, dEq_int, dNe_int, dEq_bl, isi_int_int, isi_bool_int, isi_bool_bl, isi_int_bl, isi_tuple_tup, isi_list_lst, isn_non, isn_tup, isn_int, nn_non, nn_tup, nn_int, isn_obj, nn_obj, List.getElem?_cons_zero, List.getElem?_cons_succ, List.set_cons_zero, List.set_cons_succ, List.length_cons, List.length_nil, List.length_map, List.map_cons, List.map_nil, List.replicate_succ, List.replicate_zero, List.cons_append, List.nil_append, if_true, if_false, Bool.false_eq_true, ite_self, Bool.not_true, Bool.not_false, Nat.reduceAdd, Nat.reduceLT, Nat.zero_add, o1', rng2 f, e]
/-! ### where it takes out -/
theorem range_split (f : Nat → Int) (k m : Nat) : (List.range (k + m)).map f = (List.range k).map f ++ (List.range m).map (fun i => f (k + i)) := by
  rw [List.range_add, List.map_append, List.map_map]
  rfl
theorem dot_app : ∀ {x w y v : List Int}, x.length = w.length → dot (x ++ y) (w ++ v) = dot x w + dot y v
  | [], [], _, _, _ => by simp [dot]
  | [], _ :: _, _, _, l => by simp at l
  | _ :: _, [], _, _, l => by simp at l
  | a :: x, b :: w, y, v, l => by
    rw [List.cons_append, List.cons_append, dot_cons, dot_cons, dot_app (by simpa using l)]
    omega
theorem dot_nil : ∀ {x w : List Int}, (∀ a ∈ w, a = 0) → dot x w = 0
  | [], _, _ => by simp [dot]
  | _ :: _, [], _ => by simp [dot]
  | a :: x, b :: w, h => by
    rw [dot_cons, h b (by simp), Int.mul_zero, dot_nil fun c hc => h c (by simp [hc])]
    rfl
theorem gb_out {o : Kd} {l1 l2 r2 : List Int} (hw : Wk o) (ht : takes o l1.length = true) (hl : ∀ w, o = .wei w → w.length = l1.length + l2.length) (p1 : ∀ a ∈ l1, 0 ≤ a) (p2 : ∀ a ∈ l2, 0 ≤ a) (nz : ∃ a ∈ l1, a ≠ 0) : gb o (l1 ++ l2) (ze l1.length ++ r2) = true := by
  have lz := lt_zero (y := r2) (z := l2) p1 nz
  cases o with
  | lex => exact lz
  | deg => cases ht
  | tail => cases ht
  | wei w =>
    have p : ∀ a ∈ w, 0 ≤ a := fun a ha => (hw w rfl a ha).1
    have z : ∀ a ∈ w.drop l1.length, a = 0 := by
      refine (mx_zero fun a ha => p a (List.mem_of_mem_drop ha)).mp ?_
      have h : (mx (w.drop l1.length) == 0) = true := ht
      simpa using h
    have d0 : dot (ze l1.length ++ r2) w = 0 := by
      have e : dot (ze l1.length ++ r2) (w.take l1.length ++ w.drop l1.length) = 0 := by
        rw [dot_app (by rw [List.length_replicate, List.length_take, hl w rfl]; omega), dot_zero, dot_nil z]; rfl
      rwa [List.take_append_drop] at e
    show lt (dot (ze l1.length ++ r2) w :: _) (dot (l1 ++ l2) w :: _) = true
    rw [d0]
    have dn := dot_nonneg (x := l1 ++ l2) (w := w) (fun a ha => (List.mem_append.mp ha).elim (p1 a) (p2 a)) p
    by_cases e : dot (l1 ++ l2) w = 0
    · rw [e, lt_tail]; exact lz
    · exact lt_head (by omega)
theorem get_IL (a : List Int) (i : Nat) (h : i < a.length) : dIx (.tup (IL a)) (.int i) = .ok (.int (a.getD i 0)) := by
  rw [dIx_tup (by simpa using h), List.getElem_map, List.getD_eq_getElem?_getD, List.getElem?_eq_getElem h]; rfl
theorem out {o : Kd} {a b : List Int} {k n : Nat} (hn : n ≤ 900) (la : a.length = n) (lb : b.length = n) (hk : 1 ≤ k) (hkn : k ≤ n) (hw : Wk o) (ht : takes o k = true) (hl : ∀ w, o = .wei w → w.length = n) (pa : ∀ x ∈ a, 0 ≤ x) : d_k06_law_out [ob o, .tup (IL a), .tup (IL b), .int k] = .ok (.dat (.bl true)) := by
  have f : fits62 (n : Int) := fits_of (by omega) (by omega)
  have mg := mGB o
  have ge : ∀ i : Nat, decide ((k : Int) ≤ (i : Int)) = decide (k ≤ i) := fun i => by rw [Bool.eq_iff_iff, decide_eq_true_iff, decide_eq_true_iff]; omega
  have e1 := lcD_map (fi := itRange1 (aCons (calD dLen (aCons (rd 1) aNil)) aNil)) (vs := [6]) (g := gSet 6) (f := ifD (tst dGe (rd 6) (rd 3)) (DA.bin dIx (rd 1) (rd 6)) (DA.bin dMod (DA.bin dIx (rd 1) (rd 6)) (cst (.int 2)))) (ρ := [some (.dat (ob o)), some (.dat (.tup (IL a))), some (.dat (.tup (IL b))), some (.dat (.int k)), none, none, none])
    (fun i : Nat => D.int (i : Int)) (fun i => D.int (if k ≤ i then a.getD i 0 else (a.getD i 0).fmod 2)) (List.range n) (by simp only [sSeq, sIf, sRet, sSet, sNil, sFor, sExc, sRetN, sCont, sBrk, toM, toD, DA.bin, una, tst, calD, callM, cst, andD, orD, notD, ifD, isB, notB, andB, orB, aNil, aCons, itSeq, itRange1, itRange2, itZip, rd, ob_ok, ob_ex, ob_st, om_ok, om_ex, on_ok, gSet, gTupD, gsNil, gsCons, tYesB, runD, fin_rt, fin_nx, fin_ex, asB_bl, add_ii, ad_ii, gx_ii, lof_l, lof_t, oNone, oSome, slD, dSl, itRev, maxDf,  sub_ii, neg_i, lt_ii, le_ii, gt_ii, ge_ii, seq_lst, seq_tup, zip_tt, zip_tl, zip_lt, zip_ll, er_dat, er_lst, tuple_lst, tuple_tup, len_lst, len_tup, max_ii, min_ii, abs_n, c0, c1, c2, c3, dEq_int, dNe_int, dEq_bl, isi_int_int, isi_bool_int, isi_bool_bl, isi_int_bl, isi_tuple_tup, isi_list_lst, isn_non, isn_tup, isn_int, nn_non, nn_tup, nn_int, isn_obj, nn_obj, List.getElem?_cons_zero, List.getElem?_cons_succ, List.set_cons_zero, List.set_cons_succ, List.length_cons, List.length_nil, List.length_map, List.map_cons, List.map_nil, List.replicate_succ, List.replicate_zero, List.cons_append, List.nil_append, if_true, if_false, Bool.false_eq_true, ite_self, Bool.not_true, Bool.not_false, Nat.reduceAdd, Nat.reduceLT, Nat.zero_add, la, rng1 f, rangeL_map, Int.toNat_natCast]) (le_size (by rw [List.length_range]; omega)) (fun i hi => ⟨[some (.dat (ob o)), some (.dat (.tup (IL a))), some (.dat (.tup (IL b))), some (.dat (.int k)), none, none, some (.dat (.int i))], rfl, by
      have il := List.mem_range.mp hi
      by_cases q : k ≤ i
      · simp only [sSeq, sIf, sRet, sSet, sNil, sFor, sExc, sRetN, sCont, sBrk, toM, toD, DA.bin, una, tst, calD, callM, cst, andD, orD, notD, ifD, isB, notB, andB, orB, aNil, aCons, itSeq, itRange1, itRange2, itZip, rd, ob_ok, ob_ex, ob_st, om_ok, om_ex, on_ok, gSet, gTupD, gsNil, gsCons, tYesB, runD, fin_rt, fin_nx, fin_ex, asB_bl, add_ii, ad_ii, gx_ii, lof_l, lof_t, oNone, oSome, slD, dSl, itRev, maxDf,  sub_ii, neg_i, lt_ii, le_ii, gt_ii, ge_ii, seq_lst, seq_tup, zip_tt, zip_tl, zip_lt, zip_ll, er_dat, er_lst, tuple_lst, tuple_tup, len_lst, len_tup, max_ii, min_ii, abs_n, c0, c1, c2, c3, dEq_int, dNe_int, dEq_bl, isi_int_int, isi_bool_int, isi_bool_bl, isi_int_bl, isi_tuple_tup, isi_list_lst, isn_non, isn_tup, isn_int, nn_non, nn_tup, nn_int, isn_obj, nn_obj, List.getElem?_cons_zero, List.getElem?_cons_succ, List.set_cons_zero, List.set_cons_succ, List.length_cons, List.length_nil, List.length_map, List.map_cons, List.map_nil, List.replicate_succ, List.replicate_zero, List.cons_append, List.nil_append, if_true, if_false, Bool.false_eq_true, ite_self, Bool.not_true, Bool.not_false, Nat.reduceAdd, Nat.reduceLT, Nat.zero_add, ge, decide_eq_true q, get_IL a i (by omega), if_pos q]
      · simp only [sSeq, sIf, sRet, sSet, sNil, sFor, sExc, sRetN, sCont, sBrk, toM, toD, DA.bin, una, tst, calD, callM, cst, andD, orD, notD, ifD, isB, notB, andB, orB, aNil, aCons, itSeq, itRange1, itRange2, itZip, rd, ob_ok, ob_ex, ob_st, om_ok, om_ex, on_ok, gSet, gTupD, gsNil, gsCons, tYesB, runD, fin_rt, fin_nx, fin_ex, asB_bl, add_ii, ad_ii, gx_ii, lof_l, lof_t, oNone, oSome, slD, dSl, itRev, maxDf,  sub_ii, neg_i, lt_ii, le_ii, gt_ii, ge_ii, seq_lst, seq_tup, zip_tt, zip_tl, zip_lt, zip_ll, er_dat, er_lst, tuple_lst, tuple_tup, len_lst, len_tup, max_ii, min_ii, abs_n, c0, c1, c2, c3, dEq_int, dNe_int, dEq_bl, isi_int_int, isi_bool_int, isi_bool_bl, isi_int_bl, isi_tuple_tup, isi_list_lst, isn_non, isn_tup, isn_int, nn_non, nn_tup, nn_int, isn_obj, nn_obj, List.getElem?_cons_zero, List.getElem?_cons_succ, List.set_cons_zero, List.set_cons_succ, List.length_cons, List.length_nil, List.length_map, List.map_cons, List.map_nil, List.replicate_succ, List.replicate_zero, List.cons_append, List.nil_append, if_true, if_false, Bool.false_eq_true, ite_self, Bool.not_true, Bool.not_false, Nat.reduceAdd, Nat.reduceLT, Nat.zero_add, ge, decide_eq_false q, get_IL a i (by omega), dMod_ok (j := 2) (by decide), if_neg q]⟩)
  have e1' : ((List.range n).map fun i => D.int (if k ≤ i then a.getD i 0 else (a.getD i 0).fmod 2)) = IL ((List.range n).map fun i => if k ≤ i then a.getD i 0 else (a.getD i 0).fmod 2) := by simp only [IL, List.map_map]; rfl
  rw [e1'] at e1
  obtain ⟨m, rfl⟩ : ∃ m, n = k + m := ⟨n - k, by omega⟩
  rw [range_split] at e1
  have t1 : ((List.range k).map fun i => if k ≤ i then a.getD i 0 else (a.getD i 0).fmod 2) = (List.range k).map fun i => (a.getD i 0).fmod 2 := List.map_congr_left fun i hi => if_neg (by have := List.mem_range.mp hi; omega)
  have t2 : ((List.range m).map fun i => if k ≤ k + i then a.getD (k + i) 0 else (a.getD (k + i) 0).fmod 2) = (List.range m).map fun i => a.getD (k + i) 0 := List.map_congr_left fun i _ => if_pos (by omega)
  rw [t1, t2] at e1
  generalize h1 : ((List.range k).map fun i => (a.getD i 0).fmod 2) = l1 at e1
  generalize h2 : ((List.range m).map fun i => a.getD (k + i) 0) = l2 at e1
  have len1 : l1.length = k := by rw [← h1]; simp
  have len2 : l2.length = m := by rw [← h2]; simp
  have pl1 : ∀ x ∈ l1, 0 ≤ x := fun x hx => by
    rw [← h1] at hx
    obtain ⟨i, _, rfl⟩ := List.mem_map.mp hx
    exact (fmod_pos (by decide)).1
  have pl2 : ∀ x ∈ l2, 0 ≤ x := fun x hx => by
    rw [← h2] at hx
    obtain ⟨i, hi, rfl⟩ := List.mem_map.mp hx
    have il := List.mem_range.mp hi
    rw [List.getD_eq_getElem?_getD, List.getElem?_eq_getElem (by omega)]
    exact pa _ (List.getElem_mem _)
  have e2 := fun (L : D) => lcD_map (fi := itRange1 (aCons (calD dLen (aCons (rd 2) aNil)) aNil)) (vs := [6]) (g := gSet 6) (f := ifD (tst dGe (rd 6) (rd 3)) (DA.bin dIx (rd 2) (rd 6)) (cst (.int 0))) (ρ := [some (.dat (ob o)), some (.dat (.tup (IL a))), some (.dat (.tup (IL b))), some (.dat (.int k)), some (.dat L), none, none])
    (fun i : Nat => D.int (i : Int)) (fun i => D.int (if k ≤ i then b.getD i 0 else 0)) (List.range (k + m)) (by simp only [sSeq, sIf, sRet, sSet, sNil, sFor, sExc, sRetN, sCont, sBrk, toM, toD, DA.bin, una, tst, calD, callM, cst, andD, orD, notD, ifD, isB, notB, andB, orB, aNil, aCons, itSeq, itRange1, itRange2, itZip, rd, ob_ok, ob_ex, ob_st, om_ok, om_ex, on_ok, gSet, gTupD, gsNil, gsCons, tYesB, runD, fin_rt, fin_nx, fin_ex, asB_bl, add_ii, ad_ii, gx_ii, lof_l, lof_t, oNone, oSome, slD, dSl, itRev, maxDf,  sub_ii, neg_i, lt_ii, le_ii, gt_ii, ge_ii, seq_lst, seq_tup, zip_tt, zip_tl, zip_lt, zip_ll, er_dat, er_lst, tuple_lst, tuple_tup, len_lst, len_tup, max_ii, min_ii, abs_n, c0, c1, c2, c3, dEq_int, dNe_int, dEq_bl, isi_int_int, isi_bool_int, isi_bool_bl, isi_int_bl, isi_tuple_tup, isi_list_lst, isn_non, isn_tup, isn_int, nn_non, nn_tup, nn_int, isn_obj, nn_obj, List.getElem?_cons_zero, List.getElem?_cons_succ, List.set_cons_zero, List.set_cons_succ, List.length_cons, List.length_nil, List.length_map, List.map_cons, List.map_nil, List.replicate_succ, List.replicate_zero, List.cons_append, List.nil_append, if_true, if_false, Bool.false_eq_true, ite_self, Bool.not_true, Bool.not_false, Nat.reduceAdd, Nat.reduceLT, Nat.zero_add, lb, rng1 f, rangeL_map, Int.toNat_natCast]) (le_size (by rw [List.length_range]; omega)) (fun i hi => ⟨[some (.dat (ob o)), some (.dat (.tup (IL a))), some (.dat (.tup (IL b))), some (.dat (.int k)), some (.dat L), none, some (.dat (.int i))], rfl, by
      have il := List.mem_range.mp hi
      by_cases q : k ≤ i
      · simp only [sSeq, sIf, sRet, sSet, sNil, sFor, sExc, sRetN, sCont, sBrk, toM, toD, DA.bin, una, tst, calD, callM, cst, andD, orD, notD, ifD, isB, notB, andB, orB, aNil, aCons, itSeq, itRange1, itRange2, itZip, rd, ob_ok, ob_ex, ob_st, om_ok, om_ex, on_ok, gSet, gTupD, gsNil, gsCons, tYesB, runD, fin_rt, fin_nx, fin_ex, asB_bl, add_ii, ad_ii, gx_ii, lof_l, lof_t, oNone, oSome, slD, dSl, itRev, maxDf,  sub_ii, neg_i, lt_ii, le_ii, gt_ii, ge_ii, seq_lst, seq_tup, zip_tt, zip_tl, zip_lt, zip_ll, er_dat, er_lst, tuple_lst, tuple_tup, len_lst, len_tup, max_ii, min_ii, abs_n, c0, c1, c2, c3, dEq_int, dNe_int, dEq_bl, isi_int_int, isi_bool_int, isi_bool_bl, isi_int_bl, isi_tuple_tup, isi_list_lst, isn_non, isn_tup, isn_int, nn_non, nn_tup, nn_int, isn_obj, nn_obj, List.getElem?_cons_zero, List.getElem?_cons_succ, List.set_cons_zero, List.set_cons_succ, List.length_cons, List.length_nil, List.length_map, List.map_cons, List.map_nil, List.replicate_succ, List.replicate_zero, List.cons_append, List.nil_append, if_true, if_false, Bool.false_eq_true, ite_self, Bool.not_true, Bool.not_false, Nat.reduceAdd, Nat.reduceLT, Nat.zero_add, ge, decide_eq_true q, get_IL b i (by omega), if_pos q]
      · simp only [sSeq, sIf, sRet, sSet, sNil, sFor, sExc, sRetN, sCont, sBrk, toM, toD, DA.bin, una, tst, calD, callM, cst, andD, orD, notD, ifD, isB, notB, andB, orB, aNil, aCons, itSeq, itRange1, itRange2, itZip, rd, ob_ok, ob_ex, ob_st, om_ok, om_ex, on_ok, gSet, gTupD, gsNil, gsCons, tYesB, runD, fin_rt, fin_nx, fin_ex, asB_bl, add_ii, ad_ii, gx_ii, lof_l, lof_t, oNone, oSome, slD, dSl, itRev, maxDf,  sub_ii, neg_i, lt_ii, le_ii, gt_ii, ge_ii, seq_lst, seq_tup, zip_tt, zip_tl, zip_lt, zip_ll, er_dat, er_lst, tuple_lst, tuple_tup, len_lst, len_tup, max_ii, min_ii, abs_n, c0, c1, c2, c3, dEq_int, dNe_int, dEq_bl, isi_int_int, isi_bool_int, isi_bool_bl, isi_int_bl, isi_tuple_tup, isi_list_lst, isn_non, isn_tup, isn_int, nn_non, nn_tup, nn_int, isn_obj, nn_obj, List.getElem?_cons_zero, List.getElem?_cons_succ, List.set_cons_zero, List.set_cons_succ, List.length_cons, List.length_nil, List.length_map, List.map_cons, List.map_nil, List.replicate_succ, List.replicate_zero, List.cons_append, List.nil_append, if_true, if_false, Bool.false_eq_true, ite_self, Bool.not_true, Bool.not_false, Nat.reduceAdd, Nat.reduceLT, Nat.zero_add, ge, decide_eq_false q, if_neg q]⟩)
  have e2' : ((List.range (k + m)).map fun i => D.int (if k ≤ i then b.getD i 0 else 0)) = IL ((List.range (k + m)).map fun i => if k ≤ i then b.getD i 0 else 0) := by simp only [IL, List.map_map]; rfl
  have e2'' : ((List.range (k + m)).map fun i => if k ≤ i then b.getD i 0 else 0) = ze l1.length ++ (List.range m).map fun i => b.getD (k + i) 0 := by
    rw [range_split, len1]
    congr 1
    · refine List.eq_replicate_iff.mpr ⟨by simp, fun c hc => ?_⟩
      obtain ⟨i, hi, rfl⟩ := List.mem_map.mp hc
      exact if_neg (by have := List.mem_range.mp hi; omega)
    · exact List.map_congr_left fun i _ => if_pos (by omega)
  simp only [e2', e2''] at e2
  generalize h3 : ((List.range m).map fun i => b.getD (k + i) 0) = r2 at e2
  have len3 : r2.length = m := by rw [← h3]; simp
  have ht' : takes o l1.length = true := by rw [len1]; exact ht
  have cut1 : cutL (IL (l1 ++ l2)) none (some (k : Int)) = IL l1 := by
    rw [cutL_map, cutL_to (by rw [List.length_append]; omega), List.take_left' len1]
  have cd1 : cutL (IL (l1 ++ l2)) (some 1) none = IL ((l1 ++ l2).drop 1) := by
    rw [cutL_map]
    have := cutL_from (xs := l1 ++ l2) (k := 1) (by rw [List.length_append]; omega)
    rw [show ((1 : Nat) : Int) = 1 from rfl] at this
    rw [this]
  have lr : (ze l1.length ++ r2).length ≤ 900 := by rw [List.length_append, List.length_replicate]; omega
  by_cases z : l1.sum = 0
  · have z' : (l1.sum == 0) = true := by simpa using z
    obtain ⟨c, t, hct⟩ : ∃ c t, l1 = c :: t := by
      cases l1 with
      | nil => simp at len1; omega
      | cons c t => exact ⟨c, t, rfl⟩
    have lt1 : t.length + 1 = k := by rw [hct] at len1; simpa using len1
    have cd2 : cutL (IL (l1 ++ l2)) (some 1) none = IL (t ++ l2) := by rw [cd1, hct]; rfl
    have zz : ze l1.length = ze (t.length + 1) := by rw [hct]; rfl
    obtain ⟨V, hV⟩ : ∃ V, V = 1 :: (t ++ l2) := ⟨_, rfl⟩
    have g := GB hw (x := V) (y := ze l1.length ++ r2) (by rw [hV, List.length_cons, List.length_append]; omega) lr
    have gt : gb o V (ze l1.length ++ r2) = true := by
      have := gb_out (o := o) (l1 := 1 :: t) (l2 := l2) (r2 := r2) hw (by rw [List.length_cons, lt1]; exact ht) (fun w e => by rw [hl w e, List.length_cons]; omega) (fun x hx => by
        rcases List.mem_cons.mp hx with q | q
        · rw [q]; decide
        · exact pl1 x (by rw [hct]; simp [q])) pl2 ⟨1, by simp, by decide⟩
      rw [List.length_cons, ← zz] at this
      rw [hV]
      exact this
    rw [gt] at g
    have ca := cons_IL 1 (t ++ l2) (by rw [List.length_append]; omega)
    rw [← hV] at ca
    simp only [d_k06_law_out, sd_k06_law_out, sSeq, sIf, sRet, sSet, sNil, sFor, sExc, sRetN, sCont, sBrk, toM, toD, DA.bin, una, tst, calD, callM, cst, andD, orD, notD, ifD, isB, notB, andB, orB, aNil, aCons, itSeq, itRange1, itRange2, itZip, rd, ob_ok, ob_ex, ob_st, om_ok, om_ex, on_ok, gSet, gTupD, gsNil, gsCons, tYesB, runD, fin_rt, fin_nx, fin_ex, asB_bl, add_ii, ad_ii, gx_ii, lof_l, lof_t, oNone, oSome, slD, dSl, itRev, maxDf,  sub_ii, neg_i, lt_ii, le_ii, gt_ii, ge_ii, seq_lst, seq_tup, zip_tt, zip_tl, zip_lt, zip_ll, er_dat, er_lst, tuple_lst, tuple_tup, len_lst, len_tup, max_ii, min_ii, abs_n, c0, c1, c2, c3, dEq_int, dNe_int, dEq_bl, isi_int_int, isi_bool_int, isi_bool_bl, isi_int_bl, isi_tuple_tup, isi_list_lst, isn_non, isn_tup, isn_int, nn_non, nn_tup, nn_int, isn_obj, nn_obj, List.getElem?_cons_zero, List.getElem?_cons_succ, List.set_cons_zero, List.set_cons_succ, List.length_cons, List.length_nil, List.length_map, List.map_cons, List.map_nil, List.replicate_succ, List.replicate_zero, List.cons_append, List.nil_append, if_true, if_false, Bool.false_eq_true, ite_self, Bool.not_true, Bool.not_false, Nat.reduceAdd, Nat.reduceLT, Nat.zero_add, e1, cut1, dSum, intsOf_ints, z', cd2, tupD, sz1, ca, e2, mtC, mg, g]
  · have z' : (l1.sum == 0) = false := by simpa using z
    have g := GB hw (x := l1 ++ l2) (y := ze l1.length ++ r2) (by rw [List.length_append]; omega) lr
    have nz : ∃ x ∈ l1, x ≠ 0 := Classical.byContradiction fun q => z (by
      have : l1 = ze l1.length := List.eq_replicate_iff.mpr ⟨rfl, fun x hx => Classical.byContradiction fun n => q ⟨x, hx, n⟩⟩
      rw [this]; simp)
    rw [gb_out hw ht' (fun w e => by rw [hl w e]; omega) pl1 pl2 nz] at g
    simp only [d_k06_law_out, sd_k06_law_out, sSeq, sIf, sRet, sSet, sNil, sFor, sExc, sRetN, sCont, sBrk, toM, toD, DA.bin, una, tst, calD, callM, cst, andD, orD, notD, ifD, isB, notB, andB, orB, aNil, aCons, itSeq, itRange1, itRange2, itZip, rd, ob_ok, ob_ex, ob_st, om_ok, om_ex, on_ok, gSet, gTupD, gsNil, gsCons, tYesB, runD, fin_rt, fin_nx, fin_ex, asB_bl, add_ii, ad_ii, gx_ii, lof_l, lof_t, oNone, oSome, slD, dSl, itRev, maxDf,  sub_ii, neg_i, lt_ii, le_ii, gt_ii, ge_ii, seq_lst, seq_tup, zip_tt, zip_tl, zip_lt, zip_ll, er_dat, er_lst, tuple_lst, tuple_tup, len_lst, len_tup, max_ii, min_ii, abs_n, c0, c1, c2, c3, dEq_int, dNe_int, dEq_bl, isi_int_int, isi_bool_int, isi_bool_bl, isi_int_bl, isi_tuple_tup, isi_list_lst, isn_non, isn_tup, isn_int, nn_non, nn_tup, nn_int, isn_obj, nn_obj, List.getElem?_cons_zero, List.getElem?_cons_succ, List.set_cons_zero, List.set_cons_succ, List.length_cons, List.length_nil, List.length_map, List.map_cons, List.map_nil, List.replicate_succ, List.replicate_zero, List.cons_append, List.nil_append, if_true, if_false, Bool.false_eq_true, ite_self, Bool.not_true, Bool.not_false, Nat.reduceAdd, Nat.reduceLT, Nat.zero_add, e1, cut1, dSum, intsOf_ints, z', e2, mtC, mg, g]
/-! ### the law -/
noncomputable def Pw (c : Int) (k : Nat) : Int := if h : k < 1000 then (power c k h).choose else 0
theorem Pw_ok (c : Int) (k : Nat) (h : k < 1000) : 0 ≤ Pw c k ∧ d_k06_law_power [.int c, .int k] = .ok (.dat (.int (Pw c k))) := by
  unfold Pw
  rw [dif_pos h]
  exact (power c k h).choose_spec
noncomputable def Ww (c : Int) (k : Nat) : Int := if h : k < 1000 then (weight c k h).choose else 0
theorem Ww_ok (c : Int) (k : Nat) (h : k < 1000) : (0 ≤ Ww c k ∧ (Ww c k).natAbs < 2 ^ 64) ∧ d_k06_law_weight [.int c, .int k] = .ok (.dat (.int (Ww c k))) := by
  unfold Ww
  rw [dif_pos h]
  exact (weight c k h).choose_spec
noncomputable def Tm (n : Nat) (c : Int) : List Int := (List.range n).map (Pw c)
theorem Tm_len (n : Nat) (c : Int) : (Tm n c).length = n := by simp [Tm]
theorem Tm_pos (n : Nat) (hn : n ≤ 900) (c : Int) : ∀ x ∈ Tm n c, 0 ≤ x := fun x hx => by
  obtain ⟨k, hk, rfl⟩ := List.mem_map.mp hx
  exact (Pw_ok c k (by have := List.mem_range.mp hk; omega)).1
noncomputable abbrev TD (n : Nat) (cs : List Int) : List D := cs.map fun c => D.tup (IL (Tm n c))
theorem kd_w {kn : Nat} {w v : List Int} (h4 : kn < 4) (h : kd kn w = .wei v) : v = w := by
  match kn, h4 with
  | 0, _ => cases h
  | 1, _ => cases h
  | 2, _ => cases h
  | 3, _ => injection h with h; exact h.symm
section
variable {n : Nat} {cs : List Int} {kn : Nat} {w : List Int} {S C : D}
noncomputable abbrev Bs (S C : D) (n kn : Nat) (w cs : List Int) (x7 x8 x9 x10 x11 : Option M) : Rn := [some (.dat S), some (.dat C), some (.dat (.int n)), some (.dat (.int kn)), some (.dat (.lst (IL w))), some (.dat (ob (kd kn w))), some (.dat (.lst (TD n cs))), x7, x8, x9, x10, x11]
theorem ixT (n : Nat) (cs : List Int) (j : Nat) (h : j < cs.length) : dIx (.lst (TD n cs)) (.int j) = .ok (.tup (IL (Tm n cs[j]))) := by
  rw [dIx_lst (by simpa using h), List.getElem_map]
theorem ixP (n : Nat) (cs : List Int) (j : Nat) (h : j < cs.length) : ∃ c, dIx (.lst (TD n cs)) (.int ((j : Int) - 1)) = .ok (.tup (IL (Tm n c))) := by
  obtain ⟨x, hx, e⟩ := atI_prev (xs := TD n cs) (j := j) (by simpa using h)
  obtain ⟨c, _, rfl⟩ := List.mem_map.mp hx
  exact ⟨c, by simp only [dIx, e]⟩
theorem range_nat {N : Nat} {d : D} (h : d ∈ rangeL 0 (N : Int)) : ∃ k : Nat, k < N ∧ d = .int k := by
  rw [rangeL_map] at h
  obtain ⟨k, hk, rfl⟩ := List.mem_map.mp h
  exact ⟨k, by simpa using hk, rfl⟩
theorem loop1 (hn : n ≤ 900) (h4 : kn < 4) (hw : Wk (kd kn w)) (hl : w.length = n) (k : Nat) (hk : 1 ≤ k) (hkn : k < n) (x8 : Option M) :
    ∃ y, forD (gSet 8) sl_k06_law_1 (rangeL 0 cs.length) (Bs S C n kn w cs (some (.dat (.int k))) x8 (some (.dat (.bl (takes (kd kn w) k)))) none none) = .ok (.nx, Bs S C n kn w cs (some (.dat (.int k))) y (some (.dat (.bl (takes (kd kn w) k)))) none none) := by
  have L := forD_ind (g := gSet 8) (b := sl_k06_law_1) (fun ds ρ => (∀ d ∈ ds, ∃ j : Nat, j < cs.length ∧ d = .int j) ∧ ∃ y, ρ = Bs S C n kn w cs (some (.dat (.int k))) y (some (.dat (.bl (takes (kd kn w) k)))) none none) (fun o => ∃ y, o = .ok (.nx, Bs S C n kn w cs (some (.dat (.int k))) y (some (.dat (.bl (takes (kd kn w) k)))) none none))
    (fun ρ ⟨_, y, e⟩ => ⟨y, by rw [e]⟩) (fun d ds ρ ⟨h1, y, eρ⟩ => by
      obtain ⟨j, hj, rfl⟩ := h1 d (by simp)
      subst eρ
      refine ⟨_, rfl, .inl ⟨Bs S C n kn w cs (some (.dat (.int k))) (some (.dat (.int j))) (some (.dat (.bl (takes (kd kn w) k)))) none none, ?_, fun x hx => h1 x (by simp [hx]), _, rfl⟩⟩
      obtain ⟨c, ep⟩ := ixP n cs j hj
      have ej := ixT n cs j hj
      cases ht : takes (kd kn w) k with
      | false => simp only [sl_k06_law_1, sSeq, sIf, sRet, sSet, sNil, sFor, sExc, sRetN, sCont, sBrk, toM, toD, DA.bin, una, tst, calD, callM, cst, andD, orD, notD, ifD, isB, notB, andB, orB, aNil, aCons, itSeq, itRange1, itRange2, itZip, rd, ob_ok, ob_ex, ob_st, om_ok, om_ex, on_ok, gSet, gTupD, gsNil, gsCons, tYesB, runD, fin_rt, fin_nx, fin_ex, asB_bl, add_ii, ad_ii, gx_ii, lof_l, lof_t, oNone, oSome, slD, dSl, itRev, maxDf,  sub_ii, neg_i, lt_ii, le_ii, gt_ii, ge_ii, seq_lst, seq_tup, zip_tt, zip_tl, zip_lt, zip_ll, er_dat, er_lst, tuple_lst, tuple_tup, len_lst, len_tup, max_ii, min_ii, abs_n, c0, c1, c2, c3, dEq_int, dNe_int, dEq_bl, isi_int_int, isi_bool_int, isi_bool_bl, isi_int_bl, isi_tuple_tup, isi_list_lst, isn_non, isn_tup, isn_int, nn_non, nn_tup, nn_int, isn_obj, nn_obj, List.getElem?_cons_zero, List.getElem?_cons_succ, List.set_cons_zero, List.set_cons_succ, List.length_cons, List.length_nil, List.length_map, List.map_cons, List.map_nil, List.replicate_succ, List.replicate_zero, List.cons_append, List.nil_append, if_true, if_false, Bool.false_eq_true, ite_self, Bool.not_true, Bool.not_false, Nat.reduceAdd, Nat.reduceLT, Nat.zero_add]
      | true =>
        have eo := out (o := kd kn w) (a := Tm n cs[j]) (b := Tm n c) (k := k) hn (Tm_len _ _) (Tm_len _ _) hk (by omega) hw ht (fun v e => by rw [kd_w h4 e]; exact hl) (Tm_pos n hn _)
        simp only [sl_k06_law_1, sSeq, sIf, sRet, sSet, sNil, sFor, sExc, sRetN, sCont, sBrk, toM, toD, DA.bin, una, tst, calD, callM, cst, andD, orD, notD, ifD, isB, notB, andB, orB, aNil, aCons, itSeq, itRange1, itRange2, itZip, rd, ob_ok, ob_ex, ob_st, om_ok, om_ex, on_ok, gSet, gTupD, gsNil, gsCons, tYesB, runD, fin_rt, fin_nx, fin_ex, asB_bl, add_ii, ad_ii, gx_ii, lof_l, lof_t, oNone, oSome, slD, dSl, itRev, maxDf,  sub_ii, neg_i, lt_ii, le_ii, gt_ii, ge_ii, seq_lst, seq_tup, zip_tt, zip_tl, zip_lt, zip_ll, er_dat, er_lst, tuple_lst, tuple_tup, len_lst, len_tup, max_ii, min_ii, abs_n, c0, c1, c2, c3, dEq_int, dNe_int, dEq_bl, isi_int_int, isi_bool_int, isi_bool_bl, isi_int_bl, isi_tuple_tup, isi_list_lst, isn_non, isn_tup, isn_int, nn_non, nn_tup, nn_int, isn_obj, nn_obj, List.getElem?_cons_zero, List.getElem?_cons_succ, List.set_cons_zero, List.set_cons_succ, List.length_cons, List.length_nil, List.length_map, List.map_cons, List.map_nil, List.replicate_succ, List.replicate_zero, List.cons_append, List.nil_append, if_true, if_false, Bool.false_eq_true, ite_self, Bool.not_true, Bool.not_false, Nat.reduceAdd, Nat.reduceLT, Nat.zero_add, ej, ep, eo])
  exact L _ _ ⟨fun d hd => range_nat hd, x8, rfl⟩
theorem loop2 (hn : n ≤ 900) (h4 : kn < 4) (hw : Wk (kd kn w)) (hl : w.length = n) (hc : cs.length ≤ 63) : ∃ a b c, forD (gSet 7) sl_k06_law_2 (rangeL 1 n) (Bs S C n kn w cs none none none none none) = .ok (.nx, Bs S C n kn w cs a b c none none) := by
  have L := forD_ind (g := gSet 7) (b := sl_k06_law_2) (fun ds ρ => (∃ k : Nat, 1 ≤ k ∧ ds = rangeL k n) ∧ ∃ a b c, ρ = Bs S C n kn w cs a b c none none) (fun o => ∃ a b c, o = .ok (.nx, Bs S C n kn w cs a b c none none))
    (fun ρ ⟨_, a, b, c, e⟩ => ⟨a, b, c, by rw [e]⟩) (fun d ds ρ ⟨⟨k, hk, e⟩, a, b, c, eρ⟩ => by
      have hkn : k < n := by
        by_cases z : k < n
        · exact z
        · rw [rangeL_nil (by omega)] at e; cases e
      rw [rangeL_cons (by omega)] at e
      injection e with e1 e2
      subst e1 e2 eρ
      obtain ⟨f, mt, et⟩ := takes_ok (kd kn w) k (fun v e => by rw [kd_w h4 e]; omega)
      have ff : fits62 (cs.length : Int) := fits_of (by omega) (by omega)
      obtain ⟨y, el⟩ := loop1 (S := S) (C := C) (cs := cs) hn h4 hw hl k hk hkn b
      refine ⟨_, rfl, .inl ⟨Bs S C n kn w cs (some (.dat (.int k))) y (some (.dat (.bl (takes (kd kn w) k)))) none none, ?_, ⟨k + 1, by omega, by rw [Int.natCast_add]; rfl⟩, _, _, _, rfl⟩⟩
      cases ht : takes (kd kn w) k with
      | false =>
        rw [ht] at et el
        have no := not_out (o := kd kn w) kn w rfl h4 n k hn hk hkn hw hl ht
        simp only [sl_k06_law_2, sSeq, sIf, sRet, sSet, sNil, sFor, sExc, sRetN, sCont, sBrk, toM, toD, DA.bin, una, tst, calD, callM, cst, andD, orD, notD, ifD, isB, notB, andB, orB, aNil, aCons, itSeq, itRange1, itRange2, itZip, rd, ob_ok, ob_ex, ob_st, om_ok, om_ex, on_ok, gSet, gTupD, gsNil, gsCons, tYesB, runD, fin_rt, fin_nx, fin_ex, asB_bl, add_ii, ad_ii, gx_ii, lof_l, lof_t, oNone, oSome, slD, dSl, itRev, maxDf,  sub_ii, neg_i, lt_ii, le_ii, gt_ii, ge_ii, seq_lst, seq_tup, zip_tt, zip_tl, zip_lt, zip_ll, er_dat, er_lst, tuple_lst, tuple_tup, len_lst, len_tup, max_ii, min_ii, abs_n, c0, c1, c2, c3, dEq_int, dNe_int, dEq_bl, isi_int_int, isi_bool_int, isi_bool_bl, isi_int_bl, isi_tuple_tup, isi_list_lst, isn_non, isn_tup, isn_int, nn_non, nn_tup, nn_int, isn_obj, nn_obj, List.getElem?_cons_zero, List.getElem?_cons_succ, List.set_cons_zero, List.set_cons_succ, List.length_cons, List.length_nil, List.length_map, List.map_cons, List.map_nil, List.replicate_succ, List.replicate_zero, List.cons_append, List.nil_append, if_true, if_false, Bool.false_eq_true, ite_self, Bool.not_true, Bool.not_false, Nat.reduceAdd, Nat.reduceLT, Nat.zero_add, mtC, mt, et, no, rng1 ff, el]
      | true =>
        rw [ht] at et el
        simp only [sl_k06_law_2, sSeq, sIf, sRet, sSet, sNil, sFor, sExc, sRetN, sCont, sBrk, toM, toD, DA.bin, una, tst, calD, callM, cst, andD, orD, notD, ifD, isB, notB, andB, orB, aNil, aCons, itSeq, itRange1, itRange2, itZip, rd, ob_ok, ob_ex, ob_st, om_ok, om_ex, on_ok, gSet, gTupD, gsNil, gsCons, tYesB, runD, fin_rt, fin_nx, fin_ex, asB_bl, add_ii, ad_ii, gx_ii, lof_l, lof_t, oNone, oSome, slD, dSl, itRev, maxDf,  sub_ii, neg_i, lt_ii, le_ii, gt_ii, ge_ii, seq_lst, seq_tup, zip_tt, zip_tl, zip_lt, zip_ll, er_dat, er_lst, tuple_lst, tuple_tup, len_lst, len_tup, max_ii, min_ii, abs_n, c0, c1, c2, c3, dEq_int, dNe_int, dEq_bl, isi_int_int, isi_bool_int, isi_bool_bl, isi_int_bl, isi_tuple_tup, isi_list_lst, isn_non, isn_tup, isn_int, nn_non, nn_tup, nn_int, isn_obj, nn_obj, List.getElem?_cons_zero, List.getElem?_cons_succ, List.set_cons_zero, List.set_cons_succ, List.length_cons, List.length_nil, List.length_map, List.map_cons, List.map_nil, List.replicate_succ, List.replicate_zero, List.cons_append, List.nil_append, if_true, if_false, Bool.false_eq_true, ite_self, Bool.not_true, Bool.not_false, Nat.reduceAdd, Nat.reduceLT, Nat.zero_add, mtC, mt, et, rng1 ff, el])
  exact L _ _ ⟨⟨1, by omega, rfl⟩, _, _, _, rfl⟩
theorem loop3 (hn : n ≤ 900) (hw : Wk (kd kn w)) (a b c : Option M) : ∃ y, forD (gSet 8) sl_k06_law_3 (rangeL 0 cs.length) (Bs S C n kn w cs a b c none none) = .ok (.nx, Bs S C n kn w cs a y c none none) := by
  have L := forD_ind (g := gSet 8) (b := sl_k06_law_3) (fun ds ρ => (∀ d ∈ ds, ∃ j : Nat, j < cs.length ∧ d = .int j) ∧ ∃ y, ρ = Bs S C n kn w cs a y c none none) (fun o => ∃ y, o = .ok (.nx, Bs S C n kn w cs a y c none none))
    (fun ρ ⟨_, y, e⟩ => ⟨y, by rw [e]⟩) (fun d ds ρ ⟨h1, y, eρ⟩ => by
      obtain ⟨j, hj, rfl⟩ := h1 d (by simp)
      subst eρ
      refine ⟨_, rfl, .inl ⟨Bs S C n kn w cs a (some (.dat (.int j))) c none none, ?_, fun x hx => h1 x (by simp [hx]), _, rfl⟩⟩
      have p : 0 < cs.length := by omega
      have nz : (cs.length : Int) ≠ 0 := by omega
      have m1 : ((j : Int) + 1).fmod (cs.length : Int) = (((j + 1) % cs.length : Nat) : Int) := fmod_nat (j + 1) cs.length
      have m2 : ((j : Int) + 2).fmod (cs.length : Int) = (((j + 2) % cs.length : Nat) : Int) := fmod_nat (j + 2) cs.length
      have e0 := ixT n cs j hj
      have e1 := ixT n cs ((j + 1) % cs.length) (Nat.mod_lt _ p)
      have e2 := ixT n cs ((j + 2) % cs.length) (Nat.mod_lt _ p)
      have eo := three (o := kd kn w) hw (a := Tm n cs[j]) (b := Tm n (cs[(j + 1) % cs.length]'(Nat.mod_lt _ p))) (c := Tm n (cs[(j + 2) % cs.length]'(Nat.mod_lt _ p))) (by rw [Tm_len]; exact hn) (by rw [Tm_len, Tm_len]) (by rw [Tm_len, Tm_len]) (Tm_pos n hn _)
      simp only [sl_k06_law_3, sSeq, sIf, sRet, sSet, sNil, sFor, sExc, sRetN, sCont, sBrk, toM, toD, DA.bin, una, tst, calD, callM, cst, andD, orD, notD, ifD, isB, notB, andB, orB, aNil, aCons, itSeq, itRange1, itRange2, itZip, rd, ob_ok, ob_ex, ob_st, om_ok, om_ex, on_ok, gSet, gTupD, gsNil, gsCons, tYesB, runD, fin_rt, fin_nx, fin_ex, asB_bl, add_ii, ad_ii, gx_ii, lof_l, lof_t, oNone, oSome, slD, dSl, itRev, maxDf,  sub_ii, neg_i, lt_ii, le_ii, gt_ii, ge_ii, seq_lst, seq_tup, zip_tt, zip_tl, zip_lt, zip_ll, er_dat, er_lst, tuple_lst, tuple_tup, len_lst, len_tup, max_ii, min_ii, abs_n, c0, c1, c2, c3, dEq_int, dNe_int, dEq_bl, isi_int_int, isi_bool_int, isi_bool_bl, isi_int_bl, isi_tuple_tup, isi_list_lst, isn_non, isn_tup, isn_int, nn_non, nn_tup, nn_int, isn_obj, nn_obj, List.getElem?_cons_zero, List.getElem?_cons_succ, List.set_cons_zero, List.set_cons_succ, List.length_cons, List.length_nil, List.length_map, List.map_cons, List.map_nil, List.replicate_succ, List.replicate_zero, List.cons_append, List.nil_append, if_true, if_false, Bool.false_eq_true, ite_self, Bool.not_true, Bool.not_false, Nat.reduceAdd, Nat.reduceLT, Nat.zero_add, dMod_ok nz, m1, m2, e0, e1, e2, eo])
  exact L _ _ ⟨fun d hd => range_nat hd, b, rfl⟩
end
theorem law (ns : List Int) (hns : ns.length ≤ 63) : d_k06_law [.lst (IL ns)] = .ok (.dat (.bl true)) := by
  have ce : d_k06_law_cell [.lst (IL ns), .int 0] = .ok (.dat (.int (ns.getD 0 0))) := cell ns 0
  generalize ns.getD 0 0 = c at ce
  have q1 := fmod_pos (a := c.fdiv 4) (b := 4) (by decide)
  have q2 := fmod_pos (a := c) (b := 4) (by decide)
  obtain ⟨n, en⟩ : ∃ n : Nat, 1 + (c.fdiv 4).fmod 4 = (n : Int) := ⟨(1 + (c.fdiv 4).fmod 4).toNat, by omega⟩
  obtain ⟨kn, ek⟩ : ∃ k : Nat, c.fmod 4 = (k : Int) := ⟨(c.fmod 4).toNat, by omega⟩
  have hn : n ≤ 900 := by omega
  have h4 : kn < 4 := by omega
  have d4 : DivC c 4 := divC_of (by decide) (by decide +kernel)
  have d16 : DivC c 16 := divC_of (by decide) (by decide +kernel)
  have f : fits62 (n : Int) := fits_of (by omega) (by omega)
  obtain ⟨w, ew⟩ : ∃ w, w = (List.range n).map (Ww (c.fdiv 16)) := ⟨_, rfl⟩
  have hl : w.length = n := by rw [ew]; simp
  have hw0 : ∀ a ∈ w, 0 ≤ a ∧ a.natAbs < 2 ^ 64 := fun a ha => by
    rw [ew] at ha
    obtain ⟨k, hk, rfl⟩ := List.mem_map.mp ha
    exact (Ww_ok _ k (by have := List.mem_range.mp hk; omega)).1
  have hw : Wk (kd kn w) := fun v e => by rw [kd_w h4 e]; exact hw0
  have eW := lcD_map (fi := itRange1 (aCons (rd 2) aNil)) (vs := [10]) (g := gSet 10) (f := toD (callM d_k06_law_weight (aCons (DA.bin dDiv (rd 1) (cst (.int 16))) (aCons (rd 10) aNil)))) (ρ := [some (.dat (.lst (IL ns))), some (.dat (.int c)), some (.dat (.int n)), some (.dat (.int kn)), none, none, none, none, none, none, none, none])
    (fun k : Nat => D.int (k : Int)) (fun k => D.int (Ww (c.fdiv 16) k)) (List.range n) (by simp only [sSeq, sIf, sRet, sSet, sNil, sFor, sExc, sRetN, sCont, sBrk, toM, toD, DA.bin, una, tst, calD, callM, cst, andD, orD, notD, ifD, isB, notB, andB, orB, aNil, aCons, itSeq, itRange1, itRange2, itZip, rd, ob_ok, ob_ex, ob_st, om_ok, om_ex, on_ok, gSet, gTupD, gsNil, gsCons, tYesB, runD, fin_rt, fin_nx, fin_ex, asB_bl, add_ii, ad_ii, gx_ii, lof_l, lof_t, oNone, oSome, slD, dSl, itRev, maxDf,  sub_ii, neg_i, lt_ii, le_ii, gt_ii, ge_ii, seq_lst, seq_tup, zip_tt, zip_tl, zip_lt, zip_ll, er_dat, er_lst, tuple_lst, tuple_tup, len_lst, len_tup, max_ii, min_ii, abs_n, c0, c1, c2, c3, dEq_int, dNe_int, dEq_bl, isi_int_int, isi_bool_int, isi_bool_bl, isi_int_bl, isi_tuple_tup, isi_list_lst, isn_non, isn_tup, isn_int, nn_non, nn_tup, nn_int, isn_obj, nn_obj, List.getElem?_cons_zero, List.getElem?_cons_succ, List.set_cons_zero, List.set_cons_succ, List.length_cons, List.length_nil, List.length_map, List.map_cons, List.map_nil, List.replicate_succ, List.replicate_zero, List.cons_append, List.nil_append, if_true, if_false, Bool.false_eq_true, ite_self, Bool.not_true, Bool.not_false, Nat.reduceAdd, Nat.reduceLT, Nat.zero_add, rng1 f, rangeL_map, Int.toNat_natCast]) (le_size (by rw [List.length_range]; omega)) (fun k hk => ⟨[some (.dat (.lst (IL ns))), some (.dat (.int c)), some (.dat (.int n)), some (.dat (.int kn)), none, none, none, none, none, none, some (.dat (.int k)), none], rfl, by
      simp only [sSeq, sIf, sRet, sSet, sNil, sFor, sExc, sRetN, sCont, sBrk, toM, toD, DA.bin, una, tst, calD, callM, cst, andD, orD, notD, ifD, isB, notB, andB, orB, aNil, aCons, itSeq, itRange1, itRange2, itZip, rd, ob_ok, ob_ex, ob_st, om_ok, om_ex, on_ok, gSet, gTupD, gsNil, gsCons, tYesB, runD, fin_rt, fin_nx, fin_ex, asB_bl, add_ii, ad_ii, gx_ii, lof_l, lof_t, oNone, oSome, slD, dSl, itRev, maxDf,  sub_ii, neg_i, lt_ii, le_ii, gt_ii, ge_ii, seq_lst, seq_tup, zip_tt, zip_tl, zip_lt, zip_ll, er_dat, er_lst, tuple_lst, tuple_tup, len_lst, len_tup, max_ii, min_ii, abs_n, c0, c1, c2, c3, dEq_int, dNe_int, dEq_bl, isi_int_int, isi_bool_int, isi_bool_bl, isi_int_bl, isi_tuple_tup, isi_list_lst, isn_non, isn_tup, isn_int, nn_non, nn_tup, nn_int, isn_obj, nn_obj, List.getElem?_cons_zero, List.getElem?_cons_succ, List.set_cons_zero, List.set_cons_succ, List.length_cons, List.length_nil, List.length_map, List.map_cons, List.map_nil, List.replicate_succ, List.replicate_zero, List.cons_append, List.nil_append, if_true, if_false, Bool.false_eq_true, ite_self, Bool.not_true, Bool.not_false, Nat.reduceAdd, Nat.reduceLT, Nat.zero_add, dDiv_ok d16, (Ww_ok (c.fdiv 16) k (by have := List.mem_range.mp hk; omega)).2]⟩)
  have eW' : ((List.range n).map fun k => D.int (Ww (c.fdiv 16) k)) = IL w := by rw [ew]; simp only [IL, List.map_map]; rfl
  rw [eW'] at eW
  have eO := order kn h4 w (fun a ha => (hw0 a ha).1)
  obtain ⟨cs, ecs⟩ : ∃ cs, cs = cutL ns (some 1) (some 70) := ⟨_, rfl⟩
  have lcs : cs.length ≤ 63 := by rw [ecs]; exact Nat.le_trans (cutL_len _ _ _) hns
  have cutE : cutL (IL ns) (some 1) (some 70) = IL cs := by rw [cutL_map, ecs]
  have eI := fun (x : Int) => lcD_map (fi := itRange1 (aCons (rd 2) aNil)) (vs := [10]) (g := gSet 10) (f := toD (callM d_k06_law_power (aCons (rd 11) (aCons (rd 10) aNil)))) (ρ := [some (.dat (.lst (IL ns))), some (.dat (.int c)), some (.dat (.int n)), some (.dat (.int kn)), some (.dat (.lst (IL w))), some (.dat (ob (kd kn w))), none, none, none, none, none, some (.dat (.int x))])
    (fun k : Nat => D.int (k : Int)) (fun k => D.int (Pw x k)) (List.range n) (by simp only [sSeq, sIf, sRet, sSet, sNil, sFor, sExc, sRetN, sCont, sBrk, toM, toD, DA.bin, una, tst, calD, callM, cst, andD, orD, notD, ifD, isB, notB, andB, orB, aNil, aCons, itSeq, itRange1, itRange2, itZip, rd, ob_ok, ob_ex, ob_st, om_ok, om_ex, on_ok, gSet, gTupD, gsNil, gsCons, tYesB, runD, fin_rt, fin_nx, fin_ex, asB_bl, add_ii, ad_ii, gx_ii, lof_l, lof_t, oNone, oSome, slD, dSl, itRev, maxDf,  sub_ii, neg_i, lt_ii, le_ii, gt_ii, ge_ii, seq_lst, seq_tup, zip_tt, zip_tl, zip_lt, zip_ll, er_dat, er_lst, tuple_lst, tuple_tup, len_lst, len_tup, max_ii, min_ii, abs_n, c0, c1, c2, c3, dEq_int, dNe_int, dEq_bl, isi_int_int, isi_bool_int, isi_bool_bl, isi_int_bl, isi_tuple_tup, isi_list_lst, isn_non, isn_tup, isn_int, nn_non, nn_tup, nn_int, isn_obj, nn_obj, List.getElem?_cons_zero, List.getElem?_cons_succ, List.set_cons_zero, List.set_cons_succ, List.length_cons, List.length_nil, List.length_map, List.map_cons, List.map_nil, List.replicate_succ, List.replicate_zero, List.cons_append, List.nil_append, if_true, if_false, Bool.false_eq_true, ite_self, Bool.not_true, Bool.not_false, Nat.reduceAdd, Nat.reduceLT, Nat.zero_add, rng1 f, rangeL_map, Int.toNat_natCast]) (le_size (by rw [List.length_range]; omega)) (fun k hk => ⟨[some (.dat (.lst (IL ns))), some (.dat (.int c)), some (.dat (.int n)), some (.dat (.int kn)), some (.dat (.lst (IL w))), some (.dat (ob (kd kn w))), none, none, none, none, some (.dat (.int k)), some (.dat (.int x))], rfl, by
      simp only [sSeq, sIf, sRet, sSet, sNil, sFor, sExc, sRetN, sCont, sBrk, toM, toD, DA.bin, una, tst, calD, callM, cst, andD, orD, notD, ifD, isB, notB, andB, orB, aNil, aCons, itSeq, itRange1, itRange2, itZip, rd, ob_ok, ob_ex, ob_st, om_ok, om_ex, on_ok, gSet, gTupD, gsNil, gsCons, tYesB, runD, fin_rt, fin_nx, fin_ex, asB_bl, add_ii, ad_ii, gx_ii, lof_l, lof_t, oNone, oSome, slD, dSl, itRev, maxDf,  sub_ii, neg_i, lt_ii, le_ii, gt_ii, ge_ii, seq_lst, seq_tup, zip_tt, zip_tl, zip_lt, zip_ll, er_dat, er_lst, tuple_lst, tuple_tup, len_lst, len_tup, max_ii, min_ii, abs_n, c0, c1, c2, c3, dEq_int, dNe_int, dEq_bl, isi_int_int, isi_bool_int, isi_bool_bl, isi_int_bl, isi_tuple_tup, isi_list_lst, isn_non, isn_tup, isn_int, nn_non, nn_tup, nn_int, isn_obj, nn_obj, List.getElem?_cons_zero, List.getElem?_cons_succ, List.set_cons_zero, List.set_cons_succ, List.length_cons, List.length_nil, List.length_map, List.map_cons, List.map_nil, List.replicate_succ, List.replicate_zero, List.cons_append, List.nil_append, if_true, if_false, Bool.false_eq_true, ite_self, Bool.not_true, Bool.not_false, Nat.reduceAdd, Nat.reduceLT, Nat.zero_add, (Pw_ok x k (by have := List.mem_range.mp hk; omega)).2]⟩)
  have eI' : ∀ x : Int, ((List.range n).map fun k => D.int (Pw x k)) = IL (Tm n x) := fun x => by simp only [IL, Tm, List.map_map]; rfl
  simp only [eI'] at eI
  have eT := lcD_map (fi := itSeq (slD (rd 0) (oSome (cst (.int 1))) (oSome (cst (.int 70))))) (vs := [11]) (g := gSet 11) (f := calD dTuple (aCons (toD (lcD (itRange1 (aCons (rd 2) aNil)) [10] (gSet 10) tYesB (toD (callM d_k06_law_power (aCons (rd 11) (aCons (rd 10) aNil)))))) aNil)) (ρ := [some (.dat (.lst (IL ns))), some (.dat (.int c)), some (.dat (.int n)), some (.dat (.int kn)), some (.dat (.lst (IL w))), some (.dat (ob (kd kn w))), none, none, none, none, none, none])
    D.int (fun x => D.tup (IL (Tm n x))) cs (by simp only [sSeq, sIf, sRet, sSet, sNil, sFor, sExc, sRetN, sCont, sBrk, toM, toD, DA.bin, una, tst, calD, callM, cst, andD, orD, notD, ifD, isB, notB, andB, orB, aNil, aCons, itSeq, itRange1, itRange2, itZip, rd, ob_ok, ob_ex, ob_st, om_ok, om_ex, on_ok, gSet, gTupD, gsNil, gsCons, tYesB, runD, fin_rt, fin_nx, fin_ex, asB_bl, add_ii, ad_ii, gx_ii, lof_l, lof_t, oNone, oSome, slD, dSl, itRev, maxDf,  sub_ii, neg_i, lt_ii, le_ii, gt_ii, ge_ii, seq_lst, seq_tup, zip_tt, zip_tl, zip_lt, zip_ll, er_dat, er_lst, tuple_lst, tuple_tup, len_lst, len_tup, max_ii, min_ii, abs_n, c0, c1, c2, c3, dEq_int, dNe_int, dEq_bl, isi_int_int, isi_bool_int, isi_bool_bl, isi_int_bl, isi_tuple_tup, isi_list_lst, isn_non, isn_tup, isn_int, nn_non, nn_tup, nn_int, isn_obj, nn_obj, List.getElem?_cons_zero, List.getElem?_cons_succ, List.set_cons_zero, List.set_cons_succ, List.length_cons, List.length_nil, List.length_map, List.map_cons, List.map_nil, List.replicate_succ, List.replicate_zero, List.cons_append, List.nil_append, if_true, if_false, Bool.false_eq_true, ite_self, Bool.not_true, Bool.not_false, Nat.reduceAdd, Nat.reduceLT, Nat.zero_add, cutE]) (le_size (by omega)) (fun x _ => ⟨[some (.dat (.lst (IL ns))), some (.dat (.int c)), some (.dat (.int n)), some (.dat (.int kn)), some (.dat (.lst (IL w))), some (.dat (ob (kd kn w))), none, none, none, none, none, some (.dat (.int x))], rfl, by
      simp only [sSeq, sIf, sRet, sSet, sNil, sFor, sExc, sRetN, sCont, sBrk, toM, toD, DA.bin, una, tst, calD, callM, cst, andD, orD, notD, ifD, isB, notB, andB, orB, aNil, aCons, itSeq, itRange1, itRange2, itZip, rd, ob_ok, ob_ex, ob_st, om_ok, om_ex, on_ok, gSet, gTupD, gsNil, gsCons, tYesB, runD, fin_rt, fin_nx, fin_ex, asB_bl, add_ii, ad_ii, gx_ii, lof_l, lof_t, oNone, oSome, slD, dSl, itRev, maxDf,  sub_ii, neg_i, lt_ii, le_ii, gt_ii, ge_ii, seq_lst, seq_tup, zip_tt, zip_tl, zip_lt, zip_ll, er_dat, er_lst, tuple_lst, tuple_tup, len_lst, len_tup, max_ii, min_ii, abs_n, c0, c1, c2, c3, dEq_int, dNe_int, dEq_bl, isi_int_int, isi_bool_int, isi_bool_bl, isi_int_bl, isi_tuple_tup, isi_list_lst, isn_non, isn_tup, isn_int, nn_non, nn_tup, nn_int, isn_obj, nn_obj, List.getElem?_cons_zero, List.getElem?_cons_succ, List.set_cons_zero, List.set_cons_succ, List.length_cons, List.length_nil, List.length_map, List.map_cons, List.map_nil, List.replicate_succ, List.replicate_zero, List.cons_append, List.nil_append, if_true, if_false, Bool.false_eq_true, ite_self, Bool.not_true, Bool.not_false, Nat.reduceAdd, Nat.reduceLT, Nat.zero_add, eI]⟩)
  obtain ⟨a, b, g, e2⟩ := loop2 (S := .lst (IL ns)) (C := .int c) (cs := cs) hn h4 hw hl lcs
  obtain ⟨y, e3⟩ := loop3 (S := .lst (IL ns)) (C := .int c) (cs := cs) hn hw a b g
  have fr : fits62 1 ∧ fits62 (n : Int) := ⟨fits_of (by decide) (by decide), f⟩
  have ff : fits62 (cs.length : Int) := fits_of (by omega) (by omega)
  simp only [d_k06_law, sd_k06_law, sSeq, sIf, sRet, sSet, sNil, sFor, sExc, sRetN, sCont, sBrk, toM, toD, DA.bin, una, tst, calD, callM, cst, andD, orD, notD, ifD, isB, notB, andB, orB, aNil, aCons, itSeq, itRange1, itRange2, itZip, rd, ob_ok, ob_ex, ob_st, om_ok, om_ex, on_ok, gSet, gTupD, gsNil, gsCons, tYesB, runD, fin_rt, fin_nx, fin_ex, asB_bl, add_ii, ad_ii, gx_ii, lof_l, lof_t, oNone, oSome, slD, dSl, itRev, maxDf,  sub_ii, neg_i, lt_ii, le_ii, gt_ii, ge_ii, seq_lst, seq_tup, zip_tt, zip_tl, zip_lt, zip_ll, er_dat, er_lst, tuple_lst, tuple_tup, len_lst, len_tup, max_ii, min_ii, abs_n, c0, c1, c2, c3, dEq_int, dNe_int, dEq_bl, isi_int_int, isi_bool_int, isi_bool_bl, isi_int_bl, isi_tuple_tup, isi_list_lst, isn_non, isn_tup, isn_int, nn_non, nn_tup, nn_int, isn_obj, nn_obj, List.getElem?_cons_zero, List.getElem?_cons_succ, List.set_cons_zero, List.set_cons_succ, List.length_cons, List.length_nil, List.length_map, List.map_cons, List.map_nil, List.replicate_succ, List.replicate_zero, List.cons_append, List.nil_append, if_true, if_false, Bool.false_eq_true, ite_self, Bool.not_true, Bool.not_false, Nat.reduceAdd, Nat.reduceLT, Nat.zero_add, ce, dDiv_ok d4, dMod_ok (j := 4) (by decide), en, ek, eW, eO, eT, rng2 fr, e2, rng1 ff, e3]
end Mk06
set_option maxHeartbeats 0
namespace Wk06
open DA PySem PySem.Spec PyProof.Rows L2
abbrev R : PySem.W.OpenRow := PySem.W.OpenLaw.row PySem.Challenge.rw_idealroom_k06_orders_keep
abbrev hk : PySem.W.Hook := hookC 6 fa fn fc
def ob (s : PySem.W.SharedT) : He.AlD × Bool := obC 6 fa fn fc (HandSHeadRun.getT s)
theorem ob_eq (s : PySem.W.SharedT) : ob s = hk.obs s.abs := obC_eq (HandSHeadRun.getT_eq s)
abbrev lo : List PySem.Str := (["_wall", "__name__", "RoomError", "NoOrder", "degree", "Order", "Degrees", "Tails", "Weights", "_law_cell", "_law_power", "_law_weight", "_law_order", "_law_three", "_law_only", "_law_not_out", "_law_out"] : List PySem.Str)
theorem run (w : World) : HandSHeadRun.RunEq R (PySem.W.view R.prog [20]) hk ob 3000 lo w := by
  intro os
  kernel_rfl
theorem facts {w : World} {K : PySem.W.Frag} {h : Heap} {mg : Str → Option Value} {f : Addr} (X : K.In h) (G : h.Ns mainGlobals mg) (hfa : mg ("law" : Str) = some (.ref f)) (c : He.SaysD fa fn K) (cx : fc.all (facB K) = true) (hm : ∀ ns : List Int, ns.length ≤ 63 → d_k06_law [.lst (ns.map D.int)] = .ok (.dat (.bl true))) :
    ∃ fd : FuncData, (∀ (s : Shared) (v : Value), BindsTo s fd ⟨[v], []⟩ [("_law_script", v)]) ∧ (∀ (H : Hp) (a : Addr) (ns : List Int), ns.length ≤ 63 → Only H → SqL K H a (ns.map V.int) → PF (caK cs K) K d_k06_law [.ref a] H (fun v _ => v = .bl true) fun _ _ _ => False) ∧
      ∀ base : Heap, K.In base → base.Ns mainGlobals mg → FnOk R.prog w K mg base (L2.CX R.prog w) 5 f fd ["_law_script"] (PF (caK cs K) K d_k06_law) := by
  obtain ⟨fd, F⟩ := c.def_ 22 rfl
  have e := hfa.symm.trans (He.glo_ok X G (c.fact 46 (f := .glo "law") rfl))
  cases e
  have b := FunD.bindsA (ps := ["_law_script"]) F fun _ _ _ _ _ _ us hl => match us, hl with | [_], _ => rfl
  exact ⟨fd, fun s v => b s [v] rfl, fun H a ns hn _ hS => law_end hS (hm ns hn), fun base kb gb => fn_okD F sc_k06_law (b_k06_law ⟨kb, gb, c, cx⟩ _)⟩
end Wk06
open PySem PySem.W PySem.Calls PyProof.Rows
theorem Wk06.holds_of (hm : ∀ ns : List Int, ns.length ≤ 63 → DA.d_k06_law [.lst (ns.map DA.D.int)] = .ok (.dat (.bl true))) : PySem.Challenge.rw_idealroom_k06_orders_keep.Holds := by
  w_on; o_law
  refine HandSHeadRun.head_any (r := OpenLaw.row PySem.Challenge.rw_idealroom_k06_orders_keep) (q := view (OpenLaw.row PySem.Challenge.rw_idealroom_k06_orders_keep).prog [20]) (H := Wk06.hk) (ob := Wk06.ob) (M := 3000) (loose := Wk06.lo) (d := HandSHeadRun.topDef (OpenLaw.row PySem.Challenge.rw_idealroom_k06_orders_keep).prog 20) (kwd := []) Wk06.ob_eq
    (by kernel_rfl) (fun s => by kernel_rfl) Wk06.run (by kernel_rfl) (by kernel_rfl) (by kernel_rfl) (by rfl) (by first | assumption | decide +kernel) (by decide +kernel) ⟨rfl, rfl, rfl, rfl, rfl, by decide +kernel⟩ ?hw ?hc
  case hw => w_witness2
  case hc =>
    refine DA.walk_end (l := PySem.Challenge.rw_idealroom_k06_orders_keep) (n := 63) (k := 5) (x := "_law_script") (CX := L2.CX (OpenLaw.row PySem.Challenge.rw_idealroom_k06_orders_keep).prog) rfl (by decide) (by kernel_rfl) ⟨rfl, by decide, by decide⟩ ?F (fun _ _ _ _ _ z => DA.cx_none z)
    intro w mg fa h Y G hmg0
    obtain ⟨K, KX, c, cx⟩ := Y
    have hmg : mg ("law" : PySem.Str) = some (.ref fa) := by
      have e : (HandSHeadRun.topDef (OpenLaw.row PySem.Challenge.rw_idealroom_k06_orders_keep).prog 20).name = ("law" : PySem.Str) := by kernel_rfl
      rw [← e]
      exact hmg0
    obtain ⟨fd, hb, hsp, hF⟩ := Wk06.facts (w := w) KX G hmg c cx hm
    exact ⟨K, fd, _, KX, hb, hsp, hF⟩
open PySem PySem.W PySem.Calls PyProof.Rows
set_option maxHeartbeats 0
theorem PySem.Challenge.cw_idealroom_k06_orders_keep_holds : PySem.Challenge.rw_idealroom_k06_orders_keep.Holds := by
  exact Wk06.holds_of Mk06.law
