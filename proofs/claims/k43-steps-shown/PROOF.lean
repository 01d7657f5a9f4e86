import PyProof.Rows.All
import Wide.All
import OpenK.AllK
import Wide.FinOn
import HandS.ForMost
import HandS.ForExc
import HandS.Deep
import HandS.ExcValue
import HandS.SortInts
import HandS.Wide
import HandS.IsInst
import HandS.ExcIs
import HandS.Walk
import HandS.More
import HandS.Conv
import HandS.DictComp
import HandS.Style
import HandS.ListEq
import HandS.Finally
import HandS.ListItems
import HandS.TupLe
import HandS.TryMany
import PySem.Challenge.RW_askrise_k43_steps_shown
set_option Elab.async false
set_option linter.all false
set_option maxRecDepth 100000
set_option maxHeartbeats 4000000
namespace Z
open PySem PySem.Spec PyProof.Rows L2
/-! ### values -/
/-- the written part, and where the classes stand -/
structure KC where
  k : PySem.W.Frag
  C : Str → Addr
inductive Fl where
  | own | sh (b : Bool)
  deriving DecidableEq
abbrev Fl.fz : Fl := .sh true
abbrev Fl.bw : Fl := .sh false
inductive Tg where
  | lst | dK (ks : List Key) | dT (ks : List (List Key)) | ins (C : Str) (ns : List Str)
inductive PV where
  | non | bl (b : Bool) | int (i : Int) | str (x : Str)
  | cell (f : Fl) (t : Tg) (xs : List PV)
  | tup (xs : List PV) | cl (xs : List PV)
  | exc (c : Str) | obj (v : V) | loc (i : Nat) (p : List Nat)
abbrev PV.lst (f : Fl) (xs : List PV) : PV := .cell f .lst xs
def NoT : HO → Prop
  | .lst _ => True
  | .dK _ => True
  | .dT _ => True
  | .ins _ _ _ => True
  | .own _ => True
  | _ => False
def IsO (K : KC) : Tg → Hp → Addr → List V → List Addr → Prop
  | .lst, H, a, ws, A => H a = some (.lst ws) ∧ A = [a]
  | .dK ks, H, a, ws, A => H a = some (.dK (ks.zip ws)) ∧ ks.length = ws.length ∧ ks.Nodup ∧ A = [a]
  | .dT ks, H, a, ws, A => H a = some (.dT (ks.zip ws)) ∧ ks.length = ws.length ∧ ks.Nodup ∧ A = [a]
  | .ins C ns, H, a, ws, A => ∃ dx, H a = some (.ins (K.C C) dx (ns.zip ws)) ∧ H dx = some (.own a) ∧ ns.length = ws.length ∧ A = [a, dx]
theorem IsO.mono {K : KC} {t : Tg} {H H' : Hp} {a : Addr} {ws : List V} {A : List Addr} (k : ∀ b ∈ A, ∀ o, H b = some o → H' b = some o) (h : IsO K t H a ws A) : IsO K t H' a ws A := by
  cases t with
  | lst => obtain ⟨h, rfl⟩ := h; exact ⟨k _ (by simp) _ h, rfl⟩
  | dK ks => obtain ⟨h, l, n, rfl⟩ := h; exact ⟨k _ (by simp) _ h, l, n, rfl⟩
  | dT ks => obtain ⟨h, l, n, rfl⟩ := h; exact ⟨k _ (by simp) _ h, l, n, rfl⟩
  | ins C ns => obtain ⟨dx, h, d, l, rfl⟩ := h; exact ⟨dx, k _ (by simp) _ h, k _ (by simp) _ d, l, rfl⟩
theorem IsO.mem {K : KC} {t : Tg} {H : Hp} {a : Addr} {ws : List V} {A : List Addr} (h : IsO K t H a ws A) : a ∈ A := by
  cases t with
  | lst => obtain ⟨h, rfl⟩ := h; simp
  | dK ks => obtain ⟨h, l, n, rfl⟩ := h; simp
  | dT ks => obtain ⟨h, l, n, rfl⟩ := h; simp
  | ins C ns => obtain ⟨dx, h, d, l, rfl⟩ := h; simp
theorem IsO.cells {K : KC} {t : Tg} {H : Hp} {a : Addr} {ws : List V} {A : List Addr} (h : IsO K t H a ws A) : ∀ b ∈ A, ∃ o, H b = some o ∧ NoT o := by
  intro b m
  cases t with
  | lst => obtain ⟨h, rfl⟩ := h; cases List.mem_singleton.mp m; exact ⟨_, h, trivial⟩
  | dK ks => obtain ⟨h, l, n, rfl⟩ := h; cases List.mem_singleton.mp m; exact ⟨_, h, trivial⟩
  | dT ks => obtain ⟨h, l, n, rfl⟩ := h; cases List.mem_singleton.mp m; exact ⟨_, h, trivial⟩
  | ins C ns =>
    obtain ⟨dx, h, d, l, rfl⟩ := h
    rcases List.mem_cons.mp m with rfl | m
    · exact ⟨_, h, trivial⟩
    · cases List.mem_singleton.mp m; exact ⟨_, d, trivial⟩

/-- a heap that has all of another -/
def Le (F G : Hp) : Prop := ∀ a o, F a = some o → G a = some o
theorem Le.refl (F : Hp) : Le F F := fun _ _ h => h
theorem Le.trans {F G H : Hp} (a : Le F G) (b : Le G H) : Le F H := fun x o h => b x o (a x o h)
theorem Le.rd {F G : Hp} (l : Le F G) {a : Addr} {u : HO} (h : Rd F a u) : Rd G a u := h.elim (fun h => .inl (l _ _ h)) fun ⟨o, h⟩ => .inr ⟨o, l _ _ h⟩
theorem Le.sqL {K : KC} {F G : Hp} (l : Le F G) {a : Addr} {ws : List V} (h : SqL K.k F a ws) : SqL K.k G a ws := h.elim (fun h => .inl (l.rd h)) .inr
theorem Le.sqT {K : KC} {F G : Hp} (l : Le F G) {a : Addr} {ws : List V} (h : SqT K.k F a ws) : SqT K.k G a ws := h.elim (fun h => .inl (l.rd h)) .inr

/-- an exception that was raised, of the class cls -/
def XO (cls : Value) (a : Addr) : HO := .ext fun h => ∃ (oe : Obj) (vs : Array Value), h.get? a = some oe ∧ Zc cls none oe ∧ oe.data = .fields vs
/-! ### shared: every cell has the flag f and stands in F -/
mutual
inductive Sh (K : KC) (f : Fl) (F : Hp) : PV → V → Prop
  | non : Sh K f F .non .non
  | bl (b : Bool) : Sh K f F (.bl b) (.bl b)
  | int (i : Int) : Sh K f F (.int i) (.int i)
  | str (x : Str) : Sh K f F (.str x) (.str x)
  | obj (v : V) : Sh K f F (.obj v) v
  | exc {a : Addr} {c : Str} : F a = some (XO (.ref (K.C c)) a) → Sh K f F (.exc c) (.ref a)
  | cell {a : Addr} {t : Tg} {ws : List V} {xs : List PV} {A : List Addr} : IsO K t F a ws A → Shs K f F xs ws → Sh K f F (.cell f t xs) (.ref a)
  | cl {a : Addr} {ws : List V} {xs : List PV} : SqL K.k F a ws → Shs K f F xs ws → Sh K f F (.cl xs) (.ref a)
  | tup {a : Addr} {ws : List V} {xs : List PV} : SqT K.k F a ws → Shs K f F xs ws → Sh K f F (.tup xs) (.ref a)
inductive Shs (K : KC) (f : Fl) (F : Hp) : List PV → List V → Prop
  | nil : Shs K f F [] []
  | cons {x : PV} {v : V} {xs : List PV} {vs : List V} : Sh K f F x v → Shs K f F xs vs → Shs K f F (x :: xs) (v :: vs)
end
mutual
theorem Sh.le {K : KC} {f : Fl} {F G : Hp} (l : Le F G) : ∀ (x : PV) (v : V), Sh K f F x v → Sh K f G x v
  | .non, _, h => by cases h; exact .non
  | .bl b, _, h => by cases h; exact .bl b
  | .int i, _, h => by cases h; exact .int i
  | .str x, _, h => by cases h; exact .str x
  | .obj v, _, h => by cases h; exact .obj v
  | .exc c, _, h => by
    cases h with
    | exc a => exact .exc (l _ _ a)
  | .cell g t xs, _, h => by
    cases h with
    | cell a b => exact .cell (a.mono fun _ _ o e => l _ _ e) (Shs.le l xs _ b)
  | .cl xs, _, h => by
    cases h with
    | cl a b => exact .cl (l.sqL a) (Shs.le l xs _ b)
  | .tup xs, _, h => by
    cases h with
    | tup a b => exact .tup (l.sqT a) (Shs.le l xs _ b)
  | .loc i p, _, h => by cases h
theorem Shs.le {K : KC} {f : Fl} {F G : Hp} (l : Le F G) : ∀ (xs : List PV) (vs : List V), Shs K f F xs vs → Shs K f G xs vs
  | [], _, h => by cases h; exact .nil
  | x :: xs, _, h => by
    cases h with
    | cons a b => exact .cons (Sh.le l x _ a) (Shs.le l xs _ b)
end
/-! ### owned, with the cells that are one's own -/
mutual
inductive Own (K : KC) (F G H : Hp) : PV → V → List Addr → Prop
  | fz {x : PV} {v : V} : Sh K .fz F x v → Own K F G H x v []
  | bw {x : PV} {v : V} : Sh K .bw G x v → Own K F G H x v []
  | cell {a : Addr} {t : Tg} {ws : List V} {xs : List PV} {A S : List Addr} : IsO K t H a ws A → Owns K F G H xs ws S → (∀ b ∈ A, b ∉ S) → Own K F G H (.cell .own t xs) (.ref a) (A ++ S)
  | tup {a : Addr} {ws : List V} {xs : List PV} {S : List Addr} : F a = some (.tup ws) → Owns K F G H xs ws S → Own K F G H (.tup xs) (.ref a) S
inductive Owns (K : KC) (F G H : Hp) : List PV → List V → List Addr → Prop
  | nil : Owns K F G H [] [] []
  | cons {x : PV} {v : V} {xs : List PV} {vs : List V} {S T : List Addr} : Own K F G H x v S → Owns K F G H xs vs T → (∀ a ∈ S, a ∉ T) → Owns K F G H (x :: xs) (v :: vs) (S ++ T)
end
/-- .. of what is no list, dict or instance -/
def LeT (F G : Hp) : Prop := ∀ a o, ¬ NoT o → F a = some o → G a = some o
theorem Le.t {F G : Hp} (l : Le F G) : LeT F G := fun a o _ h => l a o h
theorem Own.le {K : KC} {F G H F' G' H' : Hp} (l : Le F F') (g : Le G G') {x : PV} {v : V} {S : List Addr} (h : Own K F G H x v S) : (∀ a ∈ S, ∀ o, H a = some o → H' a = some o) → Own K F' G' H' x v S := by
  refine Own.rec (motive_1 := fun x v S _ => (∀ a ∈ S, ∀ o, H a = some o → H' a = some o) → Own K F' G' H' x v S) (motive_2 := fun xs vs S _ => (∀ a ∈ S, ∀ o, H a = some o → H' a = some o) → Owns K F' G' H' xs vs S) ?_ ?_ ?_ ?_ ?_ ?_ h
  · exact fun h _ => .fz (h.le l)
  · exact fun h _ => .bw (h.le g)
  · exact fun i _ d ih k => .cell (i.mono fun b m => k b (List.mem_append_left _ m)) (ih fun b m => k b (List.mem_append_right _ m)) d
  · exact fun i _ ih k => .tup (l _ _ i) (ih k)
  · exact fun _ => .nil
  · exact fun _ _ d h1 h2 k => .cons (h1 fun b m => k b (List.mem_append_left _ m)) (h2 fun b m => k b (List.mem_append_right _ m)) d
theorem Owns.le {K : KC} {F G H F' G' H' : Hp} (l : Le F F') (g : Le G G') : ∀ {xs : List PV} {vs : List V} {S : List Addr}, Owns K F G H xs vs S → (∀ a ∈ S, ∀ o, H a = some o → H' a = some o) → Owns K F' G' H' xs vs S
  | [], _, _, h, _ => by cases h; exact .nil
  | x :: xs, _, _, h, k => by
    cases h with
    | cons a b d => exact .cons (a.le l g fun b m => k b (List.mem_append_left _ m)) (Owns.le l g b fun b m => k b (List.mem_append_right _ m)) d
theorem Own.cells {K : KC} {F G H : Hp} {x : PV} {v : V} {S : List Addr} (h : Own K F G H x v S) : ∀ a ∈ S, ∃ o, H a = some o ∧ NoT o := by
  refine Own.rec (motive_1 := fun x v S _ => ∀ a ∈ S, ∃ o, H a = some o ∧ NoT o) (motive_2 := fun xs vs S _ => ∀ a ∈ S, ∃ o, H a = some o ∧ NoT o) ?_ ?_ ?_ ?_ ?_ ?_ h
  · exact fun _ a m => by cases m
  · exact fun _ a m => by cases m
  · exact fun i _ _ ih a m => (List.mem_append.mp m).elim (i.cells a) (ih a)
  · exact fun _ _ ih => ih
  · exact fun a m => by cases m
  · exact fun _ _ _ h1 h2 a m => (List.mem_append.mp m).elim (h1 a) (h2 a)
/-! ### everything shared: borrowed, or given up -/
mutual
def PV.fl (f : Fl) : PV → PV
  | .cell _ t xs => .cell f t (PV.fls f xs)
  | .tup xs => .tup (PV.fls f xs)
  | .cl xs => .cl (PV.fls f xs)
  | x => x
def PV.fls (f : Fl) : List PV → List PV
  | [] => []
  | x :: xs => x.fl f :: PV.fls f xs
end
abbrev PV.er : PV → PV := PV.fl .bw
theorem PV.fls_map (f : Fl) : ∀ xs : List PV, PV.fls f xs = xs.map (PV.fl f)
  | [] => rfl
  | x :: xs => by rw [PV.fls, PV.fls_map f xs]; rfl
mutual
theorem Sh.fl {K : KC} {f : Fl} (g : Fl) {F : Hp} : ∀ (x : PV) (v : V), Sh K f F x v → Sh K g F (x.fl g) v
  | .non, _, h => by cases h; exact .non
  | .bl b, _, h => by cases h; exact .bl b
  | .int i, _, h => by cases h; exact .int i
  | .str x, _, h => by cases h; exact .str x
  | .obj v, _, h => by cases h; exact .obj v
  | .exc c, _, h => by
    cases h with
    | exc a => exact .exc a
  | .cell _ t xs, _, h => by
    cases h with
    | cell a b => exact .cell a (Shs.fl g xs _ b)
  | .cl xs, _, h => by
    cases h with
    | cl a b => exact .cl a (Shs.fl g xs _ b)
  | .tup xs, _, h => by
    cases h with
    | tup a b => exact .tup a (Shs.fl g xs _ b)
  | .loc i p, _, h => by cases h
theorem Shs.fl {K : KC} {f : Fl} (g : Fl) {F : Hp} : ∀ (xs : List PV) (vs : List V), Shs K f F xs vs → Shs K g F (PV.fls g xs) vs
  | [], _, h => by cases h; exact .nil
  | x :: xs, _, h => by
    cases h with
    | cons a b => exact .cons (Sh.fl g x _ a) (Shs.fl g xs _ b)
end
theorem Own.sh {K : KC} {F G H G' : Hp} (l : Le F G') (g : Le G G') {x : PV} {v : V} {S : List Addr} (h : Own K F G H x v S) : (∀ a ∈ S, ∀ o, H a = some o → G' a = some o) → Sh K .bw G' x.er v := by
  refine Own.rec (motive_1 := fun x v S _ => (∀ a ∈ S, ∀ o, H a = some o → G' a = some o) → Sh K .bw G' x.er v) (motive_2 := fun xs vs S _ => (∀ a ∈ S, ∀ o, H a = some o → G' a = some o) → Shs K .bw G' (PV.fls .bw xs) vs) ?_ ?_ ?_ ?_ ?_ ?_ h
  · exact fun h _ => ((h.le l).fl .bw)
  · exact fun h _ => ((h.le g).fl .bw)
  · exact fun i _ d ih k => .cell (i.mono fun b m => k b (List.mem_append_left _ m)) (ih fun b m => k b (List.mem_append_right _ m))
  · exact fun i _ ih k => .tup (.inl (.inl (l _ _ i))) (ih k)
  · exact fun _ => .nil
  · exact fun _ _ d h1 h2 k => .cons (h1 fun b m => k b (List.mem_append_left _ m)) (h2 fun b m => k b (List.mem_append_right _ m))
/-! nothing borrowed within -/
mutual
def PV.nb : PV → Bool
  | .cell (.sh b) _ _ => b
  | .cell .own _ xs => PV.nbs xs
  | .tup xs => PV.nbs xs
  | .cl _ => false
  | .loc _ _ => false
  | .obj _ => false
  | _ => true
def PV.nbs : List PV → Bool
  | [] => true
  | x :: xs => x.nb && PV.nbs xs
end
theorem PV.nbs_all : ∀ {xs : List PV}, PV.nbs xs = xs.all PV.nb
  | [] => rfl
  | x :: xs => by rw [PV.nbs, PV.nbs_all]; rfl
/-- T: what is no list, dict or instance is in F' -/
theorem Sh.toFz {K : KC} {G F' : Hp} (t : LeT G F') : ∀ (x : PV) (v : V), x.nb = true → Sh K .bw G x v → Sh K .fz F' (x.fl .fz) v := by
  intro x
  refine PV.rec (motive_1 := fun x => ∀ (v : V), x.nb = true → Sh K .bw G x v → Sh K .fz F' (x.fl .fz) v) (motive_2 := fun xs => ∀ (vs : List V), PV.nbs xs = true → Shs K .bw G xs vs → Shs K .fz F' (PV.fls .fz xs) vs) ?_ ?_ ?_ ?_ ?_ ?_ ?_ ?_ ?_ ?_ ?_ ?_ x
  · intro v _ h; cases h; exact .non
  · intro b v _ h; cases h; exact .bl b
  · intro b v _ h; cases h; exact .int b
  · intro b v _ h; cases h; exact .str b
  · intro f t xs ih v n h
    cases h with
    | cell _ _ => cases n
  · intro xs ih v n h
    cases h with
    | tup a b =>
      refine .tup ?_ (ih _ n b)
      rcases a with a | a
      · rcases a with a | ⟨o, a⟩
        · exact .inl (.inl (t _ _ (fun z => z) a))
        · exact .inl (.inr ⟨o, t _ _ (fun z => z) a⟩)
      · exact .inr a
  · intro xs ih v n h; cases n
  · intro c v n h
    cases h with
    | exc a => exact .exc (t _ _ (fun z => z) a)
  · intro u v n h; cases n
  · intro i p v n h; cases n
  · intro vs _ h; cases h; exact .nil
  · intro x xs h1 h2 vs n h
    cases h with
    | cons a b =>
      have n := Bool.and_eq_true_iff.mp n
      exact .cons (h1 _ n.1 a) (h2 _ n.2 b)
theorem Own.toFz {K : KC} {F G H F' : Hp} (l : Le F F') (t : LeT G F') {x : PV} {v : V} {S : List Addr} (h : Own K F G H x v S) : x.nb = true → (∀ a ∈ S, ∀ o, H a = some o → F' a = some o) → Sh K .fz F' (x.fl .fz) v := by
  refine Own.rec (motive_1 := fun x v S _ => x.nb = true → (∀ a ∈ S, ∀ o, H a = some o → F' a = some o) → Sh K .fz F' (x.fl .fz) v) (motive_2 := fun xs vs S _ => PV.nbs xs = true → (∀ a ∈ S, ∀ o, H a = some o → F' a = some o) → Shs K .fz F' (PV.fls .fz xs) vs) ?_ ?_ ?_ ?_ ?_ ?_ h
  · exact fun h _ _ => ((h.le l).fl .fz)
  · exact fun h n _ => h.toFz t _ _ n
  · exact fun i _ d ih n k => .cell (i.mono fun b m => k b (List.mem_append_left _ m)) (ih n fun b m => k b (List.mem_append_right _ m))
  · exact fun i _ ih n k => .tup (.inl (.inl (l _ _ i))) (ih n k)
  · exact fun _ _ => .nil
  · exact fun _ _ d h1 h2 n k => .cons (h1 (Bool.and_eq_true_iff.mp n).1 fun b m => k b (List.mem_append_left _ m)) (h2 (Bool.and_eq_true_iff.mp n).2 fun b m => k b (List.mem_append_right _ m))
/-- nothing borrowed within: no G is needed -/
theorem Own.noG {K : KC} {F G G' H F' H' : Hp} (l : Le F F') (t : LeT G F') {x : PV} {v : V} {S : List Addr} (h : Own K F G H x v S) : x.nb = true → (∀ a ∈ S, ∀ o, H a = some o → H' a = some o) → ∃ y, y = x ∧ Own K F' G' H' y v S := by
  have flf : ∀ x : PV, ∀ v, Sh K .bw G x v → x.nb = true → x.fl .fz = x := by
    intro x
    refine PV.rec (motive_1 := fun x => ∀ (v : V), Sh K .bw G x v → x.nb = true → x.fl .fz = x) (motive_2 := fun xs => ∀ (vs : List V), Shs K .bw G xs vs → PV.nbs xs = true → PV.fls .fz xs = xs) ?_ ?_ ?_ ?_ ?_ ?_ ?_ ?_ ?_ ?_ ?_ ?_ x
    · intro _ _ _; rfl
    · intro _ _ _ _; rfl
    · intro _ _ _ _; rfl
    · intro _ _ _ _; rfl
    · intro f t xs _ v h n
      cases h with
      | cell _ _ => cases n
    · intro xs ih v h n
      cases h with
      | tup a b => rw [PV.fl, ih _ b n]
    · intro _ _ _ _ n; cases n
    · intro _ _ _ _; rfl
    · intro _ _ _ n; cases n
    · intro _ _ _ _ n; cases n
    · intro _ _ _; rfl
    · intro x xs h1 h2 vs h n
      cases h with
      | cons a b =>
        have n := Bool.and_eq_true_iff.mp n
        rw [PV.fls, h1 _ a n.1, h2 _ b n.2]
  refine Own.rec (motive_1 := fun x v S _ => x.nb = true → (∀ a ∈ S, ∀ o, H a = some o → H' a = some o) → ∃ y, y = x ∧ Own K F' G' H' y v S) (motive_2 := fun xs vs S _ => PV.nbs xs = true → (∀ a ∈ S, ∀ o, H a = some o → H' a = some o) → Owns K F' G' H' xs vs S) ?_ ?_ ?_ ?_ ?_ ?_ h
  · exact fun h _ _ => ⟨_, rfl, .fz (h.le l)⟩
  · intro x v h n _
    have e := flf x v h n
    have := h.toFz t _ _ n
    rw [e] at this
    exact ⟨_, rfl, .fz this⟩
  · exact fun i _ d ih n k => ⟨_, rfl, .cell (i.mono fun b m => k b (List.mem_append_left _ m)) (ih n fun b m => k b (List.mem_append_right _ m)) d⟩
  · exact fun i _ ih n k => ⟨_, rfl, .tup (l _ _ i) (ih n k)⟩
  · exact fun _ _ => .nil
  · intro x v xs vs S T _ _ d h1 h2 n k
    obtain ⟨_, e, h3⟩ := h1 (Bool.and_eq_true_iff.mp n).1 fun b m => k b (List.mem_append_left _ m)
    rw [e] at h3
    exact .cons h3 (h2 (Bool.and_eq_true_iff.mp n).2 fun b m => k b (List.mem_append_right _ m)) d
/-! nothing owned within -/
mutual
def PV.nown : PV → Bool
  | .cell .own _ _ => false
  | .tup xs => PV.nowns xs
  | .loc _ _ => false
  | _ => true
def PV.nowns : List PV → Bool
  | [] => true
  | x :: xs => x.nown && PV.nowns xs
end
theorem PV.nowns_all : ∀ {xs : List PV}, PV.nowns xs = xs.all PV.nown
  | [] => rfl
  | x :: xs => by rw [PV.nowns, PV.nowns_all]; rfl
theorem Own.nown {K : KC} {F G H : Hp} {x : PV} {v : V} {S : List Addr} (h : Own K F G H x v S) : x.nown = true → S = [] := by
  refine Own.rec (motive_1 := fun x v S _ => x.nown = true → S = []) (motive_2 := fun xs vs S _ => PV.nowns xs = true → S = []) ?_ ?_ ?_ ?_ ?_ ?_ h
  · exact fun _ _ => rfl
  · exact fun _ _ => rfl
  · exact fun _ _ _ _ n => by cases n
  · exact fun _ _ ih n => ih n
  · exact fun _ => rfl
  · exact fun _ _ _ h1 h2 n => by rw [h1 (Bool.and_eq_true_iff.mp n).1, h2 (Bool.and_eq_true_iff.mp n).2]; rfl
theorem Owns.nown {K : KC} {F G H : Hp} : ∀ {xs : List PV} {vs : List V} {S : List Addr}, Owns K F G H xs vs S → PV.nowns xs = true → S = []
  | [], _, _, h, _ => by cases h; rfl
  | x :: xs, _, _, h, n => by
    cases h with
    | cons a b d => rw [a.nown (Bool.and_eq_true_iff.mp n).1, Owns.nown b (Bool.and_eq_true_iff.mp n).2]; rfl
theorem Sh.nown {K : KC} {f : Fl} {F : Hp} (hf : f ≠ .own) : ∀ (x : PV) (v : V), Sh K f F x v → x.nown = true := by
  intro x
  refine PV.rec (motive_1 := fun x => ∀ (v : V), Sh K f F x v → x.nown = true) (motive_2 := fun xs => ∀ (vs : List V), Shs K f F xs vs → PV.nowns xs = true) ?_ ?_ ?_ ?_ ?_ ?_ ?_ ?_ ?_ ?_ ?_ ?_ x
  · intro _ _; rfl
  · intro _ _ _; rfl
  · intro _ _ _; rfl
  · intro _ _ _; rfl
  · intro g t xs _ v h
    cases h with
    | cell _ _ =>
      cases f with
      | own => exact (hf rfl).elim
      | sh b => rfl
  · intro xs ih v h
    cases h with
    | tup a b => exact ih _ b
  · intro _ _ _ _; rfl
  · intro _ _ _; rfl
  · intro _ _ _; rfl
  · intro _ _ _ h; cases h
  · intro _ _; rfl
  · intro x xs h1 h2 vs h
    cases h with
    | cons a b => rw [PV.nowns, h1 _ a, h2 _ b]; rfl
theorem Own.nownOf {K : KC} {F G H : Hp} {x : PV} {v : V} {S : List Addr} (h : Own K F G H x v S) : S = [] → x.nown = true := by
  refine Own.rec (motive_1 := fun x v S _ => S = [] → x.nown = true) (motive_2 := fun xs vs S _ => S = [] → PV.nowns xs = true) ?_ ?_ ?_ ?_ ?_ ?_ h
  · exact fun h _ => h.nown (by decide) _ _
  · exact fun h _ => h.nown (by decide) _ _
  · intro a t ws xs A S i _ _ _ e
    have := i.mem
    rw [(List.append_eq_nil_iff.mp e).1] at this; cases this
  · exact fun _ _ ih e => ih e
  · exact fun _ => rfl
  · intro x v xs vs S T _ _ _ h1 h2 e
    have e := List.append_eq_nil_iff.mp e
    rw [PV.nowns, h1 e.1, h2 e.2]; rfl
theorem not_loc {K : KC} {F G H : Hp} {i : Nat} {p : List Nat} {v : V} {S : List Addr} : ¬ Own K F G H (.loc i p) v S := fun h => by
  cases h with
  | fz h => cases h
  | bw h => cases h
end Z

namespace Z
open PySem PySem.Spec PyProof.Rows L2
abbrev St := List (Option PV)
/-! ### where one stands: the slots, the heap (unlocked), each slot's own cells, held cells, locks -/
structure Cf where
  s : St
  H : Hp
  As : Nat → List Addr
  T : List Addr
def lk (L : Addr → Option Obj) (H : Hp) : Hp := fun a => match L a, H a with
  | some ob, some o => some (.frz ob o)
  | _, h => h
def Cf.mine (c : Cf) (a : Addr) : Prop := ∃ i, a ∈ c.As i
structure Bs where
  D : Addr → Prop
  H0 : Hp
  A0 : List Addr
  root : Nat → Option V
  L : Addr → Option Obj
  C : Str → Addr
abbrev kc (X : Cx) (B : Bs) : KC := ⟨X.K, B.C⟩
abbrev Cf.R (c : Cf) (B : Bs) : Hp := lk B.L c.H
open Classical in
noncomputable def Cf.F (c : Cf) (D : Addr → Prop) : Hp := fun a => if D a ∨ a ∈ c.T ∨ c.mine a then none else c.H a
open Classical in
noncomputable def Cf.G (c : Cf) : Hp := fun a => if a ∈ c.T ∨ c.mine a then none else c.H a
theorem F_eq {c : Cf} {D : Addr → Prop} {a : Addr} {o : HO} : c.F D a = some o ↔ ¬ D a ∧ a ∉ c.T ∧ ¬ c.mine a ∧ c.H a = some o := by
  unfold Cf.F
  by_cases h : D a ∨ a ∈ c.T ∨ c.mine a
  · rw [if_pos h]
    refine ⟨fun z => (nomatch z), fun ⟨x, y, z, _⟩ => ?_⟩
    rcases h with h | h | h
    · exact (x h).elim
    · exact (y h).elim
    · exact (z h).elim
  · rw [if_neg h]
    exact ⟨fun z => ⟨fun q => h (.inl q), fun q => h (.inr (.inl q)), fun q => h (.inr (.inr q)), z⟩, fun z => z.2.2.2⟩
theorem G_eq {c : Cf} {a : Addr} {o : HO} : c.G a = some o ↔ a ∉ c.T ∧ ¬ c.mine a ∧ c.H a = some o := by
  unfold Cf.G
  by_cases h : a ∈ c.T ∨ c.mine a
  · rw [if_pos h]
    refine ⟨fun z => (nomatch z), fun ⟨y, z, _⟩ => ?_⟩
    rcases h with h | h
    · exact (y h).elim
    · exact (z h).elim
  · rw [if_neg h]
    exact ⟨fun z => ⟨fun q => h (.inl q), fun q => h (.inr q), z⟩, fun z => z.2.2⟩
theorem F_le {c : Cf} {D : Addr → Prop} : Le (c.F D) c.H := fun a o h => (F_eq.mp h).2.2.2
theorem G_le {c : Cf} : Le c.G c.H := fun a o h => (G_eq.mp h).2.2
theorem FG_le {c : Cf} {D : Addr → Prop} : Le (c.F D) c.G := fun a o h => let ⟨_, h2, h3, h4⟩ := F_eq.mp h; G_eq.mpr ⟨h2, h3, h4⟩
def IsD : Option HO → Prop
  | some (.dK _) => True
  | some (.dT _) => True
  | _ => False
structure Rel (K : KC) (B : Bs) (c : Cf) (σ : L2.St) : Prop where
  len : σ.length = c.s.length
  own : ∀ (i : Nat) x, c.s[i]? = some (some x) → ∃ v, σ[i]? = some (some v) ∧ Own K (c.F B.D) c.G c.H x v (c.As i)
  dead : ∀ i : Nat, (∀ x, c.s[i]? ≠ some (some x)) → c.As i = []
  dis : ∀ (i j : Nat) a, a ∈ c.As i → a ∈ c.As j → i = j
  nT : ∀ (i : Nat) a, a ∈ c.As i → a ∉ c.T
  nD : ∀ a, a ∈ c.T ∨ c.mine a → ¬ B.D a
  live : ∀ a, a ∈ c.T ∨ B.D a → ∃ o, c.H a = some o ∧ NoT o
  keep : ∀ a o, a ∉ B.A0 → B.H0 a = some o → c.H a = some o
  new : ∀ a, a ∈ c.T ∨ c.mine a → a ∈ B.A0 ∨ B.H0 a = none
  root : ∀ (i : Nat) v, B.root i = some v → σ[i]? = some (some v)
  lkd : ∀ a ob, B.L a = some ob → a ∉ c.T ∧ ¬ c.mine a ∧ IsD (c.H a)
section
variable {K : KC} {B : Bs} {c c' c1 c2 : Cf} {σ : L2.St} {A A' : List Addr} {ms ms' : List Nat}
theorem Rel.cell (R : Rel K B c σ) {a : Addr} (h : c.mine a) : ∃ o, c.H a = some o ∧ NoT o := by
  obtain ⟨i, m⟩ := h
  by_cases e : ∃ x, c.s[i]? = some (some x)
  · obtain ⟨x, e⟩ := e
    obtain ⟨v, _, o⟩ := R.own i x e
    exact o.cells a m
  · rw [R.dead i fun x z => e ⟨x, z⟩] at m; cases m
/-- from one moment to a later one, A: cells that are held from now on -/
structure Step (A : List Addr) (c c' : Cf) : Prop where
  keep : ∀ a o, ¬ c.mine a → c.H a = some o → c'.H a = some o
  new : ∀ a, a ∈ A ∨ c'.mine a → c.mine a ∨ c.H a = none
  T : c'.T = A ++ c.T
theorem Step.refl : Step [] c c := ⟨fun _ _ _ h => h, fun a h => h.elim (fun z => by cases z) .inl, rfl⟩
theorem Step.F (st : Step A c c') {D : Addr → Prop} : Le (c.F D) (c'.F D) := fun a o h => by
  obtain ⟨h1, h2, h3, h4⟩ := F_eq.mp h
  have h5 : ¬ (a ∈ A ∨ c'.mine a) := fun z => (st.new a z).elim h3 fun q => by rw [h4] at q; cases q
  refine F_eq.mpr ⟨h1, fun z => ?_, fun z => h5 (.inr z), st.keep a o h3 h4⟩
  rw [st.T] at z
  exact (List.mem_append.mp z).elim (fun z => h5 (.inl z)) h2
theorem Step.G (st : Step A c c') : Le c.G c'.G := fun a o h => by
  obtain ⟨h2, h3, h4⟩ := G_eq.mp h
  have h5 : ¬ (a ∈ A ∨ c'.mine a) := fun z => (st.new a z).elim h3 fun q => by rw [h4] at q; cases q
  refine G_eq.mpr ⟨fun z => ?_, fun z => h5 (.inr z), st.keep a o h3 h4⟩
  rw [st.T] at z
  exact (List.mem_append.mp z).elim (fun z => h5 (.inl z)) h2
theorem Step.trans (a : Step A c c1) (b : Step A' c1 c2) : Step (A' ++ A) c c2 := by
  refine ⟨fun x o n h => b.keep x o (fun q => ?_) (a.keep x o n h), fun x q => ?_, by rw [b.T, a.T, List.append_assoc]⟩
  · rcases a.new x (.inr q) with z | z
    · exact n z
    · rw [h] at z; cases z
  · have back : c1.H x = none → c.mine x ∨ c.H x = none := fun z => by
      by_cases n : c.mine x
      · exact .inl n
      · cases e : c.H x with
        | none => exact .inr rfl
        | some o => rw [a.keep x o n e] at z; cases z
    rcases q with q | q
    · rcases List.mem_append.mp q with q | q
      · exact (b.new x (.inl q)).elim (fun z => a.new x (.inr z)) back
      · exact a.new x (.inl q)
    · exact (b.new x (.inr q)).elim (fun z => a.new x (.inr z)) back
/-- what a slot has is as it was -/
structure Same (i : Nat) (c c' : Cf) : Prop where
  s : c'.s[i]? = c.s[i]?
  As : c'.As i = c.As i
  H : ∀ a ∈ c.As i, c'.H a = c.H a
theorem Same.refl {i : Nat} : Same i c c := ⟨rfl, rfl, fun _ _ => rfl⟩
theorem Same.trans {i : Nat} (a : Same i c c1) (b : Same i c1 c2) : Same i c c2 := ⟨b.s.trans a.s, b.As.trans a.As, fun x m => (b.H x (by rw [a.As]; exact m)).trans (a.H x m)⟩
structure Aft (K : KC) (B : Bs) (ms : List Nat) (A : List Addr) (c : Cf) (σ : L2.St) (c' : Cf) : Prop where
  rel : Rel K B c' σ
  st : Step A c c'
  fr : ∀ i, i ∉ ms → Same i c c'
theorem Aft.refl (R : Rel K B c σ) : Aft K B ms [] c σ c := ⟨R, .refl, fun _ _ => .refl⟩
theorem Aft.trans (a : Aft K B ms A c σ c1) (b : Aft K B ms' A' c1 σ c2) : Aft K B (ms ++ ms') (A' ++ A) c σ c2 :=
  ⟨b.rel, a.st.trans b.st, fun i n => (a.fr i fun z => n (List.mem_append_left _ z)).trans (b.fr i fun z => n (List.mem_append_right _ z))⟩
theorem Aft.more (a : Aft K B ms A c σ c') (h : ∀ i ∈ ms, i ∈ ms') : Aft K B ms' A c σ c' := ⟨a.rel, a.st, fun i n => a.fr i fun z => n (h i z)⟩
theorem Aft.len (R : Rel K B c σ) (a : Aft K B ms A c σ c') : c'.s.length = c.s.length := a.rel.len.symm.trans R.len
/-- a new moment -/
theorem Rel.mk' {σ' : L2.St} (R : Rel K B c σ) (st : Step A c c') (dA : ∀ a ∈ A, ¬ c'.mine a) (lA : ∀ a ∈ A, ∃ o, c'.H a = some o ∧ NoT o) (len : σ'.length = c'.s.length)
    (each : ∀ i : Nat, (Same i c c' ∧ (∀ x, c.s[i]? = some (some x) → σ'[i]? = σ[i]?)) ∨ (∃ x v, c'.s[i]? = some (some x) ∧ σ'[i]? = some (some v) ∧ Own K (c'.F B.D) c'.G c'.H x v (c'.As i)) ∨ ((∀ x, c'.s[i]? ≠ some (some x)) ∧ c'.As i = []))
    (dis : ∀ (i j : Nat) a, a ∈ c'.As i → a ∈ c'.As j → i = j) (root : ∀ (i : Nat) v, B.root i = some v → σ'[i]? = some (some v)) : Rel K B c' σ' := by
  have hT : ∀ a, a ∈ c'.T → a ∈ A ∨ a ∈ c.T := fun a h => by rw [st.T] at h; exact List.mem_append.mp h
  have tKeep : ∀ a, a ∈ c.T → ∃ o, c.H a = some o ∧ NoT o ∧ c'.H a = some o := fun a h => by
    obtain ⟨o, e, n⟩ := R.live a (.inl h)
    exact ⟨o, e, n, st.keep a o (fun ⟨i, m⟩ => R.nT i a m h) e⟩
  have tNew : ∀ a, a ∈ c.T → ¬ (a ∈ A ∨ c'.mine a) := fun a h z => by
    obtain ⟨o, e, _⟩ := tKeep a h
    rcases st.new a z with ⟨i, m⟩ | q
    · exact R.nT i a m h
    · rw [e] at q; cases q
  have own : ∀ a, a ∈ c'.T ∨ c'.mine a → (a ∈ c.T ∨ c.mine a) ∨ c.H a = none := fun a h => by
    rcases h with h | h
    · rcases hT a h with h | h
      · exact (st.new a (.inl h)).elim (fun z => .inl (.inr z)) .inr
      · exact .inl (.inl h)
    · exact (st.new a (.inr h)).elim (fun z => .inl (.inr z)) .inr
  refine ⟨len, fun i x e => ?_, fun i n => ?_, dis, fun i a m t => ?_, fun a h d => ?_, fun a h => ?_, fun a o n h => ?_, fun a h => ?_, root, fun a ob h => ?_⟩
  · rcases each i with ⟨h, g⟩ | ⟨y, v, h1, h2, h3⟩ | ⟨h, _⟩
    · rw [h.s] at e
      obtain ⟨v, h1, h2⟩ := R.own i x e
      refine ⟨v, (g x e).trans h1, ?_⟩
      rw [h.As]
      exact h2.le st.F st.G fun a m o z => by rw [h.H a m]; exact z
    · rw [h1] at e; cases e
      exact ⟨v, h2, h3⟩
    · exact (h x e).elim
  · rcases each i with ⟨h, _⟩ | ⟨y, v, h1, _⟩ | ⟨_, h⟩
    · rw [h.As]; exact R.dead i fun x z => n x (by rw [h.s]; exact z)
    · exact (n y h1).elim
    · exact h
  · rcases hT a t with t | t
    · exact dA a t ⟨i, m⟩
    · exact tNew a t (.inr ⟨i, m⟩)
  · rcases own a h with z | z
    · exact R.nD a z d
    · obtain ⟨o, e, _⟩ := R.live a (.inr d)
      rw [e] at z; cases z
  · rcases h with h | h
    · rcases hT a h with h | h
      · exact lA a h
      · obtain ⟨o, _, n, e⟩ := tKeep a h
        exact ⟨o, e, n⟩
    · obtain ⟨o, e, n⟩ := R.live a (.inr h)
      exact ⟨o, st.keep a o (fun z => R.nD a (.inr z) h) e, n⟩
  · have e := R.keep a o n h
    by_cases z : c.mine a
    · rcases R.new a (.inr z) with q | q
      · exact (n q).elim
      · rw [h] at q; cases q
    · exact st.keep a o z e
  · rcases own a h with z | z
    · exact R.new a z
    · by_cases n : a ∈ B.A0
      · exact .inl n
      · cases e : B.H0 a with
        | none => exact .inr rfl
        | some o => rw [R.keep a o n e] at z; cases z
  · obtain ⟨h1, h2, h3⟩ := R.lkd a ob h
    have nn : ¬ (a ∈ A ∨ c'.mine a) := fun z => by
      rcases st.new a z with q | q
      · exact h2 q
      · rw [q] at h3; cases h3
    refine ⟨fun z => (hT a z).elim (fun z => nn (.inl z)) h1, fun z => nn (.inr z), ?_⟩
    cases e : c.H a with
    | none => rw [e] at h3; cases h3
    | some o => rw [st.keep a o h2 e]; rw [e] at h3; exact h3
/-- more stands in the heap, A of it held -/
theorem Rel.push {H' : Hp} (R : Rel K B c σ) (le : Le c.H H') (fr : ∀ a ∈ A, c.H a = none) (lA : ∀ a ∈ A, ∃ o, H' a = some o ∧ NoT o) : Aft K B ms A c σ { c with H := H', T := A ++ c.T } := by
  have st : Step A c { c with H := H', T := A ++ c.T } := ⟨fun a o _ h => le a o h, fun a h => h.elim (fun z => .inr (fr a z)) .inl, rfl⟩
  refine ⟨R.mk' st (fun a m ⟨i, q⟩ => ?_) lA R.len (fun i => .inl ⟨⟨rfl, rfl, fun a m => ?_⟩, fun _ _ => rfl⟩) R.dis R.root, st, fun i _ => ⟨rfl, rfl, fun a m => ?_⟩⟩
  · obtain ⟨o, e, _⟩ := R.cell ⟨i, q⟩
    rw [fr a m] at e; cases e
  · obtain ⟨o, e, _⟩ := R.cell ⟨i, m⟩
    rw [e]; exact le a o e
  · obtain ⟨o, e, _⟩ := R.cell ⟨i, m⟩
    rw [e]; exact le a o e
theorem Rel.grow {H' : Hp} (R : Rel K B c σ) (le : Le c.H H') : Aft K B ms [] c σ { c with H := H' } := R.push (A := []) le (fun _ m => by cases m) fun _ m => by cases m
/-- what was held is let go -/
theorem Rel.drop {T : List Addr} (R : Rel K B c σ) (h : c.T = A ++ T) : Rel K B { c with T := T } σ := by
  have sub : ∀ a, a ∈ T → a ∈ c.T := fun a m => by rw [h]; exact List.mem_append_right _ m
  have lf : Le (c.F B.D) (Cf.F { c with T := T } B.D) := fun a o z => let ⟨h1, h2, h3, h4⟩ := F_eq.mp z; F_eq.mpr ⟨h1, fun q => h2 (sub a q), h3, h4⟩
  have lg : Le c.G (Cf.G { c with T := T }) := fun a o z => let ⟨h2, h3, h4⟩ := G_eq.mp z; G_eq.mpr ⟨fun q => h2 (sub a q), h3, h4⟩
  refine ⟨R.len, fun i x e => ?_, R.dead, R.dis, fun i a m t => R.nT i a m (sub a t), fun a h => R.nD a (h.imp_left (sub a)), fun a h => R.live a (h.imp_left (sub a)), R.keep, fun a h => R.new a (h.imp_left (sub a)), R.root, fun a ob h => ?_⟩
  · obtain ⟨v, h1, h2⟩ := R.own i x e
    exact ⟨v, h1, h2.le lf lg fun _ _ _ z => z⟩
  · obtain ⟨h1, h2, h3⟩ := R.lkd a ob h
    exact ⟨fun z => h1 (sub a z), h2, h3⟩
theorem Aft.drop (a : Aft K B ms A c σ c') : Aft K B ms [] c σ { c' with T := c.T } :=
  ⟨a.rel.drop a.st.T, ⟨a.st.keep, fun x h => a.st.new x (h.elim (fun z => by cases z) .inr), rfl⟩, fun i n => let s := a.fr i n; ⟨s.s, s.As, s.H⟩⟩
/-- held cells stand apart -/
theorem Aft.heldT (R : Rel K B c σ) (a : Aft K B ms A c σ c') : ∀ x ∈ A, x ∉ c.T := fun x m t => by
  obtain ⟨o, e, _⟩ := R.live x (.inl t)
  rcases a.st.new x (.inl m) with ⟨i, z⟩ | z
  · exact R.nT i x z t
  · rw [e] at z; cases z
theorem Aft.heldM (a : Aft K B ms A c σ c') : ∀ x ∈ A, ¬ c'.mine x := fun x m ⟨i, z⟩ => a.rel.nT i x z (by rw [a.st.T]; exact List.mem_append_left _ m)
theorem drop_F (a : Aft K B ms A c σ c') : Le (c'.F B.D) (Cf.F { c' with T := c.T } B.D) := fun x o z => let ⟨h1, h2, h3, h4⟩ := F_eq.mp z; F_eq.mpr ⟨h1, fun q => h2 (by rw [a.st.T]; exact List.mem_append_right _ q), h3, h4⟩
theorem drop_G (a : Aft K B ms A c σ c') : Le c'.G (Cf.G { c' with T := c.T }) := fun x o z => let ⟨h2, h3, h4⟩ := G_eq.mp z; G_eq.mpr ⟨fun q => h2 (by rw [a.st.T]; exact List.mem_append_right _ q), h3, h4⟩
/-- given up: borrowed from now on -/
theorem Aft.bor (R : Rel K B c σ) (a : Aft K B ms A c σ c') {x : PV} {v : V} (o : Own K (c'.F B.D) c'.G c'.H x v A) : Sh K .bw (Cf.G { c' with T := c.T }) x.er v :=
  o.sh (FG_le.trans (drop_G a)) (drop_G a) fun b m u h => G_eq.mpr ⟨a.heldT R b m, a.heldM b m, h⟩
theorem Rel.leT (R : Rel K B c σ) : LeT c.H (c.F B.D) := fun a o n h => by
  refine F_eq.mpr ⟨fun d => ?_, fun t => ?_, fun m => ?_, h⟩
  · obtain ⟨u, e, z⟩ := R.live a (.inr d)
    rw [h] at e; cases e; exact n z
  · obtain ⟨u, e, z⟩ := R.live a (.inl t)
    rw [h] at e; cases e; exact n z
  · obtain ⟨u, e, z⟩ := R.cell m
    rw [h] at e; cases e; exact n z
theorem Aft.fzz (R : Rel K B c σ) (a : Aft K B ms A c σ c') {x : PV} {v : V} (o : Own K (c'.F B.D) c'.G c'.H x v A) (n : x.nb = true) : Sh K .fz (Cf.F { c' with T := c.T } B.D) (x.fl .fz) v := by
  refine o.toFz (drop_F a) (show LeT c'.G _ from fun x' u' n' h' => a.drop.rel.leT x' u' n' (G_le (c := c') x' u' h')) n fun b m u h => F_eq.mpr ⟨a.rel.nD b (.inl (by rw [a.st.T]; exact List.mem_append_left _ m)), a.heldT R b m, a.heldM b m, h⟩
/-! ### locks -/
theorem lk_new {L : Addr → Option Obj} {H : Hp} {p : Addr} (h : lk L H p = none) : H p = none := by
  unfold lk at h
  cases e : H p with
  | none => rfl
  | some o =>
    rw [e] at h
    cases l : L p with
    | none => rw [l] at h; cases h
    | some ob => rw [l] at h; cases h
theorem lk_none {L : Addr → Option Obj} {H : Hp} {p : Addr} (h : L p = none) : lk L H p = H p := by
  unfold lk; rw [h]
theorem lk_upd {L : Addr → Option Obj} {H : Hp} {p : Addr} {o : HO} (h : L p = none) : upd (lk L H) p o = lk L (upd H p o) := by
  funext b
  by_cases e : b = p
  · subst e; rw [upd_same, lk_none h, upd_same]
  · rw [upd_ne e]; unfold lk; rw [upd_ne e]
theorem Rel.lkNew (R : Rel K B c σ) {p : Addr} (h : c.R B p = none) : c.H p = none ∧ B.L p = none := by
  have e := lk_new h
  refine ⟨e, ?_⟩
  cases l : B.L p with
  | none => rfl
  | some ob =>
    have := (R.lkd p ob l).2.2
    rw [e] at this; cases this
theorem Rel.lkGet (R : Rel K B c σ) {a : Addr} {o : HO} (h : c.H a = some o) (n : ¬ IsD (some o)) : c.R B a = some o := by
  have : B.L a = none := by
    cases l : B.L a with
    | none => rfl
    | some ob =>
      have := (R.lkd a ob l).2.2
      rw [h] at this; exact (n this).elim
  exact (lk_none this).trans h
theorem lkRd {L : Addr → Option Obj} {H : Hp} {a : Addr} {o : HO} (h : H a = some o) : Rd (lk L H) a o := by
  unfold lk Rd
  dsimp only
  rw [h]
  cases L a with
  | none => exact .inl rfl
  | some ob => exact .inr ⟨ob, rfl⟩
theorem Rel.lkMine (R : Rel K B c σ) {a : Addr} (h : a ∈ c.T ∨ c.mine a) : B.L a = none := by
  cases l : B.L a with
  | none => rfl
  | some ob =>
    have := R.lkd a ob l
    exact (h.elim this.1 this.2.1).elim
theorem Rel.lkSqL (R : Rel K B c σ) {a : Addr} {ws : List V} (h : SqL K.k c.H a ws) : SqL K.k (c.R B) a ws := by
  rcases h with (h | ⟨o, h⟩) | h
  · exact .inl (.inl (R.lkGet h fun z => z))
  · exact .inl (.inr ⟨o, R.lkGet h fun z => z⟩)
  · exact .inr h
theorem Rel.lkSqT (R : Rel K B c σ) {a : Addr} {ws : List V} (h : SqT K.k c.H a ws) : SqT K.k (c.R B) a ws := by
  rcases h with (h | ⟨o, h⟩) | h
  · exact .inl (.inl (R.lkGet h fun z => z))
  · exact .inl (.inr ⟨o, R.lkGet h fun z => z⟩)
  · exact .inr h
end
end Z

namespace Z
open PySem PySem.Spec PyProof.Rows L2
/-! ### results -/
inductive Rs (α : Type) where
  | bad | ok (a : α) (s : St) | ex (c : Str) (s : St)
abbrev WZ := Str → St → Prop
def Rs.post {α : Type} (r : Rs α) (P : α → St → Prop) (W : WZ) : Prop := match r with
  | .ok a s => P a s
  | .ex c s => W c s
  | .bad => False
def Rs.bind {α β : Type} (r : Rs α) (k : α → St → Rs β) : Rs β := match r with
  | .ok a s => k a s
  | .ex c s => .ex c s
  | .bad => .bad
def ofO {α : Type} (o : Option α) (s : St) : Rs α := match o with
  | some a => .ok a s
  | none => .bad
theorem Rs.post_bind {α β : Type} {r : Rs α} {k : α → St → Rs β} {P : β → St → Prop} {W : WZ} (h : (r.bind k).post P W) : r.post (fun a s => (k a s).post P W) W := by
  cases r <;> exact h
theorem Rs.post_imp {α : Type} {r : Rs α} {P P' : α → St → Prop} {W : WZ} (h : r.post P W) (i : ∀ a s, P a s → P' a s) : r.post P' W := by
  cases r with
  | ok a s => exact i a s h
  | ex c s => exact h
  | bad => exact h
theorem ofO_post {α : Type} {o : Option α} {s : St} {P : α → St → Prop} {W : WZ} (h : (ofO o s).post P W) : ∃ a, o = some a ∧ P a s := by
  cases o with
  | none => exact h.elim
  | some a => exact ⟨a, rfl, h⟩
/-! ### values in a row, nothing owned -/
inductive Os (K : KC) (F G H : Hp) : List PV → List V → Prop
  | nil : Os K F G H [] []
  | cons {x : PV} {v : V} {xs : List PV} {vs : List V} : Own K F G H x v [] → Os K F G H xs vs → Os K F G H (x :: xs) (v :: vs)
section
variable {K : KC} {F G H F' G' H' : Hp}
theorem Owns.os : ∀ {xs : List PV} {vs : List V} {S : List Addr}, Owns K F G H xs vs S → S = [] → Os K F G H xs vs
  | [], _, _, h, _ => by cases h; exact .nil
  | x :: xs, _, _, h, e => by
    cases h with
    | cons a b d =>
      have e := List.append_eq_nil_iff.mp e
      have a' := a
      rw [e.1] at a'
      exact .cons a' (Owns.os b e.2)
theorem Os.owns : ∀ {xs : List PV} {vs : List V}, Os K F G H xs vs → Owns K F G H xs vs []
  | [], _, h => by cases h; exact .nil
  | x :: xs, _, h => by
    cases h with
    | cons a b => exact Owns.cons (S := []) (T := []) a (Os.owns b) (fun _ m => by cases m)
theorem Shs.osF : ∀ {xs : List PV} {vs : List V}, Shs K .fz F xs vs → Os K F G H xs vs
  | [], _, h => by cases h; exact .nil
  | x :: xs, _, h => by
    cases h with
    | cons a b => exact .cons (.fz a) (Shs.osF b)
theorem Shs.osB : ∀ {xs : List PV} {vs : List V}, Shs K .bw G xs vs → Os K F G H xs vs
  | [], _, h => by cases h; exact .nil
  | x :: xs, _, h => by
    cases h with
    | cons a b => exact .cons (.bw a) (Shs.osB b)
theorem Os.le (l : Le F F') (g : Le G G') : ∀ {xs : List PV} {vs : List V}, Os K F G H xs vs → Os K F' G' H' xs vs
  | [], _, h => by cases h; exact .nil
  | x :: xs, _, h => by
    cases h with
    | cons a b => exact .cons (a.le l g (fun _ m => by cases m)) (Os.le l g b)
theorem Os.length : ∀ {xs : List PV} {vs : List V}, Os K F G H xs vs → xs.length = vs.length
  | [], _, h => by cases h; rfl
  | x :: xs, _, h => by
    cases h with
    | cons a b => simp [Os.length b]
theorem Owns.length : ∀ {xs : List PV} {vs : List V} {S : List Addr}, Owns K F G H xs vs S → xs.length = vs.length
  | [], _, _, h => by cases h; rfl
  | x :: xs, _, _, h => by
    cases h with
    | cons a b d => simp [Owns.length b]
theorem Shs.length {f : Fl} : ∀ {xs : List PV} {vs : List V}, Shs K f F xs vs → xs.length = vs.length
  | [], _, h => by cases h; rfl
  | x :: xs, _, h => by
    cases h with
    | cons a b => simp [Shs.length b]
theorem Os.append : ∀ {xs ys : List PV} {vs ws : List V}, Os K F G H xs vs → Os K F G H ys ws → Os K F G H (xs ++ ys) (vs ++ ws)
  | [], _, _, _, h, g => by cases h; exact g
  | x :: xs, _, _, _, h, g => by
    cases h with
    | cons a b => exact .cons a (Os.append b g)
theorem Os.get : ∀ {xs : List PV} {vs : List V} {i : Nat} {x : PV}, Os K F G H xs vs → xs[i]? = some x → ∃ v, vs[i]? = some v ∧ Own K F G H x v []
  | [], _, _, _, h, e => by simp at e
  | y :: xs, _, 0, x, h, e => by
    cases h with
    | cons a b => simp at e; subst e; exact ⟨_, rfl, a⟩
  | y :: xs, _, i + 1, x, h, e => by
    cases h with
    | cons a b => exact Os.get (i := i) b (by simpa using e)
theorem Os.drop : ∀ {xs : List PV} {vs : List V} (n : Nat), Os K F G H xs vs → Os K F G H (xs.drop n) (vs.drop n)
  | _, _, 0, h => h
  | [], _, n + 1, h => by cases h; exact .nil
  | x :: xs, _, n + 1, h => by
    cases h with
    | cons a b => exact Os.drop n b
theorem Os.take : ∀ {xs : List PV} {vs : List V} (n : Nat), Os K F G H xs vs → Os K F G H (xs.take n) (vs.take n)
  | _, _, 0, h => .nil
  | [], _, n + 1, h => by cases h; exact .nil
  | x :: xs, _, n + 1, h => by
    cases h with
    | cons a b => exact .cons a (Os.take n b)
theorem Os.reverse : ∀ {xs : List PV} {vs : List V}, Os K F G H xs vs → Os K F G H xs.reverse vs.reverse
  | [], _, h => by cases h; exact .nil
  | x :: xs, _, h => by
    cases h with
    | cons a b => rw [List.reverse_cons, List.reverse_cons]; exact (Os.reverse b).append (.cons a .nil)
theorem Os.set {x : PV} {v : V} (r : Own K F G H x v []) : ∀ {xs : List PV} {vs : List V} (n : Nat), Os K F G H xs vs → Os K F G H (xs.set n x) (vs.set n v)
  | [], _, _, h => by cases h; exact .nil
  | y :: xs, _, 0, h => by
    cases h with
    | cons a b => exact .cons r b
  | y :: xs, _, n + 1, h => by
    cases h with
    | cons a b => exact .cons a (Os.set r n b)
theorem Own.int (i : Int) : Own K F G H (.int i) (.int i) [] := .fz (.int i)
theorem Own.bl (i : Bool) : Own K F G H (.bl i) (.bl i) [] := .fz (.bl i)
theorem Own.str (i : Str) : Own K F G H (.str i) (.str i) [] := .fz (.str i)
theorem Own.non : Own K F G H .non .non [] := .fz .non
theorem Os.ints : ∀ ns : List Int, Os K F G H (ns.map PV.int) (ns.map V.int)
  | [] => .nil
  | n :: ns => .cons (.int n) (Os.ints ns)
theorem Os.strs : ∀ ns : List Str, Os K F G H (ns.map PV.str) (ns.map V.str)
  | [] => .nil
  | n :: ns => .cons (.str n) (Os.strs ns)
theorem Own.intEq {i : Int} {v : V} {S : List Addr} (h : Own K F G H (.int i) v S) : v = .int i := by
  cases h with
  | fz h => cases h; rfl
  | bw h => cases h; rfl
theorem Own.blEq {i : Bool} {v : V} {S : List Addr} (h : Own K F G H (.bl i) v S) : v = .bl i := by
  cases h with
  | fz h => cases h; rfl
  | bw h => cases h; rfl
theorem Own.strEq {i : Str} {v : V} {S : List Addr} (h : Own K F G H (.str i) v S) : v = .str i := by
  cases h with
  | fz h => cases h; rfl
  | bw h => cases h; rfl
theorem Own.nonEq {v : V} {S : List Addr} (h : Own K F G H .non v S) : v = .non := by
  cases h with
  | fz h => cases h; rfl
  | bw h => cases h; rfl
theorem Shs.intsEq {f : Fl} : ∀ {ns : List Int} {vs : List V}, Shs K f F (ns.map PV.int) vs → vs = ns.map V.int
  | [], _, h => by cases h; rfl
  | n :: ns, _, h => by
    cases h with
    | cons a b => cases a; rw [Shs.intsEq b]; rfl
theorem Shs.strsEq {f : Fl} : ∀ {ns : List Str} {vs : List V}, Shs K f F (ns.map PV.str) vs → vs = ns.map V.str
  | [], _, h => by cases h; rfl
  | n :: ns, _, h => by
    cases h with
    | cons a b => cases a; rw [Shs.strsEq b]; rfl
/-- a cell, seen -/
theorem Own.view (lf : Le F H) (lg : Le G H) {f : Fl} {t : Tg} {xs : List PV} {v : V} {A : List Addr} (h : Own K F G H (.cell f t xs) v A) : ∃ a ws A0 S, v = .ref a ∧ IsO K t H a ws A0 ∧ Owns K F G H xs ws S ∧ (∀ b ∈ S, b ∈ A) := by
  cases h with
  | fz h =>
    cases h with
    | cell a b => exact ⟨_, _, _, [], rfl, a.mono fun _ _ o e => lf _ _ e, b.osF.owns, fun b m => m⟩
  | bw h =>
    cases h with
    | cell a b => exact ⟨_, _, _, [], rfl, a.mono fun _ _ o e => lg _ _ e, b.osB.owns, fun b m => m⟩
  | cell a b d => exact ⟨_, _, _, _, rfl, a, b, fun b m => List.mem_append_right _ m⟩
theorem Own.viewT (lf : Le F H) (lg : Le G H) {xs : List PV} {v : V} {A : List Addr} (h : Own K F G H (.tup xs) v A) : ∃ a ws S, v = .ref a ∧ SqT K.k H a ws ∧ Owns K F G H xs ws S ∧ S = A := by
  cases h with
  | fz h =>
    cases h with
    | tup a b => exact ⟨_, _, [], rfl, lf.sqT a, b.osF.owns, rfl⟩
  | bw h =>
    cases h with
    | tup a b => exact ⟨_, _, [], rfl, lg.sqT a, b.osB.owns, rfl⟩
  | tup a b => exact ⟨_, _, _, rfl, .inl (.inl (lf _ _ a)), b, rfl⟩
theorem Own.viewC (lf : Le F H) (lg : Le G H) {xs : List PV} {v : V} {A : List Addr} (h : Own K F G H (.cl xs) v A) : ∃ a ws, v = .ref a ∧ SqL K.k H a ws ∧ Os K F G H xs ws := by
  cases h with
  | fz h =>
    cases h with
    | cl a b => exact ⟨_, _, rfl, lf.sqL a, b.osF⟩
  | bw h =>
    cases h with
    | cl a b => exact ⟨_, _, rfl, lg.sqL a, b.osB⟩
end
/-! ### what an expression's value is -/
def Vl (K : KC) (B : Bs) (c : Cf) (σ : L2.St) (x : PV) (v : V) : Prop := (∃ i, x = .loc i [] ∧ σ[i]? = some (some v)) ∨ Own K (c.F B.D) c.G c.H x v []
inductive Vls (K : KC) (B : Bs) (c : Cf) (σ : L2.St) : List PV → List V → Prop
  | nil : Vls K B c σ [] []
  | cons {x : PV} {v : V} {xs : List PV} {vs : List V} : Vl K B c σ x v → Vls K B c σ xs vs → Vls K B c σ (x :: xs) (v :: vs)
def look (s : St) : PV → PV
  | .loc i p => match s[i]? with
    | some (some x) => x
    | _ => .loc i p
  | x => x
section
variable {K : KC} {B : Bs} {c c' c1 c2 : Cf} {σ : L2.St} {A : List Addr} {ms : List Nat} {x : PV} {v : V}
theorem Vl.step (st : Step A c c') (h : Vl K B c σ x v) : Vl K B c' σ x v := h.imp_right fun h => h.le st.F st.G (fun _ m => by cases m)
theorem Vls.step (st : Step A c c') : ∀ {xs : List PV} {vs : List V}, Vls K B c σ xs vs → Vls K B c' σ xs vs
  | _, _, .nil => .nil
  | _, _, .cons h t => .cons (h.step st) (Vls.step st t)
theorem Vls.length : ∀ {xs : List PV} {vs : List V}, Vls K B c σ xs vs → xs.length = vs.length
  | _, _, .nil => rfl
  | _, _, .cons h t => by simp [Vls.length t]
theorem Vl.int {i : Int} (h : Vl K B c σ (.int i) v) : v = .int i := by
  rcases h with ⟨_, e, _⟩ | h
  · cases e
  · exact h.intEq
theorem Vl.bl {i : Bool} (h : Vl K B c σ (.bl i) v) : v = .bl i := by
  rcases h with ⟨_, e, _⟩ | h
  · cases e
  · exact h.blEq
theorem Vl.str {i : Str} (h : Vl K B c σ (.str i) v) : v = .str i := by
  rcases h with ⟨_, e, _⟩ | h
  · cases e
  · exact h.strEq
theorem Vl.non (h : Vl K B c σ .non v) : v = .non := by
  rcases h with ⟨_, e, _⟩ | h
  · cases e
  · exact h.nonEq
/-- seen through -/
theorem Rel.look (R : Rel K B c σ) (h : Vl K B c σ x v) {y : PV} (e : look c.s x = y) (n : ∀ i p, y ≠ .loc i p) : ∃ A, Own K (c.F B.D) c.G c.H y v A := by
  rcases h with ⟨i, rfl, q⟩ | h
  · dsimp only [Z.look] at e
    cases z : c.s[i]? with
    | none => rw [z] at e; exact (n _ _ e.symm).elim
    | some o =>
      cases o with
      | none => rw [z] at e; exact (n _ _ e.symm).elim
      | some w =>
        rw [z] at e
        obtain ⟨u, h1, h2⟩ := R.own i w z
        rw [q] at h1; cases h1
        have e : w = y := e
        subst e
        exact ⟨_, h2⟩
  · have : Z.look c.s x = x := by
      cases x with
      | loc i p => exact (not_loc h).elim
      | _ => rfl
    rw [this] at e; subst e; exact ⟨_, h⟩
theorem Rel.cellOf (R : Rel K B c σ) (h : Vl K B c σ x v) {f : Fl} {t : Tg} {xs : List PV} (e : Z.look c.s x = .cell f t xs) : ∃ a ws A0 S, v = .ref a ∧ IsO K t c.H a ws A0 ∧ Owns K (c.F B.D) c.G c.H xs ws S := by
  obtain ⟨A, h⟩ := R.look h e (fun _ _ z => nomatch z)
  obtain ⟨a, ws, A0, S, h1, h2, h3, _⟩ := h.view F_le G_le
  exact ⟨a, ws, A0, S, h1, h2, h3⟩
theorem Rel.lstOf (R : Rel K B c σ) (h : Vl K B c σ x v) {f : Fl} {xs : List PV} (e : Z.look c.s x = .lst f xs) (n : PV.nowns xs = true) : ∃ a ws, v = .ref a ∧ c.H a = some (.lst ws) ∧ Os K (c.F B.D) c.G c.H xs ws := by
  obtain ⟨a, ws, A0, S, h1, h2, h3⟩ := R.cellOf h e
  exact ⟨a, ws, h1, h2.1, h3.os (h3.nown n)⟩
theorem Rel.tupOf (R : Rel K B c σ) (h : Vl K B c σ x v) {xs : List PV} (e : Z.look c.s x = .tup xs) (n : PV.nowns xs = true) : ∃ a ws, v = .ref a ∧ SqT K.k c.H a ws ∧ Os K (c.F B.D) c.G c.H xs ws := by
  obtain ⟨A, h⟩ := R.look h e (fun _ _ z => nomatch z)
  obtain ⟨a, ws, S, h1, h2, h3, _⟩ := h.viewT F_le G_le
  exact ⟨a, ws, h1, h2, h3.os (h3.nown n)⟩
theorem Rel.clOf (R : Rel K B c σ) (h : Vl K B c σ x v) {xs : List PV} (e : Z.look c.s x = .cl xs) : ∃ a ws, v = .ref a ∧ SqL K.k c.H a ws ∧ Os K (c.F B.D) c.G c.H xs ws := by
  obtain ⟨A, h⟩ := R.look h e (fun _ _ z => nomatch z)
  exact h.viewC F_le G_le
theorem Rel.read (R : Rel K B c σ) (h : Vl K B c σ x v) {y : PV} (e : Z.look c.s x = y) (n : ∀ i p, y ≠ .loc i p) : Sh K .bw c.H y.er v := by
  obtain ⟨A, h⟩ := R.look h e n
  exact h.sh F_le G_le fun _ _ _ h => h
end
/-! ### the judgements -/
section
variable (K : KC) (B : Bs) (W : WZ) (ms : List Nat)
def evE (f : St → Rs PV) : TE := fun σ Hr Q => ∃ c, Hr = c.R B ∧ Rel K B c σ ∧ (f c.s).post (fun x s' => ∀ v c', Aft K B ms [] c σ c' → c'.s = s' → Vl K B c' σ x v → Q v (c'.R B)) W
def evF (f : St → Rs PV) : TE := fun σ Hr Q => ∃ c, Hr = c.R B ∧ Rel K B c σ ∧ (f c.s).post (fun x s' => ∀ v A c', Aft K B ms A c σ c' → c'.s = s' → Own K (c'.F B.D) c'.G c'.H x v A → Q v (c'.R B)) W
def evA (f : St → Rs (List PV)) : TA := fun σ Hr Q => ∃ c, Hr = c.R B ∧ Rel K B c σ ∧ (f c.s).post (fun xs s' => ∀ vs c', Aft K B ms [] c σ c' → c'.s = s' → Vls K B c' σ xs vs → Q vs (c'.R B)) W
def evT (f : St → Rs Bool) : TT := fun σ Hr Q => ∃ c, Hr = c.R B ∧ Rel K B c σ ∧ (f c.s).post (fun b s' => ∀ c', Aft K B ms [] c σ c' → c'.s = s' → Q b (c'.R B)) W
end
def VE (X : Cx) (B : Bs) (W : WZ) (ms : List Nat) (e : Expr) (f : St → Rs PV) : Prop := PE X e (evE (kc X B) B W ms f)
def VF (X : Cx) (B : Bs) (W : WZ) (ms : List Nat) (e : Expr) (f : St → Rs PV) : Prop := PE X e (evF (kc X B) B W ms f)
def VA (X : Cx) (B : Bs) (W : WZ) (ms : List Nat) (es : List Expr) (f : St → Rs (List PV)) : Prop := PA X es (evA (kc X B) B W ms f)
def VT (X : Cx) (B : Bs) (W : WZ) (ms : List Nat) (e : Expr) (f : St → Rs Bool) : Prop := PT X e (evT (kc X B) B W ms f)
def VW (X : Cx) (B : Bs) (W : WZ) (ms : List Nat) (e : Expr) (f : St → Rs Bool) : Prop := PW X e (evT (kc X B) B W ms f)
theorem pe_imp {X : Cx} {e : Expr} {t t' : TE} (h : PE X e t) (i : ∀ σ H Q, t' σ H Q → t σ H Q) : PE X e t' := ⟨fun pins s σ H Q I q => h.run pins s σ H Q I (i _ _ _ q)⟩
theorem pa_imp {X : Cx} {e : List Expr} {t t' : TA} (h : PA X e t) (i : ∀ σ H Q, t' σ H Q → t σ H Q) : PA X e t' := ⟨fun pos pins s σ H Q I q => h.run pos pins s σ H Q I (i _ _ _ q)⟩
theorem pt_imp {X : Cx} {e : Expr} {t t' : TT} (h : PT X e t) (i : ∀ σ H Q, t' σ H Q → t σ H Q) : PT X e t' := ⟨fun pins s σ H Q I q => h.run pins s σ H Q I (i _ _ _ q)⟩
theorem pw_imp {X : Cx} {e : Expr} {t t' : TT} (h : PW X e t) (i : ∀ σ H Q, t' σ H Q → t σ H Q) : PW X e t' := ⟨fun wh pins s σ H Q I q => h.run wh pins s σ H Q I (i _ _ _ q)⟩
end Z

namespace Z
open PySem PySem.Spec PyProof.Rows L2
section
variable {K : KC} {B : Bs} {W : WZ} {ms ms' : List Nat} {c c' c1 c2 : Cf} {σ : L2.St} {A : List Addr}
theorem evE_run {f : St → Rs PV} {P : PV → St → Prop} {Q : VK} (R : Rel K B c σ) (h : (f c.s).post P W) (k : ∀ x v c', Aft K B ms [] c σ c' → Vl K B c' σ x v → P x c'.s → Q v (c'.R B)) : evE K B W ms f σ (c.R B) Q :=
  ⟨c, rfl, R, Rs.post_imp h fun x s' p v c' a e vl => k x v c' a vl (by rw [e]; exact p)⟩
theorem evF_run {f : St → Rs PV} {P : PV → St → Prop} {Q : VK} (R : Rel K B c σ) (h : (f c.s).post P W) (k : ∀ x v A c', Aft K B ms A c σ c' → Own K (c'.F B.D) c'.G c'.H x v A → P x c'.s → Q v (c'.R B)) : evF K B W ms f σ (c.R B) Q :=
  ⟨c, rfl, R, Rs.post_imp h fun x s' p v A c' a e o => k x v A c' a o (by rw [e]; exact p)⟩
theorem evA_run {f : St → Rs (List PV)} {P : List PV → St → Prop} {Q : List V → Hp → Prop} (R : Rel K B c σ) (h : (f c.s).post P W) (k : ∀ xs vs c', Aft K B ms [] c σ c' → Vls K B c' σ xs vs → P xs c'.s → Q vs (c'.R B)) : evA K B W ms f σ (c.R B) Q :=
  ⟨c, rfl, R, Rs.post_imp h fun x s' p v c' a e vl => k x v c' a vl (by rw [e]; exact p)⟩
theorem evT_run {f : St → Rs Bool} {P : Bool → St → Prop} {Q : Bool → Hp → Prop} (R : Rel K B c σ) (h : (f c.s).post P W) (k : ∀ b c', Aft K B ms [] c σ c' → P b c'.s → Q b (c'.R B)) : evT K B W ms f σ (c.R B) Q :=
  ⟨c, rfl, R, Rs.post_imp h fun x s' p c' a e => k x c' a (by rw [e]; exact p)⟩
theorem Aft.grow {H' : Hp} (a : Aft K B ms A c σ c1) (le : Le c1.H H') : Aft K B ms A c σ { c1 with H := H' } := by
  have := a.trans (a.rel.grow (ms := []) le)
  simpa using this
theorem Aft.push {H' : Hp} (a : Aft K B ms [] c σ c1) (le : Le c1.H H') (fr : ∀ x ∈ A, c1.H x = none) (lA : ∀ x ∈ A, ∃ o, H' x = some o ∧ NoT o) : Aft K B ms A c σ { c1 with H := H', T := A ++ c1.T } := by
  have := a.trans (a.rel.push (ms := []) le fr lA)
  simpa using this
theorem upd_le {H : Hp} {p : Addr} {o : HO} (hp : H p = none) : Le H (upd H p o) := fun a u h => by
  rw [upd_ne (ne_of_none h hp)]; exact h
/-- a new list of values, held -/
theorem Aft.newL {p : Addr} {xs : List PV} {ws : List V} (a : Aft K B ms [] c σ c1) (hp : c1.H p = none) (r : Os K (c1.F B.D) c1.G c1.H xs ws) :
    ∃ c2, Aft K B ms [p] c σ c2 ∧ c2.s = c1.s ∧ c2.H = upd c1.H p (.lst ws) ∧ Own K (c2.F B.D) c2.G c2.H (.lst .own xs) (.ref p) [p] := by
  have a2 := a.push (A := [p]) (H' := upd c1.H p (.lst ws)) (upd_le hp) (fun x m => by cases List.mem_singleton.mp m; exact hp) (fun x m => by cases List.mem_singleton.mp m; exact ⟨_, upd_same, trivial⟩)
  have st : Step [p] c1 { c1 with H := upd c1.H p (.lst ws), T := [p] ++ c1.T } := (a.rel.push (ms := []) (A := [p]) (H' := upd c1.H p (.lst ws)) (upd_le hp) (fun x m => by cases List.mem_singleton.mp m; exact hp) (fun x m => by cases List.mem_singleton.mp m; exact ⟨_, upd_same, trivial⟩)).st
  refine ⟨_, a2, rfl, rfl, ?_⟩
  have := Own.cell (K := K) (t := .lst) (a := p) (A := [p]) (S := []) ⟨upd_same, rfl⟩ (r.le (H' := upd c1.H p (.lst ws)) st.F st.G).owns (fun b m z => by cases z)
  simpa using this
/-- a new tuple of values -/
theorem Aft.newT {p : Addr} {xs : List PV} {ws : List V} (a : Aft K B ms [] c σ c1) (hp : c1.H p = none) (r : Os K (c1.F B.D) c1.G c1.H xs ws) :
    Aft K B ms [] c σ { c1 with H := upd c1.H p (.tup ws) } ∧ Own K (Cf.F { c1 with H := upd c1.H p (.tup ws) } B.D) (Cf.G { c1 with H := upd c1.H p (.tup ws) }) (upd c1.H p (.tup ws)) (.tup xs) (.ref p) [] := by
  have a2 := a.grow (upd_le (o := .tup ws) hp)
  have st := (a.rel.grow (ms := []) (upd_le (o := .tup ws) hp)).st
  exact ⟨a2, .tup (a2.rel.leT p _ (fun z => z) upd_same) (r.le st.F st.G).owns⟩
end
section
variable {X : Cx} {B : Bs} {W : WZ} {ms ma mb mc : List Nat} {a b d e : Expr} {es : List Expr} {fa fb fc : St → Rs PV} {pos p : Pos}
/-! ### names, constants -/
def rdV (i : Nat) (x : PV) : PV := if x.nown then x else .loc i []
def eVar (i : Nat) (s : St) : Rs PV := match s[i]? with
  | some (some x) => .ok (rdV i x) s
  | _ => .bad
theorem ve_var (i : Nat) {x : Str} (hN : X.N[i]? = some x) (hv : Vis X.env.scope x) (hd : (x == ("__debug__" : Str)) = false := by decide) (hcd : (x == ("__classdict__" : Str)) = false := by decide) : VE X B W ms (.Name x pos) (eVar i) := by
  refine pe_imp (pe_var hN hv hd hcd) fun σ H Q ⟨c, e, R, h⟩ => ?_
  subst e
  unfold eVar at h
  split at h
  · rename_i y hy
    obtain ⟨v, h1, h2⟩ := R.own i y hy
    refine ⟨v, h1, h v c (.refl R) rfl ?_⟩
    unfold rdV
    by_cases n : y.nown = true
    · rw [if_pos n]
      have := h2.nown n
      rw [this] at h2
      exact .inr h2
    · rw [if_neg n]
      exact .inl ⟨i, rfl, h1⟩
  · exact h.elim
theorem vv (i : Nat) {x : Str} {pos : Pos} (hN : X.N[i]? = some x := by rfl) (hv : Vis X.env.scope x := by first | exact Or.inl rfl | exact Or.inr (Or.inl rfl) | exact Or.inr (Or.inr rfl)) (hd : (x == ("__debug__" : Str)) = false := by decide)
    (hcd : (x == ("__classdict__" : Str)) = false := by decide) : VE X B W [] (.Name x pos) (eVar i) := ve_var i hN hv hd hcd
def eC (x : PV) (s : St) : Rs PV := .ok x s
theorem ve_c {x : PV} {v : V} (h : PE X e (tC v)) (hx : ∀ F G H, Own (kc X B) F G H x v []) : VE X B W [] e (eC x) :=
  pe_imp h fun σ H Q ⟨c, e, R, h⟩ => by subst e; exact h v c (.refl R) rfl (.inr (hx _ _ _))
theorem ve_int {i : Int} {j : Nat} : VE X B W [] (.Constant (.int i) j pos) (eC (.int i)) := ve_c pe_int fun _ _ _ => .int i
theorem ve_bl {i : Bool} {j : Nat} : VE X B W [] (.Constant (.bool i) j pos) (eC (.bl i)) := ve_c pe_bl fun _ _ _ => .bl i
theorem ve_non {j : Nat} : VE X B W [] (.Constant .none j pos) (eC .non) := ve_c pe_non fun _ _ _ => .non
theorem ve_str {x : Str} {j : Nat} : VE X B W [] (.Constant (.str x) j pos) (eC (.str x)) := ve_c pe_str fun _ _ _ => .str x
theorem ve_gint {x : Str} {i : Int} {t : Tok} (hg : Gl X x) (hm : X.mg x = some (.int i t)) (hd : (x == ("__debug__" : Str)) = false := by decide) : VE X B W [] (.Name x pos) (eC (.int i)) :=
  ve_c (pe_glob (v := .int i) hg hm ⟨_, rfl⟩ hd) fun _ _ _ => .int i
theorem ve_gstr {x : Str} {i : Str} {t : Tok} (hg : Gl X x) (hm : X.mg x = some (.str i t)) (hd : (x == ("__debug__" : Str)) = false := by decide) : VE X B W [] (.Name x pos) (eC (.str i)) :=
  ve_c (pe_glob (v := .str i) hg hm ⟨_, rfl⟩ hd) fun _ _ _ => .str i
/-! ### from one judgement to another -/
/-- given up at once: borrowed -/
def PV.give (x : PV) : PV := if x.nb then x.fl .fz else x.er
def eB (f : St → Rs PV) (s : St) : Rs PV := (f s).bind fun x s1 => .ok x.give s1
theorem Aft.give {K : KC} {c c1 : Cf} {σ : L2.St} {A : List Addr} {x : PV} {v : V} (R : Rel K B c σ) (a : Aft K B ms A c σ c1) (o : Own K (c1.F B.D) c1.G c1.H x v A) : Own K (Cf.F { c1 with T := c.T } B.D) (Cf.G { c1 with T := c.T }) c1.H x.give v [] := by
  unfold PV.give
  by_cases n : x.nb = true
  · rw [if_pos n]; exact .fz (a.fzz R o n)
  · rw [if_neg n]; exact .bw (a.bor R o)
theorem VF.ve (h : VF X B W ms e fa) : VE X B W ms e (eB fa) := by
  refine pe_imp h fun σ H Q ⟨c, e, R, h⟩ => ?_
  subst e
  refine evF_run R (Rs.post_bind h) fun x v A c1 a1 o p1 => ?_
  exact p1 v { c1 with T := c.T } a1.drop rfl (.inr (a1.give R o))
/-- .. frozen: nothing borrowed within -/
def eZ (f : St → Rs PV) (s : St) : Rs PV := (f s).bind fun x s1 => if x.nb then .ok (x.fl .fz) s1 else .bad
theorem VF.vz (h : VF X B W ms e fa) : VE X B W ms e (eZ fa) := by
  refine pe_imp h fun σ H Q ⟨c, e, R, h⟩ => ?_
  subst e
  refine evF_run R (Rs.post_bind h) fun x v A c1 a1 o p1 => ?_
  by_cases n : x.nb = true
  · rw [if_pos n] at p1
    exact p1 v { c1 with T := c.T } a1.drop rfl (.inr (.fz (a1.fzz R o n)))
  · rw [if_neg n] at p1; exact p1.elim
/-- a value, as anybody's -/
def fV (f : St → Rs PV) (s : St) : Rs PV := (f s).bind fun x s1 => if x.nown then .ok x s1 else .bad
theorem VE.vf (h : VE X B W ms e fa) : VF X B W ms e (fV fa) := by
  refine pe_imp h fun σ H Q ⟨c, e, R, h⟩ => ?_
  subst e
  refine evE_run R (Rs.post_bind h) fun x v c1 a1 vl p1 => ?_
  by_cases n : x.nown = true
  · rw [if_pos n] at p1
    rcases vl with ⟨i, rfl, _⟩ | o
    · cases n
    · exact p1 v [] c1 a1 rfl o
  · rw [if_neg n] at p1; exact p1.elim
/-- a thing of one's own is handed on by its name -/
def fMove (i : Nat) (s : St) : Rs PV := match s[i]? with
  | some (some x) => .ok x (if x.nown then s else s.set i none)
  | _ => .bad
theorem vf_move (i : Nat) {x : Str} (hN : X.N[i]? = some x := by rfl) (hv : Vis X.env.scope x := by first | exact Or.inl rfl | exact Or.inr (Or.inl rfl) | exact Or.inr (Or.inr rfl)) (hd : (x == ("__debug__" : Str)) = false := by decide) (hcd : (x == ("__classdict__" : Str)) = false := by decide) : VF X B W [i] (.Name x pos) (fMove i) := by
  refine pe_imp (pe_var hN hv hd hcd) fun σ H Q ⟨c, e, R, h⟩ => ?_
  subst e
  unfold fMove at h
  split at h
  · rename_i y hy
    obtain ⟨v, h1, h2⟩ := R.own i y hy
    refine ⟨v, h1, ?_⟩
    by_cases n : y.nown = true
    · rw [if_pos n] at h
      have e := h2.nown n
      rw [e] at h2
      exact h v [] c (.refl R) rfl h2
    · rw [if_neg n] at h
      have hi : i < c.s.length := (List.getElem?_eq_some_iff.mp hy).1
      let c' : Cf := { c with s := c.s.set i none, As := fun j => if j = i then [] else c.As j, T := c.As i ++ c.T }
      have mine : ∀ x, c'.mine x → c.mine x ∧ x ∉ c.As i := fun x ⟨j, m⟩ => by
        by_cases z : j = i
        · simp only [c', if_pos z] at m; cases m
        · simp only [c', if_neg z] at m
          exact ⟨⟨j, m⟩, fun q => z (R.dis j i x m q)⟩
      have st : Step (c.As i) c c' := ⟨fun x o _ h => h, fun x h => h.elim (fun z => .inl ⟨i, z⟩) fun z => .inl (mine x z).1, rfl⟩
      have a : Aft (kc X B) B [i] (c.As i) c σ c' := by
        refine ⟨R.mk' st (fun x m z => (mine x z).2 m) (fun x m => R.cell ⟨i, m⟩) (by simp [c', R.len]) (fun j => ?_) (fun j k x m1 m2 => ?_) R.root, st, fun j nj => ?_⟩
        · by_cases z : j = i
          · subst z
            refine .inr (.inr ⟨fun x q => ?_, by simp [c']⟩)
            simp only [c', List.getElem?_set_self hi] at q; cases q
          · refine .inl ⟨⟨by simp only [c']; rw [List.getElem?_set_ne (Ne.symm z)], by simp [c', z], fun _ _ => rfl⟩, fun _ _ => rfl⟩
        · by_cases z : j = i
          · simp only [c', if_pos z] at m1; cases m1
          · by_cases z2 : k = i
            · simp only [c', if_pos z2] at m2; cases m2
            · simp only [c', if_neg z] at m1; simp only [c', if_neg z2] at m2
              exact R.dis j k x m1 m2
        · have z : j ≠ i := fun q => nj (by rw [q]; simp)
          exact ⟨by simp only [c']; rw [List.getElem?_set_ne (Ne.symm z)], by simp [c', z], fun _ _ => rfl⟩
      have lef : Le (c.F B.D) (c'.F B.D) := st.F
      exact h v (c.As i) c' a rfl (h2.le st.F st.G fun _ _ _ h => h)
  · exact h.elim
/-! ### arguments -/
def aNil (s : St) : Rs (List PV) := .ok [] s
def aCons (f : St → Rs PV) (g : St → Rs (List PV)) (s : St) : Rs (List PV) := (f s).bind fun x s1 => (g s1).bind fun xs s2 => .ok (x :: xs) s2
theorem va_nil : VA X B W [] [] aNil := pa_imp pa_nil fun σ H Q ⟨c, e, R, h⟩ => by subst e; exact h [] c (.refl R) rfl .nil
theorem va_cons {g : St → Rs (List PV)} (h : VE X B W ma e fa) (hs : VA X B W mb es g) (hst : starEach (e :: es) X.env = (false, eval e X.env) :: starEach es X.env := by rfl) : VA X B W (ma ++ mb) (e :: es) (aCons fa g) := by
  refine pa_imp (pa_cons h hs hst) fun σ H Q ⟨c, e, R, h⟩ => ?_
  subst e
  refine evE_run R (Rs.post_bind h) fun x v c1 a1 v1 p1 => ?_
  refine evA_run a1.rel (Rs.post_bind p1) fun xs vs c2 a2 v2 p2 => ?_
  exact p2 (v :: vs) c2 (a1.trans a2) rfl (.cons (v1.step a2.st) v2)
/-! ### two values in a row -/
abbrev G2 := St → PV → PV → Option PV
def e2 (g : G2) (fa fb : St → Rs PV) (s : St) : Rs PV := (fa s).bind fun x s1 => (fb s1).bind fun y s2 => ofO (g s2 x y) s2
def POp (X : Cx) (B : Bs) (r : R2) (g : G2) : Prop := ∀ (c : Cf) (σ : L2.St) (x y z : PV) (v w : V) (Q : VK), Rel (kc X B) B c σ → Vl (kc X B) B c σ x v → Vl (kc X B) B c σ y w → g c.s x y = some z →
  (∀ u H', Le c.H H' → Own (kc X B) (Cf.F { c with H := H' } B.D) (Cf.G { c with H := H' }) H' z u [] → Q u (lk B.L H')) → r v w (c.R B) Q
def FOp (X : Cx) (B : Bs) (r : R2) (g : G2) : Prop := ∀ (ms : List Nat) (c0 c : Cf) (σ : L2.St) (x y z : PV) (v w : V) (Q : VK), Aft (kc X B) B ms [] c0 σ c → Vl (kc X B) B c σ x v → Vl (kc X B) B c σ y w → g c.s x y = some z →
  (∀ u A c', Aft (kc X B) B ms A c0 σ c' → c'.s = c.s → Own (kc X B) (c'.F B.D) c'.G c'.H z u A → Q u (c'.R B)) → r v w (c.R B) Q
theorem bin2 {r : R2} {g : G2} (hp : POp X B r g) (h : PE X e (tOp r (evE (kc X B) B W ma fa) (evE (kc X B) B W mb fb))) : VE X B W (ma ++ mb) e (e2 g fa fb) := by
  refine pe_imp h fun σ H Q ⟨c, e, R, h⟩ => ?_
  subst e
  refine evE_run R (Rs.post_bind h) fun x v c1 a1 v1 p1 => ?_
  refine evE_run a1.rel (Rs.post_bind p1) fun y w c2 a2 v2 p2 => ?_
  obtain ⟨z, hz, p3⟩ := ofO_post p2
  refine hp c2 σ x y z v w Q a2.rel (v1.step a2.st) v2 hz fun u H' le o => ?_
  exact p3 u { c2 with H := H' } ((a1.trans a2).grow le) rfl (.inr o)
theorem bin2F {r : R2} {g : G2} (hp : FOp X B r g) (h : PE X e (tOp r (evE (kc X B) B W ma fa) (evE (kc X B) B W mb fb))) : VF X B W (ma ++ mb) e (e2 g fa fb) := by
  refine pe_imp h fun σ H Q ⟨c, e, R, h⟩ => ?_
  subst e
  refine evE_run R (Rs.post_bind h) fun x v c1 a1 v1 p1 => ?_
  refine evE_run a1.rel (Rs.post_bind p1) fun y w c2 a2 v2 p2 => ?_
  obtain ⟨z, hz, p3⟩ := ofO_post p2
  exact hp (ma ++ mb) c c2 σ x y z v w Q (a1.trans a2) (v1.step a2.st) v2 hz fun u A c' a es o => p3 u A c' a es o
theorem ve_op {op : Operator} {r : R2} {g : G2} (ho : OpR X (binaryOp op) r) (hp : POp X B r g) (ha : VE X B W ma a fa) (hb : VE X B W mb b fb) : VE X B W (ma ++ mb) (.BinOp a op b pos) (e2 g fa fb) := bin2 hp (pe_op ho ha hb)
theorem vf_op {op : Operator} {r : R2} {g : G2} (ho : OpR X (binaryOp op) r) (hp : FOp X B r g) (ha : VE X B W ma a fa) (hb : VE X B W mb b fb) : VF X B W (ma ++ mb) (.BinOp a op b pos) (e2 g fa fb) := bin2F hp (pe_op ho ha hb)
theorem ve_cmp {op : CmpOp} {r : R2} {g : G2} (ho : OpR X (compareOp op) r) (hp : POp X B r g) (ha : VE X B W ma a fa) (hb : VE X B W mb b fb) (hm : behindInMarks op b = false) : VE X B W (ma ++ mb) (.Compare a [op] [b] pos) (e2 g fa fb) := bin2 hp (pe_cmpR ho ha hb hm)
theorem ve_ix {r : R2} {g : G2} (ho : IxR X r) (hp : POp X B r g) (ha : VE X B W ma a fa) (hb : VE X B W mb b fb) (hs : PlainIx b) : VE X B W (ma ++ mb) (.Subscript a b pos) (e2 g fa fb) := bin2 hp (pe_ix ho ha hb hs)
/-- a comparison as a test -/
def tB (f : St → Rs PV) (s : St) : Rs Bool := (f s).bind fun x s1 => match x with
  | .bl b => .ok b s1
  | _ => .bad
theorem vt_cmp {op : CmpOp} {r : R2} {g : G2} (ho : OpR X (compareOp op) r) (hp : POp X B r g) (ha : VE X B W ma a fa) (hb : VE X B W mb b fb) (hm : behindInMarks op b = false) : VT X B W (ma ++ mb) (.Compare a [op] [b] pos) (tB (e2 g fa fb)) := by
  refine pt_imp (pt_cmpR ho ha hb hm) fun σ H Q ⟨c, e, R, h⟩ => ?_
  subst e
  show evE (kc X B) B W ma fa σ (c.R B) fun x H1 => evE (kc X B) B W mb fb σ H1 fun y H2 => r x y H2 fun u H' => ∃ k, u = .bl k ∧ Q k H'
  refine evE_run R (Rs.post_bind (Rs.post_bind h)) fun x v c1 a1 v1 p1 => ?_
  refine evE_run a1.rel (Rs.post_bind p1) fun y w c2 a2 v2 p2 => ?_
  obtain ⟨z, hz, p3⟩ := ofO_post p2
  refine hp c2 σ x y z v w _ a2.rel (v1.step a2.st) v2 hz fun u H' le o => ?_
  cases z with
  | bl b => exact ⟨b, o.blEq, p3 { c2 with H := H' } ((a1.trans a2).grow le) rfl⟩
  | _ => exact p3.elim
theorem vt_val (h : VE X B W ms e fa) (he : ∀ whole, isTrue e X.env whole = (do let v ← whole; standAt e.pos; holding [v] (truthy v)) := by intro _; rfl) : VT X B W ms e (tB fa) := by
  refine pt_imp (pt_val h he) fun σ H Q ⟨c, e, R, h⟩ => ?_
  subst e
  refine evE_run R (Rs.post_bind h) fun x v c1 a1 v1 p1 => ?_
  cases x with
  | bl b => exact ⟨b, v1.bl, p1 c1 a1 rfl⟩
  | _ => exact p1.elim
def tNotF (f : St → Rs Bool) (s : St) : Rs Bool := (f s).bind fun b s1 => .ok (!b) s1
def tAndF (f g : St → Rs Bool) (s : St) : Rs Bool := (f s).bind fun b s1 => if b then g s1 else .ok false s1
def tOrF (f g : St → Rs Bool) (s : St) : Rs Bool := (f s).bind fun b s1 => if b then .ok true s1 else g s1
variable {ta tb : St → Rs Bool}
theorem vt_not (h : VT X B W ms a ta) : VT X B W ms (.UnaryOp .Not a pos) (tNotF ta) :=
  pt_imp (pt_not h) fun σ H Q ⟨c, e, R, h⟩ => by
    subst e
    exact evT_run R (Rs.post_bind h) fun b c1 a1 p1 => p1 c1 a1 rfl
theorem VW.vt (h : VW X B W ms e ta) : VT X B W ms e ta := PW.pt h
theorem vw_and1 (h : VT X B W ms a ta) : VW X B W ms (.BoolOp .And [a] pos) ta := pw_and1 h
theorem vw_or1 (h : VT X B W ms a ta) : VW X B W ms (.BoolOp .Or [a] pos) ta := pw_or1 h
theorem vw_and {rest : List Expr} (h : VT X B W ma a ta) (g : VW X B W mb (.BoolOp .And (b :: rest) pos) tb) : VW X B W (ma ++ mb) (.BoolOp .And (a :: b :: rest) pos) (tAndF ta tb) := by
  refine pw_imp (pw_and h g) fun σ H Q ⟨c, e, R, h⟩ => ?_
  subst e
  refine evT_run R (Rs.post_bind h) fun b c1 a1 p1 => ?_
  cases b with
  | true => exact evT_run a1.rel p1 fun b c2 a2 p2 => p2 c2 (a1.trans a2) rfl
  | false => exact p1 c1 (a1.more fun i m => List.mem_append_left _ m) rfl
theorem vw_or {rest : List Expr} (h : VT X B W ma a ta) (g : VW X B W mb (.BoolOp .Or (b :: rest) pos) tb) : VW X B W (ma ++ mb) (.BoolOp .Or (a :: b :: rest) pos) (tOrF ta tb) := by
  refine pw_imp (pw_or h g) fun σ H Q ⟨c, e, R, h⟩ => ?_
  subst e
  refine evT_run R (Rs.post_bind h) fun b c1 a1 p1 => ?_
  cases b with
  | false => exact evT_run a1.rel p1 fun b c2 a2 p2 => p2 c2 (a1.trans a2) rfl
  | true => exact p1 c1 (a1.more fun i m => List.mem_append_left _ m) rfl
/-! and, or, not as values; x if t else y -/
def eNot (f : St → Rs PV) (s : St) : Rs PV := (f s).bind fun x s1 => match x with
  | .bl b => .ok (.bl (!b)) s1
  | _ => .bad
def eAnd (f g : St → Rs PV) (s : St) : Rs PV := (f s).bind fun x s1 => match x with
  | .bl b => if b then g s1 else .ok (.bl false) s1
  | _ => .bad
def eOr (f g : St → Rs PV) (s : St) : Rs PV := (f s).bind fun x s1 => match x with
  | .bl b => if b then .ok (.bl true) s1 else g s1
  | _ => .bad
theorem ve_not (h : VE X B W ms a fa) : VE X B W ms (.UnaryOp .Not a pos) (eNot fa) := by
  refine pe_imp (pe_not h) fun σ H Q ⟨c, e, R, h⟩ => ?_
  subst e
  refine evE_run R (Rs.post_bind h) fun x v c1 a1 v1 p1 => ?_
  cases x with
  | bl b => exact ⟨b, v1.bl, p1 _ c1 a1 rfl (.inr (.bl _))⟩
  | _ => exact p1.elim
theorem ve_one {op : BoolOp} (h : VE X B W ms a fa) : VE X B W ms (.BoolOp op [a] pos) fa := pe_one h
theorem ve_and {rest : List Expr} (h : VE X B W ma a fa) (g : VE X B W mb (.BoolOp .And (b :: rest) pos) fb) : VE X B W (ma ++ mb) (.BoolOp .And (a :: b :: rest) pos) (eAnd fa fb) := by
  refine pe_imp (pe_and h g) fun σ H Q ⟨c, e, R, h⟩ => ?_
  subst e
  refine evE_run R (Rs.post_bind h) fun x v c1 a1 v1 p1 => ?_
  cases x with
  | bl b =>
    refine ⟨b, v1.bl, ?_⟩
    cases b with
    | true => exact evE_run a1.rel p1 fun x v c2 a2 v2 p2 => p2 v c2 (a1.trans a2) rfl v2
    | false => exact p1 _ c1 (a1.more fun i m => List.mem_append_left _ m) rfl (.inr (.bl _))
  | _ => exact p1.elim
theorem ve_or {rest : List Expr} (h : VE X B W ma a fa) (g : VE X B W mb (.BoolOp .Or (b :: rest) pos) fb) : VE X B W (ma ++ mb) (.BoolOp .Or (a :: b :: rest) pos) (eOr fa fb) := by
  refine pe_imp (pe_or h g) fun σ H Q ⟨c, e, R, h⟩ => ?_
  subst e
  refine evE_run R (Rs.post_bind h) fun x v c1 a1 v1 p1 => ?_
  cases x with
  | bl b =>
    refine ⟨b, v1.bl, ?_⟩
    cases b with
    | false => exact evE_run a1.rel p1 fun x v c2 a2 v2 p2 => p2 v c2 (a1.trans a2) rfl v2
    | true => exact p1 _ c1 (a1.more fun i m => List.mem_append_left _ m) rfl (.inr (.bl _))
  | _ => exact p1.elim
def eIf (t : St → Rs Bool) (f g : St → Rs PV) (s : St) : Rs PV := (t s).bind fun b s1 => if b then f s1 else g s1
theorem ve_if {mt : List Nat} (ht : VT X B W mt d ta) (ha : VE X B W ma a fa) (hb : VE X B W mb b fb) : VE X B W (mt ++ (ma ++ mb)) (.IfExp d a b pos) (eIf ta fa fb) := by
  refine pe_imp (pe_ifExp ht ha hb) fun σ H Q ⟨c, e, R, h⟩ => ?_
  subst e
  refine evT_run R (Rs.post_bind h) fun b c1 a1 p1 => ?_
  cases b with
  | true => exact evE_run a1.rel p1 fun x v c2 a2 v2 p2 => p2 v c2 ((a1.trans a2).more fun i m => (List.mem_append.mp m).elim (fun m => List.mem_append_left _ m) fun m => List.mem_append_right _ (List.mem_append_left _ m)) rfl v2
  | false => exact evE_run a1.rel p1 fun x v c2 a2 v2 p2 => p2 v c2 ((a1.trans a2).more fun i m => (List.mem_append.mp m).elim (fun m => List.mem_append_left _ m) fun m => List.mem_append_right _ (List.mem_append_right _ m)) rfl v2
theorem vf_if {mt : List Nat} (ht : VT X B W mt d ta) (ha : VF X B W ma a fa) (hb : VF X B W mb b fb) : VF X B W (mt ++ (ma ++ mb)) (.IfExp d a b pos) (eIf ta fa fb) := by
  refine pe_imp (pe_ifExp ht ha hb) fun σ H Q ⟨c, e, R, h⟩ => ?_
  subst e
  refine evT_run R (Rs.post_bind h) fun b c1 a1 p1 => ?_
  have ap : ∀ {A c2 ms2}, Aft (kc X B) B ms2 A c1 σ c2 → (∀ i ∈ ms2, i ∈ ma ++ mb) → Aft (kc X B) B (mt ++ (ma ++ mb)) A c σ c2 := fun a2 hm => by
    have := (a1.trans a2).more (ms' := mt ++ (ma ++ mb)) fun i m => (List.mem_append.mp m).elim (fun m => List.mem_append_left _ m) fun m => List.mem_append_right _ (hm i m)
    simpa using this
  cases b with
  | true => exact evF_run a1.rel p1 fun x v A c2 a2 o p2 => p2 v A c2 (ap a2 fun i m => List.mem_append_left _ m) rfl o
  | false => exact evF_run a1.rel p1 fun x v A c2 a2 o p2 => p2 v A c2 (ap a2 fun i m => List.mem_append_right _ m) rfl o
end
end Z

namespace Z
open PySem PySem.Spec PyProof.Rows L2
/-! ### data -/
mutual
def PV.toD : PV → Option PyData
  | .non => some .none
  | .bl b => some (.bool b)
  | .int i => some (.int i)
  | .str x => some (.str x)
  | .cell _ .lst xs => (PV.toDs xs).map .list
  | .cl xs => (PV.toDs xs).map .list
  | .tup xs => (PV.toDs xs).map .tuple
  | _ => none
def PV.toDs : List PV → Option (List PyData)
  | [] => some []
  | x :: xs => match x.toD, PV.toDs xs with
    | some d, some ds => some (d :: ds)
    | _, _ => none
end
theorem Own.dp {K : KC} {F G H Hr : Hp} (lf : Le F H) (lg : Le G H) (hl : ∀ a ws, SqL K.k H a ws → SqL K.k Hr a ws) (ht : ∀ a ws, SqT K.k H a ws → SqT K.k Hr a ws) : ∀ (x : PV) (v : V) (d : PyData) (A : List Addr), Own K F G H x v A → x.toD = some d → Dp K.k Hr v d := by
  intro x
  refine PV.rec (motive_1 := fun x => ∀ (v : V) (d : PyData) (A : List Addr), Own K F G H x v A → x.toD = some d → Dp K.k Hr v d) (motive_2 := fun xs => ∀ (vs : List V) (ds : List PyData) (A : List Addr), Owns K F G H xs vs A → PV.toDs xs = some ds → DpAll K.k Hr vs ds) ?_ ?_ ?_ ?_ ?_ ?_ ?_ ?_ ?_ ?_ ?_ ?_ x
  · intro v d A h e; cases e; rw [h.nonEq]; exact .non
  · intro b v d A h e; cases e; rw [h.blEq]; exact .bl b
  · intro b v d A h e; cases e; rw [h.intEq]; exact .int b
  · intro b v d A h e; cases e; rw [h.strEq]; exact .str b
  · intro f t xs ih v d A h e
    cases t with
    | lst =>
      obtain ⟨a, ws, A0, S, rfl, h2, h3, _⟩ := h.view lf lg
      cases q : PV.toDs xs with
      | none => rw [PV.toD, q] at e; cases e
      | some ds => rw [PV.toD, q] at e; cases e; exact .lst (hl _ _ (.inl (.inl h2.1))) (ih _ ds _ h3 q)
    | _ => rw [PV.toD] at e <;> first | cases e | (intros; exact fun z => nomatch z)
  · intro xs ih v d A h e
    obtain ⟨a, ws, S, rfl, h2, h3, _⟩ := h.viewT lf lg
    cases q : PV.toDs xs with
    | none => rw [PV.toD, q] at e; cases e
    | some ds => rw [PV.toD, q] at e; cases e; exact .tup (ht _ _ h2) (ih _ ds _ h3 q)
  · intro xs ih v d A h e
    obtain ⟨a, ws, rfl, h2, h3⟩ := h.viewC lf lg
    cases q : PV.toDs xs with
    | none => rw [PV.toD, q] at e; cases e
    | some ds => rw [PV.toD, q] at e; cases e; exact .lst (hl _ _ h2) (ih _ ds _ h3.owns q)
  · intro c v d A h e; cases e
  · intro c v d A h e; cases e
  · intro c p v d A h e; cases e
  · intro vs ds A h e; cases h; cases e; exact .nil
  · intro x xs h1 h2 vs ds A h e
    cases h with
    | cons a b _ =>
      cases q1 : x.toD with
      | none => rw [PV.toDs, q1] at e; cases e
      | some d =>
        cases q2 : PV.toDs xs with
        | none => rw [PV.toDs, q1, q2] at e; cases e
        | some ds => rw [PV.toDs, q1, q2] at e; cases e; exact .cons (h1 _ d _ a q1) (h2 _ ds _ b q2)
theorem Rel.dp {K : KC} {B : Bs} {c : Cf} {σ : L2.St} {x : PV} {v : V} {d : PyData} (R : Rel K B c σ) (h : Vl K B c σ x v) (e : (Z.look c.s x).toD = some d) : Dp K.k (c.R B) v d := by
  obtain ⟨A, o⟩ := R.look h rfl (fun i p z => by rw [z] at e; cases e)
  exact o.dp F_le G_le (fun _ _ => R.lkSqL) (fun _ _ => R.lkSqT) _ _ d _ e
section
variable {X : Cx} {B : Bs} {W : WZ} {ms ma mb mc : List Nat} {a b d e : Expr} {es : List Expr} {fa fb fc : St → Rs PV} {pos p p2 : Pos}
/-! ### numbers -/
def gI0 (f : Int → Int → PV) : G2 := fun _ x y => match x, y with
  | .int i, .int j => some (f i j)
  | _, _ => none
def gI (C : Int → Int → Bool) (f : Int → Int → PV) : G2 := fun _ x y => match x, y with
  | .int i, .int j => if C i j then some (f i j) else none
  | _, _ => none
theorem pop_I0 {f : Int → Int → PV} {f' : Int → Int → V} (hf : ∀ i j F G H, Own (kc X B) F G H (f i j) (f' i j) []) : POp X B (rI0 f') (gI0 f) := by
  intro c σ x y z v w Q R hx hy g k
  unfold gI0 at g
  split at g
  · cases g
    exact ⟨_, _, hx.int, hy.int, k _ c.H (Le.refl _) (hf _ _ _ _ _)⟩
  · cases g
theorem pop_I {C : Int → Int → Bool} {C' : Int → Int → Prop} (hC : ∀ i j, C i j = true → C' i j) {f : Int → Int → PV} {f' : Int → Int → V} (hf : ∀ i j F G H, Own (kc X B) F G H (f i j) (f' i j) []) : POp X B (rI C' f') (gI C f) := by
  intro c σ x y z v w Q R hx hy g k
  unfold gI at g
  split at g
  · rename_i i j
    by_cases n : C i j = true
    · rw [if_pos n] at g; cases g
      exact ⟨_, _, hx.int, hy.int, hC _ _ n, k _ c.H (Le.refl _) (hf _ _ _ _ _)⟩
    · rw [if_neg n] at g; cases g
  · cases g
def okMul (i j : Int) : Bool := decide (-(2 ^ 64) < i ∧ i < 2 ^ 64) || decide (-(2 ^ 64) < j ∧ j < 2 ^ 64) || decide (i.natAbs.log2 + j.natAbs.log2 < 1000000)
def okDiv (_ j : Int) : Bool := decide (0 < j) && decide (j.natAbs.log2 < 9000)
def okMod (_ j : Int) : Bool := decide (0 < j)
def okPow (i j : Int) : Bool := decide (0 ≤ j ∧ j ≤ 1000000 ∧ i.natAbs < 2 ^ 64)
def rMulZ : R2 := fun x y H Q => rI CMul (fun i j => V.int (i * j)) x y H Q ∨ rI CMulW (fun i j => V.int (i * j)) x y H Q
theorem op_mulZ : OpR X (binaryOp .Mult) rMulZ := OpR.or op_mul op_mulW
theorem pop_mul : POp X B rMulZ (gI okMul fun i j => .int (i * j)) := by
  intro c σ x y z v w Q R hx hy g k
  unfold gI at g
  split at g
  · rename_i i j
    by_cases n : okMul i j = true
    · rw [if_pos n] at g; cases g
      have q := k _ c.H (Le.refl _) (.int (i * j))
      simp only [okMul, Bool.or_eq_true, decide_eq_true_eq] at n
      rcases n with (n | n) | n
      · exact .inl ⟨_, _, hx.int, hy.int, .inl n, q⟩
      · exact .inl ⟨_, _, hx.int, hy.int, .inr n, q⟩
      · exact .inr ⟨_, _, hx.int, hy.int, n, q⟩
    · rw [if_neg n] at g; cases g
  · cases g
theorem ve_sub (ha : VE X B W ma a fa) (hb : VE X B W mb b fb) : VE X B W (ma ++ mb) (.BinOp a .Sub b pos) (e2 (gI0 fun i j => .int (i - j)) fa fb) := ve_op op_sub (pop_I0 fun _ _ _ _ _ => .int _) ha hb
theorem ve_mul (ha : VE X B W ma a fa) (hb : VE X B W mb b fb) : VE X B W (ma ++ mb) (.BinOp a .Mult b pos) (e2 (gI okMul fun i j => .int (i * j)) fa fb) := ve_op op_mulZ pop_mul ha hb
theorem ve_mod (ha : VE X B W ma a fa) (hb : VE X B W mb b fb) : VE X B W (ma ++ mb) (.BinOp a .Mod b pos) (e2 (gI okMod fun i j => .int (i % j)) fa fb) := ve_op op_mod (pop_I (fun i j h => by simpa [okMod] using h) fun _ _ _ _ _ => .int _) ha hb
theorem ve_fdiv (ha : VE X B W ma a fa) (hb : VE X B W mb b fb) : VE X B W (ma ++ mb) (.BinOp a .FloorDiv b pos) (e2 (gI okDiv fun i j => .int (i / j)) fa fb) := ve_op op_fdivW (pop_I (fun i j h => by simpa [okDiv, CDivW] using h) fun _ _ _ _ _ => .int _) ha hb
theorem ve_pow (ha : VE X B W ma a fa) (hb : VE X B W mb b fb) : VE X B W (ma ++ mb) (.BinOp a .Pow b pos) (e2 (gI okPow fun i j => .int (i ^ j.toNat)) fa fb) := ve_op op_pow (pop_I (fun i j h => by simpa [okPow, CPow] using h) fun _ _ _ _ _ => .int _) ha hb
theorem ve_shl (ha : VE X B W ma a fa) (hb : VE X B W mb b fb) : VE X B W (ma ++ mb) (.BinOp a .LShift b pos) (e2 (gI okPow fun i j => .int (i * 2 ^ j.toNat)) fa fb) := ve_op op_shl (pop_I (fun i j h => by simpa [okPow, CPow] using h) fun _ _ _ _ _ => .int _) ha hb
abbrev gLt : G2 := gI0 fun i j => .bl (decide (i < j))
abbrev gLe : G2 := gI0 fun i j => .bl (decide (i ≤ j))
abbrev gGt : G2 := gI0 fun i j => .bl (decide (j < i))
abbrev gGe : G2 := gI0 fun i j => .bl (decide (j ≤ i))
theorem ve_lt (ha : VE X B W ma a fa) (hb : VE X B W mb b fb) : VE X B W (ma ++ mb) (.Compare a [.Lt] [b] pos) (e2 gLt fa fb) := ve_cmp op_lt (pop_I0 fun _ _ _ _ _ => .bl _) ha hb (nomark _)
theorem ve_le (ha : VE X B W ma a fa) (hb : VE X B W mb b fb) : VE X B W (ma ++ mb) (.Compare a [.LtE] [b] pos) (e2 gLe fa fb) := ve_cmp op_le (pop_I0 fun _ _ _ _ _ => .bl _) ha hb (nomark _)
theorem ve_gt (ha : VE X B W ma a fa) (hb : VE X B W mb b fb) : VE X B W (ma ++ mb) (.Compare a [.Gt] [b] pos) (e2 gGt fa fb) := ve_cmp op_gt (pop_I0 fun _ _ _ _ _ => .bl _) ha hb (nomark _)
theorem ve_ge (ha : VE X B W ma a fa) (hb : VE X B W mb b fb) : VE X B W (ma ++ mb) (.Compare a [.GtE] [b] pos) (e2 gGe fa fb) := ve_cmp op_ge (pop_I0 fun _ _ _ _ _ => .bl _) ha hb (nomark _)
theorem vt_lt (ha : VE X B W ma a fa) (hb : VE X B W mb b fb) : VT X B W (ma ++ mb) (.Compare a [.Lt] [b] pos) (tB (e2 gLt fa fb)) := vt_cmp op_lt (pop_I0 fun _ _ _ _ _ => .bl _) ha hb (nomark _)
theorem vt_le (ha : VE X B W ma a fa) (hb : VE X B W mb b fb) : VT X B W (ma ++ mb) (.Compare a [.LtE] [b] pos) (tB (e2 gLe fa fb)) := vt_cmp op_le (pop_I0 fun _ _ _ _ _ => .bl _) ha hb (nomark _)
theorem vt_gt (ha : VE X B W ma a fa) (hb : VE X B W mb b fb) : VT X B W (ma ++ mb) (.Compare a [.Gt] [b] pos) (tB (e2 gGt fa fb)) := vt_cmp op_gt (pop_I0 fun _ _ _ _ _ => .bl _) ha hb (nomark _)
theorem vt_ge (ha : VE X B W ma a fa) (hb : VE X B W mb b fb) : VT X B W (ma ++ mb) (.Compare a [.GtE] [b] pos) (tB (e2 gGe fa fb)) := vt_cmp op_ge (pop_I0 fun _ _ _ _ _ => .bl _) ha hb (nomark _)
def eNeg (f : St → Rs PV) (s : St) : Rs PV := (f s).bind fun x s1 => match x with
  | .int i => .ok (.int (-i)) s1
  | _ => .bad
theorem ve_neg (ha : VE X B W ma a fa) : VE X B W ma (.UnaryOp .USub a pos) (eNeg fa) := by
  refine pe_imp (pe_un un_neg ha) fun σ H Q ⟨c, e, R, h⟩ => ?_
  subst e
  refine evE_run R (Rs.post_bind h) fun x v c1 a1 v1 p1 => ?_
  cases x with
  | int i => exact ⟨i, v1.int, p1 _ c1 a1 rfl (.inr (.int _))⟩
  | _ => exact p1.elim
/-! ### ==, !=, is None, in -/
def gEq (f : Bool → Bool) : G2 := fun s x y => match (look s x).toD, (look s y).toD with
  | some d, some e => if SeqAt.shaped d && SeqAt.shaped e then some (.bl (f (PyData.eqv d e))) else none
  | _, _ => none
theorem gEq_ok {f : Bool → Bool} {s : St} {x y z : PV} (h : gEq f s x y = some z) : ∃ d e, (look s x).toD = some d ∧ (look s y).toD = some e ∧ SeqAt.shaped d = true ∧ SeqAt.shaped e = true ∧ z = .bl (f (PyData.eqv d e)) := by
  unfold gEq at h
  split at h
  · rename_i d e h1 h2
    by_cases n : (SeqAt.shaped d && SeqAt.shaped e) = true
    · rw [if_pos n] at h; cases h
      have n := Bool.and_eq_true_iff.mp n
      exact ⟨d, e, h1, h2, n.1, n.2, rfl⟩
    · rw [if_neg n] at h; cases h
  · cases h
theorem pop_eq : POp X B (rEqD X.K) (gEq id) := by
  intro c σ x y z v w Q R hx hy g k
  obtain ⟨d, e, h1, h2, h3, h4, rfl⟩ := gEq_ok g
  exact ⟨d, e, R.dp hx h1, R.dp hy h2, h3, h4, k _ c.H (Le.refl _) (.bl _)⟩
theorem pop_ne : POp X B (rNeD X.K) (gEq not) := by
  intro c σ x y z v w Q R hx hy g k
  obtain ⟨d, e, h1, h2, h3, h4, rfl⟩ := gEq_ok g
  exact ⟨d, e, R.dp hx h1, R.dp hy h2, h3, h4, k _ c.H (Le.refl _) (.bl _)⟩
theorem ve_eq {k : Nat} (hr : Room k X.A) (ha : VE X B W ma a fa) (hb : VE X B W mb b fb) : VE X B W (ma ++ mb) (.Compare a [.Eq] [b] pos) (e2 (gEq id) fa fb) := ve_cmp (op_eqD hr.units) pop_eq ha hb (nomark _)
theorem ve_ne {k : Nat} (hr : Room k X.A) (ha : VE X B W ma a fa) (hb : VE X B W mb b fb) : VE X B W (ma ++ mb) (.Compare a [.NotEq] [b] pos) (e2 (gEq not) fa fb) := ve_cmp (op_neD hr.units) pop_ne ha hb (nomark _)
theorem vt_eq {k : Nat} (hr : Room k X.A) (ha : VE X B W ma a fa) (hb : VE X B W mb b fb) : VT X B W (ma ++ mb) (.Compare a [.Eq] [b] pos) (tB (e2 (gEq id) fa fb)) := vt_cmp (op_eqD hr.units) pop_eq ha hb (nomark _)
theorem vt_ne {k : Nat} (hr : Room k X.A) (ha : VE X B W ma a fa) (hb : VE X B W mb b fb) : VT X B W (ma ++ mb) (.Compare a [.NotEq] [b] pos) (tB (e2 (gEq not) fa fb)) := vt_cmp (op_neD hr.units) pop_ne ha hb (nomark _)
def isNon : PV → Option Bool
  | .non => some true
  | .obj _ => none
  | .loc _ _ => none
  | _ => some false
def gIsN (f : Bool → Bool) : G2 := fun s x y => match y with
  | .non => (isNon (look s x)).map fun b => .bl (f b)
  | _ => none
theorem isN_ok {c : Cf} {σ : L2.St} {x : PV} {v : V} {b : Bool} (R : Rel (kc X B) B c σ) (h : Vl (kc X B) B c σ x v) (e : isNon (look c.s x) = some b) : decide (v = .non) = b := by
  have key : ∀ (y : PV) (A : List Addr), Own (kc X B) (c.F B.D) c.G c.H y v A → isNon y = some b → decide (v = .non) = b := fun y A o e => by
    cases y with
    | non => cases e; rw [o.nonEq]; rfl
    | bl i => cases e; rw [o.blEq]; rfl
    | int i => cases e; rw [o.intEq]; rfl
    | str i => cases e; rw [o.strEq]; rfl
    | cell f t xs =>
      cases e
      obtain ⟨a, ws, A0, S, rfl, _⟩ := o.view F_le G_le
      rfl
    | tup xs =>
      cases e
      obtain ⟨a, ws, S, rfl, _⟩ := o.viewT F_le G_le
      rfl
    | cl xs =>
      cases e
      obtain ⟨a, ws, rfl, _⟩ := o.viewC F_le G_le
      rfl
    | exc k =>
      cases e
      cases o with
      | fz h => cases h; rfl
      | bw h => cases h; rfl
    | obj u => cases e
    | loc i p => exact (not_loc o).elim
  obtain ⟨A, o⟩ := R.look h rfl (fun i p z => by rw [z] at e; cases e)
  exact key _ _ o e
theorem gIsN_ok {f : Bool → Bool} {s : St} {x y z : PV} (h : gIsN f s x y = some z) : y = .non ∧ ∃ b, isNon (look s x) = some b ∧ z = .bl (f b) := by
  unfold gIsN at h
  split at h
  · cases e : isNon (look s x) with
    | none => rw [e] at h; cases h
    | some b => rw [e] at h; cases h; exact ⟨rfl, b, rfl, rfl⟩
  · cases h
theorem pop_isN : POp X B (fun x y H Q => y = .non ∧ Q (.bl (decide (x = .non))) H) (gIsN id) := by
  intro c σ x y z v w Q R hx hy g k
  obtain ⟨rfl, b, e, rfl⟩ := gIsN_ok g
  refine ⟨hy.non, ?_⟩
  rw [isN_ok R hx e]
  exact k _ c.H (Le.refl _) (.bl _)
theorem pop_notN : POp X B (fun x y H Q => y = .non ∧ Q (.bl (!decide (x = .non))) H) (gIsN not) := by
  intro c σ x y z v w Q R hx hy g k
  obtain ⟨rfl, b, e, rfl⟩ := gIsN_ok g
  refine ⟨hy.non, ?_⟩
  rw [isN_ok R hx e]
  exact k _ c.H (Le.refl _) (.bl _)
theorem ve_isN (ha : VE X B W ma a fa) (hb : VE X B W mb b fb) : VE X B W (ma ++ mb) (.Compare a [.Is] [b] pos) (e2 (gIsN id) fa fb) := ve_cmp op_isN pop_isN ha hb (nomark _)
theorem ve_notN (ha : VE X B W ma a fa) (hb : VE X B W mb b fb) : VE X B W (ma ++ mb) (.Compare a [.IsNot] [b] pos) (e2 (gIsN not) fa fb) := ve_cmp op_notN pop_notN ha hb (nomark _)
theorem vt_isN (ha : VE X B W ma a fa) (hb : VE X B W mb b fb) : VT X B W (ma ++ mb) (.Compare a [.Is] [b] pos) (tB (e2 (gIsN id) fa fb)) := vt_cmp op_isN pop_isN ha hb (nomark _)
theorem vt_notN (ha : VE X B W ma a fa) (hb : VE X B W mb b fb) : VT X B W (ma ++ mb) (.Compare a [.IsNot] [b] pos) (tB (e2 (gIsN not) fa fb)) := vt_cmp op_notN pop_notN ha hb (nomark _)
/-! in a list -/
def gIn (f : Bool → Bool) : G2 := fun s x y => match (look s x).toD, (look s y).toD with
  | some d, some (.list ds) => if SeqAt.shaped d && SeqAt.shaped (.list ds) then some (.bl (f (ds.any fun z => PyData.eqv z d))) else none
  | _, _ => none
theorem gIn_ok {f : Bool → Bool} {s : St} {x y z : PV} (h : gIn f s x y = some z) : ∃ d ds, (look s x).toD = some d ∧ (look s y).toD = some (.list ds) ∧ SeqAt.shaped d = true ∧ SeqAt.shaped (.list ds) = true ∧ z = .bl (f (ds.any fun z => PyData.eqv z d)) := by
  unfold gIn at h
  split at h
  · rename_i d ds h1 h2
    by_cases n : (SeqAt.shaped d && SeqAt.shaped (.list ds)) = true
    · rw [if_pos n] at h; cases h
      have n := Bool.and_eq_true_iff.mp n
      exact ⟨d, ds, h1, h2, n.1, n.2, rfl⟩
    · rw [if_neg n] at h; cases h
  · cases h
theorem pop_in : POp X B (rInD X.K) (gIn id) := by
  intro c σ x y z v w Q R hx hy g k
  obtain ⟨d, e, h1, h2, h3, h4, rfl⟩ := gIn_ok g
  exact ⟨d, e, R.dp hx h1, R.dp hy h2, h3, h4, k _ c.H (Le.refl _) (.bl _)⟩
theorem pop_notin : POp X B (rNotInD X.K) (gIn not) := by
  intro c σ x y z v w Q R hx hy g k
  obtain ⟨d, e, h1, h2, h3, h4, rfl⟩ := gIn_ok g
  exact ⟨d, e, R.dp hx h1, R.dp hy h2, h3, h4, k _ c.H (Le.refl _) (.bl _)⟩
theorem hu65 {k : Nat} {A : Around} (hr : Room k A) : A.units + 65 < cLine := by have := hr.un; omega
theorem ve_in {k : Nat} (hr : Room k X.A) (ha : VE X B W ma a fa) (hb : VE X B W mb b fb) (hm : behindInMarks .In b = false := by rfl) : VE X B W (ma ++ mb) (.Compare a [.In] [b] pos) (e2 (gIn id) fa fb) := ve_cmp (op_inD (hu65 hr)) pop_in ha hb hm
theorem ve_notin {k : Nat} (hr : Room k X.A) (ha : VE X B W ma a fa) (hb : VE X B W mb b fb) (hm : behindInMarks .NotIn b = false := by rfl) : VE X B W (ma ++ mb) (.Compare a [.NotIn] [b] pos) (e2 (gIn not) fa fb) := ve_cmp (op_notInD (hu65 hr)) pop_notin ha hb hm
theorem vt_in {k : Nat} (hr : Room k X.A) (ha : VE X B W ma a fa) (hb : VE X B W mb b fb) (hm : behindInMarks .In b = false := by rfl) : VT X B W (ma ++ mb) (.Compare a [.In] [b] pos) (tB (e2 (gIn id) fa fb)) := vt_cmp (op_inD (hu65 hr)) pop_in ha hb hm
theorem vt_notin {k : Nat} (hr : Room k X.A) (ha : VE X B W ma a fa) (hb : VE X B W mb b fb) (hm : behindInMarks .NotIn b = false := by rfl) : VT X B W (ma ++ mb) (.Compare a [.NotIn] [b] pos) (tB (e2 (gIn not) fa fb)) := vt_cmp (op_notInD (hu65 hr)) pop_notin ha hb hm
/-! in a tuple of texts or numbers, written out -/
def PV.toV : PV → Option V
  | .non => some .non
  | .bl b => some (.bl b)
  | .int i => some (.int i)
  | .str x => some (.str x)
  | _ => none
def PV.toVs : List PV → Option (List V)
  | [] => some []
  | x :: xs => match x.toV, PV.toVs xs with
    | some v, some vs => some (v :: vs)
    | _, _ => none
theorem Own.toV {K : KC} {F G H : Hp} {x : PV} {v u : V} {A : List Addr} (o : Own K F G H x v A) (e : x.toV = some u) : v = u := by
  cases x with
  | non => cases e; exact o.nonEq
  | bl b => cases e; exact o.blEq
  | int i => cases e; exact o.intEq
  | str s => cases e; exact o.strEq
  | _ => cases e
theorem Owns.toVs {K : KC} {F G H : Hp} : ∀ {xs : List PV} {ws us : List V} {A : List Addr}, Owns K F G H xs ws A → PV.toVs xs = some us → ws = us
  | [], _, _, _, h, e => by cases h; cases e; rfl
  | x :: xs, _, _, _, h, e => by
    cases h with
    | cons a b _ =>
      cases q1 : x.toV with
      | none => rw [PV.toVs, q1] at e; cases e
      | some d =>
        cases q2 : PV.toVs xs with
        | none => rw [PV.toVs, q1, q2] at e; cases e
        | some ds => rw [PV.toVs, q1, q2] at e; cases e; rw [a.toV q1, Owns.toVs b q2]
def gInT (f : Bool → Bool) : G2 := fun s x y => match x.toV, look s y with
  | some v, .tup xs => match PV.toVs xs with
    | some ws => if flatV v && ws.all flatV then some (.bl (f (inV v ws))) else none
    | none => none
  | _, _ => none
theorem pop_inT (neg : Bool) : POp X B (rIn X.K neg) (gInT (if neg then not else id)) := by
  intro c σ x y z v w Q R hx hy g k
  unfold gInT at g
  split at g
  · rename_i u xs e1 e2
    split at g
    · rename_i ws e3
      by_cases n : (flatV u && ws.all flatV) = true
      · rw [if_pos n] at g; cases g
        obtain ⟨A, o⟩ := R.look hy e2 (fun _ _ z => nomatch z)
        obtain ⟨a, us, S, rfl, h2, h3, _⟩ := o.viewT F_le G_le
        have eu := h3.toVs e3
        subst eu
        have ev : v = u := by
          rcases hx with ⟨i, rfl, _⟩ | o
          · cases e1
          · exact o.toV e1
        subst ev
        have n := Bool.and_eq_true_iff.mp n
        refine ⟨a, us, rfl, .inr (R.lkSqT h2), n.1, n.2, ?_⟩
        have := k (.bl ((if neg then not else id) (inV v us))) c.H (Le.refl _) (.bl _)
        cases neg <;> exact this
      · rw [if_neg n] at g; cases g
    · cases g
  · cases g
theorem ve_inT (ha : VE X B W ma a fa) (hb : VE X B W mb b fb) (hm : behindInMarks .In b = false := by rfl) : VE X B W (ma ++ mb) (.Compare a [.In] [b] pos) (e2 (gInT id) fa fb) := ve_cmp op_in_seq (pop_inT false) ha hb hm
theorem ve_notinT (ha : VE X B W ma a fa) (hb : VE X B W mb b fb) (hm : behindInMarks .NotIn b = false := by rfl) : VE X B W (ma ++ mb) (.Compare a [.NotIn] [b] pos) (e2 (gInT not) fa fb) := ve_cmp op_notIn_seq (pop_inT true) ha hb hm
theorem vt_inT (ha : VE X B W ma a fa) (hb : VE X B W mb b fb) (hm : behindInMarks .In b = false := by rfl) : VT X B W (ma ++ mb) (.Compare a [.In] [b] pos) (tB (e2 (gInT id) fa fb)) := vt_cmp op_in_seq (pop_inT false) ha hb hm
theorem vt_notinT (ha : VE X B W ma a fa) (hb : VE X B W mb b fb) (hm : behindInMarks .NotIn b = false := by rfl) : VT X B W (ma ++ mb) (.Compare a [.NotIn] [b] pos) (tB (e2 (gInT not) fa fb)) := vt_cmp op_notIn_seq (pop_inT true) ha hb hm
/-! ### items -/
def gIx : G2 := fun s x y => match look s x, y with
  | .cell _ .lst xs, .int i => if PV.nowns xs then atI xs i else none
  | .cl xs, .int i => atI xs i
  | .tup xs, .int i => if PV.nowns xs then atI xs i else none
  | _, _ => none
theorem Os.at {K : KC} {F G H : Hp} {xs : List PV} {ws : List V} {i : Int} {z : PV} (r : Os K F G H xs ws) (h : atI xs i = some z) : ∃ u, atI ws i = some u ∧ Own K F G H z u [] := by
  unfold atI at h ⊢
  rw [r.length] at h
  cases q : ixN ws.length i with
  | none => rw [q] at h; cases h
  | some j =>
    rw [q] at h
    obtain ⟨u, h1, h2⟩ := r.get h
    exact ⟨u, h1, h2⟩
theorem pop_ix : POp X B (rIx X.K) gIx := by
  intro c σ x y z v w Q R hx hy g k
  unfold gIx at g
  split at g
  · rename_i f xs i e
    by_cases n : PV.nowns xs = true
    · rw [if_pos n] at g
      obtain ⟨a, ws, rfl, h1, r⟩ := R.lstOf hx e n
      obtain ⟨u, h2, o⟩ := r.at g
      exact .inl ⟨a, ws, i, u, rfl, hy.int, R.lkSqL (.inl (.inl h1)), h2, k u c.H (Le.refl _) o⟩
    · rw [if_neg n] at g; cases g
  · rename_i xs i e
    obtain ⟨a, ws, rfl, h1, r⟩ := R.clOf hx e
    obtain ⟨u, h2, o⟩ := r.at g
    exact .inl ⟨a, ws, i, u, rfl, hy.int, R.lkSqL h1, h2, k u c.H (Le.refl _) o⟩
  · rename_i xs i e
    by_cases n : PV.nowns xs = true
    · rw [if_pos n] at g
      obtain ⟨a, ws, rfl, h1, r⟩ := R.tupOf hx e n
      obtain ⟨u, h2, o⟩ := r.at g
      exact .inr (.inl ⟨a, ws, i, u, rfl, hy.int, R.lkSqT h1, h2, k u c.H (Le.refl _) o⟩)
    · rw [if_neg n] at g; cases g
  · cases g
theorem ve_item (ha : VE X B W ma a fa) (hb : VE X B W mb b fb) (hs : PlainIx b := by exact fun _ _ => rfl) : VE X B W (ma ++ mb) (.Subscript a b pos) (e2 gIx fa fb) := ve_ix ix_seq pop_ix ha hb hs
/-! ### + -/
def gAdd : G2 := fun s x y => match look s x, look s y with
  | .int i, .int j => some (.int (i + j))
  | .str i, .str j => if i.length + j.length ≤ sizeLine then some (.str (i ++ j)) else none
  | .cell _ .lst xs, .cell _ .lst ys => if PV.nowns xs && PV.nowns ys && decide (xs.length + ys.length ≤ sizeLine) then some (.cell .own .lst (xs ++ ys)) else none
  | _, _ => none
def rAddAll : R2 := fun x y H Q => (rI0 (fun i j => V.int (i + j)) x y H Q) ∨ (∃ i j, x = .str i ∧ y = .str j ∧ i.length + j.length ≤ sizeLine ∧ Q (.str (i ++ j)) H) ∨ rCat x y H Q
theorem op_addAll : OpR X (binaryOp .Add) rAddAll := OpR.or op_add (OpR.or op_add_str op_cat)
theorem lookInt {c : Cf} {σ : L2.St} {x : PV} {v : V} {i : Int} (R : Rel (kc X B) B c σ) (h : Vl (kc X B) B c σ x v) (e : look c.s x = .int i) : v = .int i := by
  obtain ⟨A, o⟩ := R.look h e (fun _ _ z => nomatch z)
  exact o.intEq
theorem lookStr {c : Cf} {σ : L2.St} {x : PV} {v : V} {i : Str} (R : Rel (kc X B) B c σ) (h : Vl (kc X B) B c σ x v) (e : look c.s x = .str i) : v = .str i := by
  obtain ⟨A, o⟩ := R.look h e (fun _ _ z => nomatch z)
  exact o.strEq
theorem fop_add : FOp X B rAddAll gAdd := by
  intro ms c0 c σ x y z v w Q a hx hy g k
  have R := a.rel
  unfold gAdd at g
  split at g
  · rename_i i j e1 e2
    cases g
    exact .inl ⟨i, j, lookInt R hx e1, lookInt R hy e2, k _ [] c a rfl (.int _)⟩
  · rename_i i j e1 e2
    by_cases n : i.length + j.length ≤ sizeLine
    · rw [if_pos n] at g; cases g
      exact .inr (.inl ⟨i, j, lookStr R hx e1, lookStr R hy e2, n, k _ [] c a rfl (.str _)⟩)
    · rw [if_neg n] at g; cases g
  · rename_i f xs f' ys e1 e2
    by_cases n : (PV.nowns xs && PV.nowns ys && decide (xs.length + ys.length ≤ sizeLine)) = true
    · rw [if_pos n] at g; cases g
      simp only [Bool.and_eq_true, decide_eq_true_eq] at n
      obtain ⟨p, ws, rfl, h1, r1⟩ := R.lstOf hx e1 n.1.1
      obtain ⟨q, us, rfl, h2, r2⟩ := R.lstOf hy e2 n.1.2
      refine .inr (.inr ⟨p, q, ws, us, rfl, rfl, R.lkGet h1 (fun z => z), R.lkGet h2 (fun z => z), by rw [← r1.length, ← r2.length]; exact n.2, fun t ht => ?_⟩)
      obtain ⟨ht, hl⟩ := R.lkNew ht
      obtain ⟨c2, a2, e3, e4, o⟩ := a.newL ht (r1.append r2)
      have := k _ _ c2 a2 e3 o
      rw [lk_upd hl, ← e4]; exact this
    · rw [if_neg n] at g; cases g
  · cases g
theorem vf_add (ha : VE X B W ma a fa) (hb : VE X B W mb b fb) : VF X B W (ma ++ mb) (.BinOp a .Add b pos) (e2 gAdd fa fb) := vf_op op_addAll fop_add ha hb
/-! [..] * n -/
def gRep : G2 := fun s x y => match look s x, y with
  | .cell _ .lst xs, .int k => if PV.nowns xs && decide (-(2 ^ 63) ≤ k) && decide (k < 2 ^ 63) && decide (xs.length * k.toNat ≤ sizeLine) then some (.cell .own .lst (List.replicate k.toNat xs).flatten) else none
  | _, _ => none
theorem Os.flatRep {K : KC} {F G H : Hp} {xs : List PV} {ws : List V} (r : Os K F G H xs ws) : ∀ n : Nat, Os K F G H (List.replicate n xs).flatten (List.replicate n ws).flatten
  | 0 => .nil
  | n + 1 => by
    rw [List.replicate_succ, List.replicate_succ, List.flatten_cons, List.flatten_cons]
    exact r.append (Os.flatRep r n)
theorem fop_rep : FOp X B rRep gRep := by
  intro ms c0 c σ x y z v w Q a hx hy g k
  have R := a.rel
  unfold gRep at g
  split at g
  · rename_i f xs m e
    by_cases n : (PV.nowns xs && decide (-(2 ^ 63) ≤ m) && decide (m < 2 ^ 63) && decide (xs.length * m.toNat ≤ sizeLine)) = true
    · rw [if_pos n] at g; cases g
      simp only [Bool.and_eq_true, decide_eq_true_eq] at n
      obtain ⟨p, ws, rfl, h1, r1⟩ := R.lstOf hx e n.1.1.1
      refine ⟨p, m, ws, rfl, hy.int, R.lkGet h1 (fun z => z), n.1.1.2, n.1.2, by rw [← r1.length]; exact n.2, fun t ht => ?_⟩
      obtain ⟨ht, hl⟩ := R.lkNew ht
      obtain ⟨c2, a2, e3, e4, o⟩ := a.newL ht (r1.flatRep m.toNat)
      have := k _ _ c2 a2 e3 o
      rw [lk_upd hl, ← e4]; exact this
    · rw [if_neg n] at g; cases g
  · cases g
theorem vf_rep (ha : VE X B W ma a fa) (hb : VE X B W mb b fb) : VF X B W (ma ++ mb) (.BinOp a .Mult b pos) (e2 gRep fa fb) := vf_op op_rep fop_rep ha hb
/-! ### slices -/
def cutA {α : Type} (xs : List α) (lo hi : Option Int) : List α := (xs.drop (HT.sIx xs.length 0 lo)).take (HT.sIx xs.length xs.length hi - HT.sIx xs.length 0 lo)
section
variable (K : KC) (B : Bs) (W : WZ) (ms : List Nat)
def evO (f : St → Rs (Option Int)) : TO := fun σ Hr Q => ∃ c, Hr = c.R B ∧ Rel K B c σ ∧ (f c.s).post (fun b s' => ∀ c', Aft K B ms [] c σ c' → c'.s = s' → Q b (c'.R B)) W
end
def VO (X : Cx) (B : Bs) (W : WZ) (ms : List Nat) (e : Option Expr) (f : St → Rs (Option Int)) : Prop := PO X e (evO (kc X B) B W ms f)
theorem po_imp {e : Option Expr} {t t' : TO} (h : PO X e t) (i : ∀ σ H Q, t' σ H Q → t σ H Q) : PO X e t' := ⟨fun pins s σ H Q I q => h.run pins s σ H Q I (i _ _ _ q)⟩
theorem evO_run {K : KC} {c : Cf} {σ : L2.St} {f : St → Rs (Option Int)} {P : Option Int → St → Prop} {Q : Option Int → Hp → Prop} (R : Rel K B c σ) (h : (f c.s).post P W) (k : ∀ b c', Aft K B ms [] c σ c' → P b c'.s → Q b (c'.R B)) : evO K B W ms f σ (c.R B) Q :=
  ⟨c, rfl, R, Rs.post_imp h fun x s' p c' a e => k x c' a (by rw [e]; exact p)⟩
def oNo (s : St) : Rs (Option Int) := .ok none s
def oSo (f : St → Rs PV) (s : St) : Rs (Option Int) := (f s).bind fun x s1 => match x with
  | .int i => .ok (some i) s1
  | _ => .bad
theorem vo_none : VO X B W [] none oNo := po_imp po_none fun σ H Q ⟨c, e, R, h⟩ => by subst e; exact h c (.refl R) rfl
theorem vo_some (h : VE X B W ma e fa) : VO X B W ma (some e) (oSo fa) := by
  refine po_imp (po_some h) fun σ H Q ⟨c, e, R, h⟩ => ?_
  subst e
  refine evE_run R (Rs.post_bind h) fun x v c1 a1 v1 p1 => ?_
  cases x with
  | int i => exact ⟨i, v1.int, p1 c1 a1 rfl⟩
  | _ => exact p1.elim
def gCut (s : St) (x : PV) (l u : Option Int) : Option PV := match look s x with
  | .cell _ .lst xs => if PV.nowns xs then some (.cell .own .lst (cutA xs l u)) else none
  | .cl xs => some (.cell .own .lst (cutA xs l u))
  | _ => none
def fCut (f : St → Rs PV) (lo hi : St → Rs (Option Int)) (s : St) : Rs PV := (f s).bind fun x s1 => (lo s1).bind fun l s2 => (hi s2).bind fun u s3 => ofO (gCut s3 x l u) s3
theorem Os.cut {K : KC} {F G H : Hp} {xs : List PV} {ws : List V} (r : Os K F G H xs ws) (lo hi : Option Int) : Os K F G H (cutA xs lo hi) (cutV ws lo hi) := by
  unfold cutA cutV
  rw [r.length]
  exact (r.drop _).take _
theorem Rel.seqOf {K : KC} {c : Cf} {σ : L2.St} {x : PV} {v : V} {l u : Option Int} {z : PV} (R : Rel K B c σ) (h : Vl K B c σ x v) (g : gCut c.s x l u = some z) : ∃ a ws xs, v = .ref a ∧ SqL K.k (c.R B) a ws ∧ Os K (c.F B.D) c.G c.H xs ws ∧ z = .cell .own .lst (cutA xs l u) := by
  unfold gCut at g
  split at g
  · rename_i f xs e
    by_cases n : PV.nowns xs = true
    · rw [if_pos n] at g; cases g
      obtain ⟨a, ws, rfl, h1, r⟩ := R.lstOf h e n
      exact ⟨a, ws, xs, rfl, R.lkSqL (.inl (.inl h1)), r, rfl⟩
    · rw [if_neg n] at g; cases g
  · rename_i xs e
    cases g
    obtain ⟨a, ws, rfl, h1, r⟩ := R.clOf h e
    exact ⟨a, ws, xs, rfl, R.lkSqL h1, r, rfl⟩
  · cases g
theorem vf_slice {lo hi : Option Expr} {fl fh : St → Rs (Option Int)} (h : VE X B W ma e fa) (hl : VO X B W mb lo fl) (hh : VO X B W mc hi fh) : VF X B W (ma ++ mb ++ mc) (.Subscript e (.Slice lo hi none p2) pos) (fCut fa fl fh) := by
  refine pe_imp (pe_slice sl_list h hl hh) fun σ H Q ⟨c, e, R, h⟩ => ?_
  subst e
  refine evE_run R (Rs.post_bind h) fun x v c1 a1 v1 p1 => ?_
  refine evO_run a1.rel (Rs.post_bind p1) fun l c2 a2 p2 => ?_
  refine evO_run a2.rel (Rs.post_bind p2) fun u c3 a3 p3 => ?_
  obtain ⟨z, hz, p4⟩ := ofO_post p3
  have aa := (a1.trans a2).trans a3
  obtain ⟨q, ws, xs, rfl, h1, r, rfl⟩ := a3.rel.seqOf ((v1.step a2.st).step a3.st) hz
  refine ⟨q, ws, rfl, h1, fun t ht => ?_⟩
  obtain ⟨ht, hl⟩ := a3.rel.lkNew ht
  obtain ⟨c4, a4, e3, e4, o⟩ := aa.newL ht (r.cut l u)
  have := p4 _ _ c4 a4 e3 o
  rw [lk_upd hl, ← e4]; exact this
end
end Z

namespace Z
open PySem PySem.Spec PyProof.Rows L2
section
variable {K : KC} {B : Bs} {c c' c1 c2 : Cf} {σ : L2.St} {A : List Addr} {ms : List Nat}
theorem Vls.os : ∀ {xs : List PV} {vs : List V}, Vls K B c σ xs vs → PV.nowns xs = true → Os K (c.F B.D) c.G c.H xs vs
  | _, _, .nil, _ => .nil
  | _, _, .cons h t, n => by
    have n := Bool.and_eq_true_iff.mp n
    rcases h with ⟨i, rfl, _⟩ | h
    · cases n.1
    · exact .cons h (Vls.os t n.2)
theorem Vls.one {x : PV} {vs : List V} (h : Vls K B c σ [x] vs) : ∃ v, vs = [v] ∧ Vl K B c σ x v := by
  cases h with
  | cons a b => cases b; exact ⟨_, rfl, a⟩
theorem Vls.two {x y : PV} {vs : List V} (h : Vls K B c σ [x, y] vs) : ∃ v w, vs = [v, w] ∧ Vl K B c σ x v ∧ Vl K B c σ y w := by
  cases h with
  | cons a b =>
    obtain ⟨w, rfl, h⟩ := b.one
    exact ⟨_, w, rfl, a, h⟩
/-- only which cells are held matters -/
theorem Rel.perm {T' : List Addr} (R : Rel K B c σ) (h : ∀ a, a ∈ T' ↔ a ∈ c.T) : Rel K B { c with T := T' } σ := by
  have lf : Le (c.F B.D) (Cf.F { c with T := T' } B.D) := fun a o z => let ⟨h1, h2, h3, h4⟩ := F_eq.mp z; F_eq.mpr ⟨h1, fun q => h2 ((h a).mp q), h3, h4⟩
  have lg : Le c.G (Cf.G { c with T := T' }) := fun a o z => let ⟨h2, h3, h4⟩ := G_eq.mp z; G_eq.mpr ⟨fun q => h2 ((h a).mp q), h3, h4⟩
  refine ⟨R.len, fun i x e => ?_, R.dead, R.dis, fun i a m t => R.nT i a m ((h a).mp t), fun a z => R.nD a (z.imp_left (h a).mp), fun a z => R.live a (z.imp_left (h a).mp), R.keep, fun a z => R.new a (z.imp_left (h a).mp), R.root, fun a ob z => ?_⟩
  · obtain ⟨v, h1, h2⟩ := R.own i x e
    exact ⟨v, h1, h2.le lf lg fun _ _ _ z => z⟩
  · obtain ⟨h1, h2, h3⟩ := R.lkd a ob z
    exact ⟨fun q => h1 ((h a).mp q), h2, h3⟩
theorem perm_F {T' : List Addr} {D : Addr → Prop} (h : ∀ a, a ∈ T' ↔ a ∈ c.T) : Le (c.F D) (Cf.F { c with T := T' } D) := fun a o z => let ⟨h1, h2, h3, h4⟩ := F_eq.mp z; F_eq.mpr ⟨h1, fun q => h2 ((h a).mp q), h3, h4⟩
theorem perm_G {T' : List Addr} (h : ∀ a, a ∈ T' ↔ a ∈ c.T) : Le c.G (Cf.G { c with T := T' }) := fun a o z => let ⟨h2, h3, h4⟩ := G_eq.mp z; G_eq.mpr ⟨fun q => h2 ((h a).mp q), h3, h4⟩
end
/-! ### items of one's own in a row -/
section
variable (K : KC) (B : Bs) (W : WZ) (ms : List Nat)
def evFA (f : St → Rs (List PV)) : TA := fun σ Hr Q => ∃ c, Hr = c.R B ∧ Rel K B c σ ∧ (f c.s).post (fun xs s' => ∀ vs A c', Aft K B ms A c σ c' → c'.s = s' → Owns K (c'.F B.D) c'.G c'.H xs vs A → Q vs (c'.R B)) W
end
def VFA (X : Cx) (B : Bs) (W : WZ) (ms : List Nat) (es : List Expr) (f : St → Rs (List PV)) : Prop := PA X es (evFA (kc X B) B W ms f)
section
variable {X : Cx} {B : Bs} {W : WZ} {ms ma mb mc : List Nat} {a b d e : Expr} {es : List Expr} {fa fb fc : St → Rs PV} {pos p p2 : Pos} {ga : St → Rs (List PV)}
theorem evFA_run {K : KC} {c : Cf} {σ : L2.St} {f : St → Rs (List PV)} {P : List PV → St → Prop} {Q : List V → Hp → Prop} (R : Rel K B c σ) (h : (f c.s).post P W) (k : ∀ xs vs A c', Aft K B ms A c σ c' → Owns K (c'.F B.D) c'.G c'.H xs vs A → P xs c'.s → Q vs (c'.R B)) : evFA K B W ms f σ (c.R B) Q :=
  ⟨c, rfl, R, Rs.post_imp h fun x s' p v A c' a e o => k x v A c' a o (by rw [e]; exact p)⟩
theorem vfa_nil : VFA X B W [] [] aNil := pa_imp pa_nil fun σ H Q ⟨c, e, R, h⟩ => by subst e; exact h [] [] c (.refl R) rfl .nil
theorem vfa_cons (h : VF X B W ma e fa) (hs : VFA X B W mb es ga) (hst : starEach (e :: es) X.env = (false, eval e X.env) :: starEach es X.env := by rfl) : VFA X B W (ma ++ mb) (e :: es) (aCons fa ga) := by
  refine pa_imp (pa_cons h hs hst) fun σ H Q ⟨c, e, R, h⟩ => ?_
  subst e
  refine evF_run R (Rs.post_bind h) fun x v A1 c1 a1 o1 p1 => ?_
  refine evFA_run a1.rel (Rs.post_bind p1) fun xs vs A2 c2 a2 o2 p2 => ?_
  have aa := a1.trans a2
  have hm : ∀ a, a ∈ (A1 ++ A2) ++ c.T ↔ a ∈ c2.T := fun a => by
    rw [aa.st.T]; simp only [List.mem_append]
    constructor
    · rintro ((h | h) | h)
      · exact .inl (.inr h)
      · exact .inl (.inl h)
      · exact .inr h
    · rintro ((h | h) | h)
      · exact .inl (.inr h)
      · exact .inl (.inl h)
      · exact .inr h
  have dis : ∀ x ∈ A1, x ∉ A2 := fun x m1 m2 => a2.heldT a1.rel x m2 (by rw [a1.st.T]; exact List.mem_append_left _ m1)
  have o1' : Own (kc X B) (c2.F B.D) c2.G c2.H x v A1 := o1.le a2.st.F a2.st.G fun b m o h => a2.st.keep b o (a1.heldM b m) h
  refine p2 (v :: vs) (A1 ++ A2) { c2 with T := (A1 ++ A2) ++ c.T } ⟨aa.rel.perm hm, ⟨aa.st.keep, fun b z => aa.st.new b ?_, rfl⟩, fun i n => let s := aa.fr i n; ⟨s.s, s.As, s.H⟩⟩ rfl ?_
  · rcases z with z | z
    · exact .inl ((List.mem_append.mp z).elim (fun z => List.mem_append_right _ z) fun z => List.mem_append_left _ z)
    · exact .inr z
  · exact .cons (o1'.le (perm_F hm) (perm_G hm) fun _ _ _ h => h) (o2.le (perm_F hm) (perm_G hm) fun _ _ _ h => h) dis
/-- [..], owned items -/
def fLst (f : St → Rs (List PV)) (s : St) : Rs PV := (f s).bind fun xs s1 => if xs.length ≤ sizeLine then .ok (.cell .own .lst xs) s1 else .bad
theorem vf_lst (h : VFA X B W ms es ga) : VF X B W ms (.List es pos) (fLst ga) := by
  refine pe_imp (pe_lst h) fun σ H Q ⟨c, e, R, h⟩ => ?_
  subst e
  refine evFA_run R (Rs.post_bind h) fun xs vs A c1 a1 o p1 => ?_
  by_cases n : xs.length ≤ sizeLine
  · rw [if_pos n] at p1
    refine ⟨by rw [← o.length]; exact n, fun t ht => ?_⟩
    obtain ⟨ht, hl⟩ := a1.rel.lkNew ht
    have hA : ∀ x ∈ A, x ≠ t := fun x m z => by
      obtain ⟨u, e, _⟩ := a1.rel.live x (.inl (by rw [a1.st.T]; exact List.mem_append_left _ m))
      rw [z, ht] at e; cases e
    have a2 := a1.rel.push (ms := []) (A := [t]) (H' := upd c1.H t (.lst vs)) (upd_le ht) (fun x m => by cases List.mem_singleton.mp m; exact ht) (fun x m => by cases List.mem_singleton.mp m; exact ⟨_, upd_same, trivial⟩)
    have aa : Aft (kc X B) B ms ([t] ++ A) c σ { c1 with H := upd c1.H t (.lst vs), T := [t] ++ c1.T } := by
      have := a1.trans a2
      simpa using this
    have := p1 (.ref t) ([t] ++ A) _ aa rfl (.cell (t := .lst) ⟨upd_same, rfl⟩ (o.le a2.st.F a2.st.G fun b m u hb => by
      show upd c1.H t _ b = _
      rw [upd_ne (hA b m)]; exact hb) fun b m z => hA b z (List.mem_singleton.mp m))
    rw [lk_upd hl]; exact this
  · rw [if_neg n] at p1; exact p1.elim
/-- (..), owned items -/
def fTup (f : St → Rs (List PV)) (s : St) : Rs PV := (f s).bind fun xs s1 => if xs.length ≤ sizeLine then .ok (.tup xs) s1 else .bad
theorem vf_tup {j : Nat} (h : VFA X B W ms es ga) : VF X B W ms (.Tuple es j pos) (fTup ga) := by
  refine pe_imp (pe_tup h) fun σ H Q ⟨c, e, R, h⟩ => ?_
  subst e
  refine evFA_run R (Rs.post_bind h) fun xs vs A c1 a1 o p1 => ?_
  by_cases n : xs.length ≤ sizeLine
  · rw [if_pos n] at p1
    refine ⟨by rw [← o.length]; exact n, fun t ht => ?_⟩
    obtain ⟨ht, hl⟩ := a1.rel.lkNew ht
    have hA : ∀ x ∈ A, x ≠ t := fun x m z => by
      obtain ⟨u, e, _⟩ := a1.rel.live x (.inl (by rw [a1.st.T]; exact List.mem_append_left _ m))
      rw [z, ht] at e; cases e
    have a2 := a1.grow (upd_le (o := .tup vs) ht)
    have st := (a1.rel.grow (ms := []) (upd_le (o := .tup vs) ht)).st
    have := p1 (.ref t) A _ a2 rfl (.tup (a2.rel.leT t _ (fun z => z) upd_same) (o.le st.F st.G fun b m u hb => by
      show upd c1.H t _ b = _
      rw [upd_ne (hA b m)]; exact hb))
    rw [lk_upd hl]; exact this
  · rw [if_neg n] at p1; exact p1.elim
/-- (..), values -/
def eTup (f : St → Rs (List PV)) (s : St) : Rs PV := (f s).bind fun xs s1 => if PV.nowns xs && decide (xs.length ≤ sizeLine) then .ok (.tup xs) s1 else .bad
theorem ve_tup {j : Nat} (h : VA X B W ms es ga) : VE X B W ms (.Tuple es j pos) (eTup ga) := by
  refine pe_imp (pe_tup h) fun σ H Q ⟨c, e, R, h⟩ => ?_
  subst e
  refine evA_run R (Rs.post_bind h) fun xs vs c1 a1 o p1 => ?_
  by_cases n : (PV.nowns xs && decide (xs.length ≤ sizeLine)) = true
  · rw [if_pos n] at p1
    simp only [Bool.and_eq_true, decide_eq_true_eq] at n
    refine ⟨by rw [← o.length]; exact n.2, fun t ht => ?_⟩
    obtain ⟨ht, hl⟩ := a1.rel.lkNew ht
    obtain ⟨a2, o2⟩ := a1.newT ht (o.os n.1)
    have := p1 (.ref t) _ a2 rfl (.inr o2)
    rw [lk_upd hl]; exact this
  · rw [if_neg n] at p1; exact p1.elim
/-! ### built-in calls -/
abbrev GC := St → List PV → Option PV
def eCl (g : GC) (f : St → Rs (List PV)) (s : St) : Rs PV := (f s).bind fun xs s1 => ofO (g s1 xs) s1
def PCall (X : Cx) (B : Bs) (r : List V → Hp → VK → Prop) (g : GC) : Prop := ∀ (c : Cf) (σ : L2.St) (xs : List PV) (vs : List V) (z : PV) (Q : VK), Rel (kc X B) B c σ → Vls (kc X B) B c σ xs vs → g c.s xs = some z →
  (∀ u H', Le c.H H' → Own (kc X B) (Cf.F { c with H := H' } B.D) (Cf.G { c with H := H' }) H' z u [] → Q u (lk B.L H')) → r vs (c.R B) Q
def FCall (X : Cx) (B : Bs) (r : List V → Hp → VK → Prop) (g : GC) : Prop := ∀ (ms : List Nat) (c0 c : Cf) (σ : L2.St) (xs : List PV) (vs : List V) (z : PV) (Q : VK), Aft (kc X B) B ms [] c0 σ c → Vls (kc X B) B c σ xs vs → g c.s xs = some z →
  (∀ u A c', Aft (kc X B) B ms A c0 σ c' → c'.s = c.s → Own (kc X B) (c'.F B.D) c'.G c'.H z u A → Q u (c'.R B)) → r vs (c.R B) Q
section
variable {r : List V → Hp → VK → Prop} {x : Str} {id T : String} {g : GC}
theorem call_run (hp : PCall X B r g) (h : PE X e (fun σ H Q => evA (kc X B) B W ms ga σ H fun vs H1 => r vs H1 Q)) : VE X B W ms e (eCl g ga) := by
  refine pe_imp h fun σ H Q ⟨c, e, R, h⟩ => ?_
  subst e
  refine evA_run R (Rs.post_bind h) fun xs vs c1 a1 o p1 => ?_
  obtain ⟨z, hz, p2⟩ := ofO_post p1
  exact hp c1 σ xs vs z Q a1.rel o hz fun u H' le o => p2 u { c1 with H := H' } (a1.grow le) rfl (.inr o)
theorem call_runF (hp : FCall X B r g) (h : PE X e (fun σ H Q => evA (kc X B) B W ms ga σ H fun vs H1 => r vs H1 Q)) : VF X B W ms e (eCl g ga) := by
  refine pe_imp h fun σ H Q ⟨c, e, R, h⟩ => ?_
  subst e
  refine evA_run R (Rs.post_bind h) fun xs vs c1 a1 o p1 => ?_
  obtain ⟨z, hz, p2⟩ := ofO_post p1
  exact hp ms c c1 σ xs vs z Q a1 o hz fun u A c' a es o => p2 u A c' a es o
theorem ve_callB (hc : CallR X (.builtin id) r) (hp : PCall X B r g) (hm : X.mg x = none) (ha : VA X B W ms (e :: es) ga) (hg : Gl X x) (hv : bootBuiltins x = some (.builtin id) := by decide +kernel) (hn : x ≠ "__name__" := by decide) (hdb : (x == ("__debug__" : Str)) = false := by decide)
    (he : starEach (e :: es) X.env = (false, eval e X.env) :: starEach es X.env := by rfl) (hpl : (backTo pos (starEach es X.env)).any (·.1) = false := by rfl) : VE X B W ms (.Call (.Name x p) (e :: es) [] pos) (eCl g ga) :=
  call_run hp (pe_callB hc hg hm hv ha hn hdb he hpl)
theorem ve_callTy (hc : CallR X (.type T) r) (hp : PCall X B r g) (hm : X.mg x = none) (ha : VA X B W ms (e :: es) ga) (hg : Gl X x) (hv : bootBuiltins x = some (.type T) := by decide +kernel) (hn : x ≠ "__name__" := by decide) (hdb : (x == ("__debug__" : Str)) = false := by decide)
    (he : starEach (e :: es) X.env = (false, eval e X.env) :: starEach es X.env := by rfl) (hpl : (backTo pos (starEach es X.env)).any (·.1) = false := by rfl) : VE X B W ms (.Call (.Name x p) (e :: es) [] pos) (eCl g ga) :=
  call_run hp (pe_callTy hc hg hm hv ha hn hdb he hpl)
theorem vf_callB (hc : CallR X (.builtin id) r) (hp : FCall X B r g) (hm : X.mg x = none) (ha : VA X B W ms (e :: es) ga) (hg : Gl X x) (hv : bootBuiltins x = some (.builtin id) := by decide +kernel) (hn : x ≠ "__name__" := by decide) (hdb : (x == ("__debug__" : Str)) = false := by decide)
    (he : starEach (e :: es) X.env = (false, eval e X.env) :: starEach es X.env := by rfl) (hpl : (backTo pos (starEach es X.env)).any (·.1) = false := by rfl) : VF X B W ms (.Call (.Name x p) (e :: es) [] pos) (eCl g ga) :=
  call_runF hp (pe_callB hc hg hm hv ha hn hdb he hpl)
theorem vf_callTy (hc : CallR X (.type T) r) (hp : FCall X B r g) (hm : X.mg x = none) (ha : VA X B W ms (e :: es) ga) (hg : Gl X x) (hv : bootBuiltins x = some (.type T) := by decide +kernel) (hn : x ≠ "__name__" := by decide) (hdb : (x == ("__debug__" : Str)) = false := by decide)
    (he : starEach (e :: es) X.env = (false, eval e X.env) :: starEach es X.env := by rfl) (hpl : (backTo pos (starEach es X.env)).any (·.1) = false := by rfl) : VF X B W ms (.Call (.Name x p) (e :: es) [] pos) (eCl g ga) :=
  call_runF hp (pe_callTy hc hg hm hv ha hn hdb he hpl)
end
def cInt (f : Int → PV) : GC := fun _ xs => match xs with
  | [.int i] => some (f i)
  | _ => none
def cInt2 (f : Int → Int → PV) : GC := fun _ xs => match xs with
  | [.int i, .int j] => some (f i j)
  | _ => none
abbrev cAbs : GC := cInt fun i => .int (if i < 0 then -i else i)
theorem pc_abs : PCall X B (fun xs H Q => ∃ i, xs = [.int i] ∧ Q (.int (if i < 0 then -i else i)) H) cAbs := by
  intro c σ xs vs z Q R hx g k
  unfold cAbs cInt at g
  split at g
  · cases g
    obtain ⟨v, rfl, r⟩ := hx.one
    exact ⟨_, by rw [r.int], k _ c.H (Le.refl _) (.int _)⟩
  · cases g
abbrev cMax2 : GC := cInt2 fun i j => .int (if j > i then j else i)
abbrev cMin2 : GC := cInt2 fun i j => .int (if j < i then j else i)
theorem pc_max2 : PCall X B (fun xs H Q => ∃ i j, xs = [.int i, .int j] ∧ Q (.int (if j > i then j else i)) H) cMax2 := by
  intro c σ xs vs z Q R hx g k
  unfold cMax2 cInt2 at g
  split at g
  · cases g
    obtain ⟨v, w, rfl, r1, r2⟩ := hx.two
    exact ⟨_, _, by rw [r1.int, r2.int], k _ c.H (Le.refl _) (.int _)⟩
  · cases g
theorem pc_min2 : PCall X B (fun xs H Q => ∃ i j, xs = [.int i, .int j] ∧ Q (.int (if j < i then j else i)) H) cMin2 := by
  intro c σ xs vs z Q R hx g k
  unfold cMin2 cInt2 at g
  split at g
  · cases g
    obtain ⟨v, w, rfl, r1, r2⟩ := hx.two
    exact ⟨_, _, by rw [r1.int, r2.int], k _ c.H (Le.refl _) (.int _)⟩
  · cases g
def cIntOf : GC := fun _ xs => match xs with
  | [.int i] => some (.int i)
  | [.bl b] => some (.int (if b then 1 else 0))
  | _ => none
theorem pc_int : PCall X B (fun xs H Q => (∃ i, xs = [.int i] ∧ Q (.int i) H) ∨ ∃ k, xs = [.bl k] ∧ Q (.int (if k then 1 else 0)) H) cIntOf := by
  intro c σ xs vs z Q R hx g k
  unfold cIntOf at g
  split at g
  · cases g
    obtain ⟨v, rfl, r⟩ := hx.one
    exact .inl ⟨_, by rw [r.int], k _ c.H (Le.refl _) (.int _)⟩
  · cases g
    obtain ⟨v, rfl, r⟩ := hx.one
    exact .inr ⟨_, by rw [r.bl], k _ c.H (Le.refl _) (.int _)⟩
  · cases g
def cLen : GC := fun s xs => match xs with
  | [x] => (match look s x with
    | .cell _ .lst ys => some (.int ys.length)
    | .cl ys => some (.int ys.length)
    | .tup ys => some (.int ys.length)
    | .str z => if z.length ≤ sizeLine then some (.int z.length) else none
    | _ => none)
  | _ => none
theorem pc_len : PCall X B (fun xs H Q => ∃ x n, xs = [x] ∧ LenV X.K x H n ∧ Q (.int n) H) cLen := by
  intro c σ xs vs z Q R hx g k
  unfold cLen at g
  split at g
  · obtain ⟨v, rfl, r⟩ := hx.one
    split at g
    · rename_i f ys e
      cases g
      obtain ⟨a, ws, A0, S, rfl, h2, h3⟩ := R.cellOf r e
      exact ⟨_, ys.length, rfl, .inl ⟨ws, R.lkSqL (.inl (.inl h2.1)), h3.length⟩, k _ c.H (Le.refl _) (.int _)⟩
    · rename_i ys e
      cases g
      obtain ⟨a, ws, rfl, h2, h3⟩ := R.clOf r e
      exact ⟨_, ys.length, rfl, .inl ⟨ws, R.lkSqL h2, h3.length⟩, k _ c.H (Le.refl _) (.int _)⟩
    · rename_i ys e
      cases g
      obtain ⟨A, o⟩ := R.look r e (fun _ _ z => nomatch z)
      obtain ⟨a, ws, S, rfl, h2, h3, _⟩ := o.viewT F_le G_le
      exact ⟨_, ys.length, rfl, .inr ⟨ws, R.lkSqT h2, h3.length⟩, k _ c.H (Le.refl _) (.int _)⟩
    · rename_i z' e
      by_cases n : z'.length ≤ sizeLine
      · rw [if_pos n] at g; cases g
        exact ⟨_, z'.length, rfl, by rw [lookStr R r e]; exact ⟨n, rfl⟩, k _ c.H (Le.refl _) (.int _)⟩
      · rw [if_neg n] at g; cases g
    · cases g
  · cases g
/-- list(x) -/
def cList : GC := fun s xs => match xs with
  | [x] => gCut s x none none
  | _ => none
theorem cutA_all {α : Type} (xs : List α) : cutA xs none none = xs := by
  unfold cutA
  rw [HT.sIx_none, HT.sIx_none, List.drop_zero, Nat.sub_zero]
  exact List.take_of_length_le (Nat.le_refl _)
theorem fc_list : FCall X B (fun xs H Q => ∃ p ys, xs = [.ref p] ∧ (SqL X.K H p ys ∨ SqT X.K H p ys) ∧ ∀ l, H l = none → Q (.ref l) (upd H l (.lst ys))) cList := by
  intro ms c0 c σ xs vs z Q a hx g k
  have R := a.rel
  unfold cList at g
  split at g
  · obtain ⟨v, rfl, r⟩ := hx.one
    obtain ⟨q, ws, ys, rfl, h1, rr, rfl⟩ := R.seqOf r g
    refine ⟨q, ws, rfl, .inl h1, fun t ht => ?_⟩
    obtain ⟨ht, hl⟩ := R.lkNew ht
    obtain ⟨c2, a2, e3, e4, o⟩ := a.newL ht rr
    have := k _ _ c2 a2 e3 (by rw [cutA_all]; exact o)
    rw [lk_upd hl, ← e4]; exact this
  · cases g
/-! numbers of a list -/
def PV.ints : List PV → Option (List Int)
  | [] => some []
  | .int i :: xs => (PV.ints xs).map (i :: ·)
  | _ => none
theorem PV.ints_map : ∀ ns : List Int, PV.ints (ns.map PV.int) = some ns
  | [] => rfl
  | n :: ns => by rw [List.map_cons, PV.ints, PV.ints_map ns]; rfl
theorem PV.ints_eq : ∀ {xs : List PV} {ns : List Int}, PV.ints xs = some ns → xs = ns.map PV.int
  | [], _, h => by cases h; rfl
  | x :: xs, ns, h => by
    cases x with
    | int i =>
      rw [PV.ints] at h
      cases e : PV.ints xs with
      | none => rw [e] at h; cases h
      | some ms => rw [e] at h; cases h; rw [PV.ints_eq e]; rfl
    | _ => cases h
def seqI (s : St) (x : PV) : Option (List Int) := match look s x with
  | .cell _ .lst xs => PV.ints xs
  | .cl xs => PV.ints xs
  | _ => none
theorem nowns_ints : ∀ ns : List Int, PV.nowns (ns.map PV.int) = true
  | [] => rfl
  | n :: ns => by rw [List.map_cons, PV.nowns, nowns_ints ns]; rfl
theorem Os.intsEq {K : KC} {F G H : Hp} : ∀ {ns : List Int} {vs : List V}, Os K F G H (ns.map PV.int) vs → vs = ns.map V.int
  | [], _, h => by cases h; rfl
  | n :: ns, _, h => by
    cases h with
    | cons a b => rw [Os.intsEq b, a.intEq]; rfl
theorem Rel.intsOf {K : KC} {c : Cf} {σ : L2.St} {x : PV} {v : V} {ns : List Int} (R : Rel K B c σ) (h : Vl K B c σ x v) (g : seqI c.s x = some ns) : ∃ a, v = .ref a ∧ SqL K.k (c.R B) a (ns.map V.int) := by
  unfold seqI at g
  split at g
  · rename_i f xs e
    have ex := PV.ints_eq g
    subst ex
    obtain ⟨a, ws, rfl, h1, r⟩ := R.lstOf h e (nowns_ints _)
    exact ⟨a, rfl, by rw [← r.intsEq]; exact R.lkSqL (.inl (.inl h1))⟩
  · rename_i xs e
    have ex := PV.ints_eq g
    subst ex
    obtain ⟨a, ws, rfl, h1, r⟩ := R.clOf h e
    exact ⟨a, rfl, by rw [← r.intsEq]; exact R.lkSqL h1⟩
  · cases g
def insI (n : Int) : List Int → List Int
  | [] => [n]
  | m :: ms => if n ≤ m then n :: m :: ms else m :: insI n ms
def srt : List Int → List Int
  | [] => []
  | n :: ns => insI n (srt ns)
theorem insI_perm (n : Int) : ∀ l : List Int, (insI n l).Perm (n :: l)
  | [] => .refl _
  | m :: ms => by
    rw [insI]
    by_cases h : n ≤ m
    · rw [if_pos h]
    · rw [if_neg h]; exact ((insI_perm n ms).cons m).trans (.swap ..)
theorem srt_perm : ∀ l : List Int, (srt l).Perm l
  | [] => .refl _
  | n :: ns => (insI_perm n _).trans ((srt_perm ns).cons n)
theorem insI_sorted {n : Int} : ∀ {l : List Int}, l.Pairwise (· ≤ ·) → (insI n l).Pairwise (· ≤ ·)
  | [], _ => by simp [insI]
  | m :: ms, h => by
    rw [insI]
    have h' := List.pairwise_cons.mp h
    by_cases c : n ≤ m
    · rw [if_pos c]
      exact List.pairwise_cons.mpr ⟨fun x hx => (List.mem_cons.mp hx).elim (fun e => by rw [e]; exact c) fun hx => Int.le_trans c (h'.1 x hx), h⟩
    · rw [if_neg c]
      refine List.pairwise_cons.mpr ⟨fun x hx => ?_, insI_sorted h'.2⟩
      rcases List.mem_cons.mp ((insI_perm n ms).mem_iff.mp hx) with rfl | hx
      · omega
      · exact h'.1 x hx
theorem srt_sorted : ∀ l : List Int, (srt l).Pairwise (· ≤ ·)
  | [] => .nil
  | n :: ns => insI_sorted (srt_sorted ns)
theorem sorted_unique : ∀ {l m : List Int}, l.Perm m → l.Pairwise (· ≤ ·) → m.Pairwise (· ≤ ·) → l = m
  | [], m, p, _, _ => (List.Perm.nil_eq p)
  | a :: l, [], p, _, _ => absurd p.symm (by intro h; have := h.nil_eq; cases this)
  | a :: l, b :: m, p, h1, h2 => by
    have h1' := List.pairwise_cons.mp h1
    have h2' := List.pairwise_cons.mp h2
    have e : a = b := by
      have ha : a ∈ b :: m := p.mem_iff.mp List.mem_cons_self
      have hb : b ∈ a :: l := p.mem_iff.mpr List.mem_cons_self
      rcases List.mem_cons.mp ha with e | ha
      · exact e
      · rcases List.mem_cons.mp hb with e | hb
        · exact e.symm
        · have := h2'.1 a ha
          have := h1'.1 b hb
          omega
    subst e
    rw [sorted_unique (List.Perm.cons_inv p) h1'.2 h2'.2]
theorem srt_unique {l m : List Int} (p : m.Perm l) (h : m.Pairwise (· ≤ ·)) : m = srt l := sorted_unique (p.trans (srt_perm l).symm) h (srt_sorted l)
def cSorted : GC := fun s xs => match xs with
  | [x] => (seqI s x).map fun ns => .cell .own .lst ((srt ns).map PV.int)
  | _ => none
theorem fc_sort : FCall X B (rSortedI X.K) cSorted := by
  intro ms c0 c σ xs vs z Q a hx g k
  have R := a.rel
  unfold cSorted at g
  split at g
  · rename_i x
    obtain ⟨v, rfl, r⟩ := hx.one
    cases e : seqI c.s x with
    | none => rw [e] at g; cases g
    | some ns =>
      rw [e] at g; cases g
      obtain ⟨q, rfl, h1⟩ := R.intsOf r e
      refine ⟨q, ns, rfl, h1, fun ns' t h2 h3 ht => ?_⟩
      obtain ⟨ht, hl⟩ := R.lkNew ht
      obtain ⟨c2, a2, e3, e4, o⟩ := a.newL ht (Os.ints ns')
      have := k (.ref t) [t] c2 a2 e3 (by dsimp only; rw [← srt_unique h2 h3]; exact o)
      rw [lk_upd hl, ← e4]; exact this
  · cases g
def cInts (f : List Int → Option Int) : GC := fun s xs => match xs with
  | [x] => ((seqI s x).bind f).map .int
  | _ => none
theorem cInts_ok {f : List Int → Option Int} {s : St} {xs : List PV} {z : PV} (g : cInts f s xs = some z) : ∃ x ns i, xs = [x] ∧ seqI s x = some ns ∧ f ns = some i ∧ z = .int i := by
  unfold cInts at g
  split at g
  · rename_i x
    cases e : seqI s x with
    | none => rw [e] at g; cases g
    | some ns =>
      rw [e] at g
      cases e2 : f ns with
      | none => simp [e2] at g
      | some i => simp [e2] at g; exact ⟨x, ns, i, rfl, e, e2, g.symm⟩
  · cases g
theorem pc_sum : PCall X B (rSum X.K) (cInts fun ns => some ns.sum) := by
  intro c σ xs vs z Q R hx g k
  obtain ⟨x, ns, i, rfl, e, e2, rfl⟩ := cInts_ok g
  obtain ⟨v, rfl, r⟩ := hx.one
  obtain ⟨q, rfl, h1⟩ := R.intsOf r e
  cases e2
  exact ⟨q, ns, rfl, h1, k _ c.H (Le.refl _) (.int _)⟩
def maxL : List Int → Option Int
  | [] => none
  | n :: ns => some (ns.foldl max n)
def minL : List Int → Option Int
  | [] => none
  | n :: ns => some (ns.foldl min n)
theorem foldl_max : ∀ (ns : List Int) (n : Int), (ns.foldl max n = n ∨ ns.foldl max n ∈ ns) ∧ n ≤ ns.foldl max n ∧ ∀ y ∈ ns, y ≤ ns.foldl max n
  | [], n => ⟨.inl rfl, Int.le_refl _, fun y m => by cases m⟩
  | m :: ns, n => by
    obtain ⟨h1, h2, h3⟩ := foldl_max ns (max n m)
    rw [List.foldl_cons]
    refine ⟨?_, by omega, fun y hy => ?_⟩
    · rcases h1 with h1 | h1
      · rw [h1]
        by_cases c : n ≤ m
        · right; rw [Int.max_eq_right c]; simp
        · left; omega
      · right; exact List.mem_cons_of_mem _ h1
    · rcases List.mem_cons.mp hy with rfl | hy
      · omega
      · exact h3 y hy
theorem foldl_min : ∀ (ns : List Int) (n : Int), (ns.foldl min n = n ∨ ns.foldl min n ∈ ns) ∧ ns.foldl min n ≤ n ∧ ∀ y ∈ ns, ns.foldl min n ≤ y
  | [], n => ⟨.inl rfl, Int.le_refl _, fun y m => by cases m⟩
  | m :: ns, n => by
    obtain ⟨h1, h2, h3⟩ := foldl_min ns (min n m)
    rw [List.foldl_cons]
    refine ⟨?_, by omega, fun y hy => ?_⟩
    · rcases h1 with h1 | h1
      · rw [h1]
        by_cases c : n ≤ m
        · left; omega
        · right; rw [Int.min_eq_right (by omega)]; simp
      · right; exact List.mem_cons_of_mem _ h1
    · rcases List.mem_cons.mp hy with rfl | hy
      · omega
      · exact h3 y hy
theorem pc_max : PCall X B (rMax X.K) (cInts maxL) := by
  intro c σ xs vs z Q R hx g k
  obtain ⟨x, ns, i, rfl, e, e2, rfl⟩ := cInts_ok g
  obtain ⟨v, rfl, r⟩ := hx.one
  obtain ⟨q, rfl, h1⟩ := R.intsOf r e
  cases ns with
  | nil => cases e2
  | cons n ns =>
    cases e2
    refine ⟨q, n :: ns, rfl, h1, by simp, fun m hm hy => ?_⟩
    obtain ⟨f1, f2, f3⟩ := foldl_max ns n
    have e3 : m = ns.foldl max n := by
      have i1 : ns.foldl max n ≤ m := hy _ (f1.elim (fun z => by rw [z]; simp) fun z => List.mem_cons_of_mem _ z)
      have i2 : m ≤ ns.foldl max n := by
        rcases List.mem_cons.mp hm with rfl | hm
        · exact f2
        · exact f3 m hm
      omega
    rw [e3]; exact k _ c.H (Le.refl _) (.int _)
theorem pc_min : PCall X B (rMin X.K) (cInts minL) := by
  intro c σ xs vs z Q R hx g k
  obtain ⟨x, ns, i, rfl, e, e2, rfl⟩ := cInts_ok g
  obtain ⟨v, rfl, r⟩ := hx.one
  obtain ⟨q, rfl, h1⟩ := R.intsOf r e
  cases ns with
  | nil => cases e2
  | cons n ns =>
    cases e2
    refine ⟨q, n :: ns, rfl, h1, by simp, fun m hm hy => ?_⟩
    obtain ⟨f1, f2, f3⟩ := foldl_min ns n
    have e3 : m = ns.foldl min n := by
      have i1 : m ≤ ns.foldl min n := hy _ (f1.elim (fun z => by rw [z]; simp) fun z => List.mem_cons_of_mem _ z)
      have i2 : ns.foldl min n ≤ m := by
        rcases List.mem_cons.mp hm with rfl | hm
        · exact f2
        · exact f3 m hm
      omega
    rw [e3]; exact k _ c.H (Le.refl _) (.int _)
end
end Z

namespace Z
open PySem PySem.Spec PyProof.Rows L2
/-! ### ways into a thing of one's own -/
def getP : PV → List Nat → Option PV
  | x, [] => some x
  | .cell .own _ xs, n :: p => (xs[n]?).bind fun y => getP y p
  | .tup xs, n :: p => if PV.nowns xs then none else (xs[n]?).bind fun y => getP y p
  | _, _ :: _ => none
def setP : PV → List Nat → PV → PV
  | _, [], y => y
  | .cell f t xs, n :: p, y => .cell f t (match xs[n]? with | some z => xs.set n (setP z p y) | none => xs)
  | .tup xs, n :: p, y => .tup (match xs[n]? with | some z => xs.set n (setP z p y) | none => xs)
  | x, _ :: _, _ => x
def kidO : HO → Nat → Option V
  | .lst ws, n => ws[n]?
  | .tup ws, n => ws[n]?
  | .dK kvs, n => (kvs[n]?).map (·.2)
  | .dT kvs, n => (kvs[n]?).map (·.2)
  | .ins _ _ fs, n => (fs[n]?).map (·.2)
  | _, _ => none
def atP (H : Hp) : V → List Nat → Option V
  | v, [] => some v
  | .ref a, n :: p => (H a).bind fun o => (kidO o n).bind fun w => atP H w p
  | _, _ :: _ => none
theorem zip_snd {α : Type} : ∀ {ks : List α} {ws : List V} {n : Nat}, ks.length = ws.length → ((ks.zip ws)[n]?).map (·.2) = ws[n]?
  | [], [], n, _ => by simp
  | k :: ks, w :: ws, 0, _ => rfl
  | k :: ks, w :: ws, n + 1, h => by
    rw [List.zip_cons_cons, List.getElem?_cons_succ, List.getElem?_cons_succ]
    exact zip_snd (by simpa using h)
  | [], _ :: _, _, h => by simp at h
  | _ :: _, [], _, h => by simp at h
theorem IsO.kid {K : KC} {t : Tg} {H : Hp} {a : Addr} {ws : List V} {A : List Addr} {n : Nat} (h : IsO K t H a ws A) : ∃ o, H a = some o ∧ kidO o n = ws[n]? := by
  cases t with
  | lst => exact ⟨_, h.1, rfl⟩
  | dK ks => exact ⟨_, h.1, zip_snd h.2.1⟩
  | dT ks => exact ⟨_, h.1, zip_snd h.2.1⟩
  | ins C ns => obtain ⟨dx, h, d, l, rfl⟩ := h; exact ⟨_, h, zip_snd l⟩
section
variable {K : KC} {F G H : Hp}
/-- one of a row -/
theorem Owns.pick : ∀ {xs : List PV} {ws : List V} {S : List Addr} {n : Nat} {x : PV}, Owns K F G H xs ws S → xs[n]? = some x → ∃ (w : V) (S1 S2 : List Addr), ws[n]? = some w ∧ Own K F G H x w S1 ∧ (∀ a, a ∈ S ↔ a ∈ S1 ∨ a ∈ S2) ∧ (∀ a ∈ S1, a ∉ S2) ∧
    ∀ (F' G' H' : Hp) (y : PV) (u : V) (S1' : List Addr), Le F F' → Le G G' → (∀ a ∈ S2, ∀ o, H a = some o → H' a = some o) → Own K F' G' H' y u S1' → (∀ a ∈ S1', a ∉ S2) → ∃ S', Owns K F' G' H' (xs.set n y) (ws.set n u) S' ∧ ∀ a, a ∈ S' ↔ a ∈ S1' ∨ a ∈ S2
  | [], _, _, _, _, _, e => by simp at e
  | z :: xs, _, _, 0, x, h, e => by
    cases h with
    | cons o r d =>
      simp at e; subst e
      refine ⟨_, _, _, rfl, o, fun a => List.mem_append, d, fun F' G' H' y u S1' lf lg k o' d' => ⟨_, .cons o' (r.le lf lg k) d', fun a => List.mem_append⟩⟩
  | z :: xs, _, _, n + 1, x, h, e => by
    cases h with
    | cons o r d =>
      rename_i w0 ws0 S0 T0
      obtain ⟨w, S1, S2, h1, h2, h3, h4, h5⟩ := Owns.pick r (n := n) (x := x) (by simpa using e)
      refine ⟨w, S1, S0 ++ S2, by simpa using h1, h2, fun a => ?_, fun a m z => ?_, fun F' G' H' y u S1' lf lg k o' d' => ?_⟩
      · rw [List.mem_append, h3, List.mem_append]
        constructor
        · rintro (h | h | h)
          · exact .inr (.inl h)
          · exact .inl h
          · exact .inr (.inr h)
        · rintro (h | h | h)
          · exact .inr (.inl h)
          · exact .inl h
          · exact .inr (.inr h)
      · rcases List.mem_append.mp z with z | z
        · exact d a z ((h3 a).mpr (.inl m))
        · exact h4 a m z
      · obtain ⟨S', h6, h7⟩ := h5 F' G' H' y u S1' lf lg (fun a m => k a (List.mem_append_right _ m)) o' (fun a m z => d' a m (List.mem_append_right _ z))
        refine ⟨S0 ++ S', .cons (o.le lf lg fun a m => k a (List.mem_append_left _ m)) h6 fun a m z => ?_, fun a => ?_⟩
        · rcases (h7 a).mp z with z | z
          · exact d' a z (List.mem_append_left _ m)
          · exact d a m ((h3 a).mpr (.inr z))
        · rw [List.mem_append, h7, List.mem_append]
          constructor
          · rintro (h | h | h)
            · exact .inr (.inl h)
            · exact .inl h
            · exact .inr (.inr h)
          · rintro (h | h | h)
            · exact .inr (.inl h)
            · exact .inl h
            · exact .inr (.inr h)
theorem set_same {α : Type} : ∀ {l : List α} {n : Nat} {x : α}, l[n]? = some x → l.set n x = l
  | [], _, _, h => by simp at h
  | y :: l, 0, x, h => by simp at h; simp [h]
  | y :: l, n + 1, x, h => by
    rw [List.set_cons_succ, set_same (by simpa using h)]
theorem Own.path : ∀ (p : List Nat) {x : PV} {v : V} {A : List Addr} {y : PV}, Own K F G H x v A → getP x p = some y → Le F H → ∃ (u : V) (A1 A2 : List Addr), atP H v p = some u ∧ Own K F G H y u A1 ∧ (∀ a, a ∈ A ↔ a ∈ A1 ∨ a ∈ A2) ∧ (∀ a ∈ A1, a ∉ A2) ∧
    ∀ (F' G' H' : Hp) (y' : PV) (A1' : List Addr), Le F F' → Le G G' → (∀ a ∈ A2, ∀ o, H a = some o → H' a = some o) → Own K F' G' H' y' u A1' → (∀ a ∈ A1', a ∉ A2) → ∃ A', Own K F' G' H' (setP x p y') v A' ∧ ∀ a, a ∈ A' ↔ a ∈ A1' ∨ a ∈ A2
  | [], x, v, A, y, o, e, _ => by
    rw [getP] at e; cases e
    refine ⟨v, A, [], by rw [atP], o, fun a => by simp, fun a _ z => (nomatch z), fun F' G' H' y' A1' _ _ _ o' _ => ⟨A1', by rw [setP]; exact o', fun a => by simp⟩⟩
  | n :: p, x, v, A, y, o, e, lf => by
    have main : ∀ {a : Addr} {ws : List V} {xs : List PV} {S : List Addr} (A0 : List Addr), (∃ ob, H a = some ob ∧ kidO ob n = ws[n]?) → Owns K F G H xs ws S → (∀ b ∈ A0, b ∉ S) → (xs[n]?).bind (fun y => getP y p) = some y →
        ∃ (z : PV) (u : V) (S1 S2 : List Addr), xs[n]? = some z ∧ atP H (.ref a) (n :: p) = some u ∧ Own K F G H y u S1 ∧ (∀ b, b ∈ A0 ++ S ↔ b ∈ S1 ∨ b ∈ A0 ++ S2) ∧ (∀ b ∈ S1, b ∉ A0 ++ S2) ∧ ∀ (F' G' H' : Hp) (y' : PV) (A1' : List Addr), Le F F' → Le G G' → (∀ b ∈ A0 ++ S2, ∀ o, H b = some o → H' b = some o) → Own K F' G' H' y' u A1' → (∀ b ∈ A1', b ∉ A0 ++ S2) →
          ∃ S', Owns K F' G' H' (xs.set n (setP z p y')) ws S' ∧ (∀ b ∈ A0, b ∉ S') ∧ ∀ b, b ∈ A0 ++ S' ↔ b ∈ A1' ∨ b ∈ A0 ++ S2 := by
      intro a ws xs S A0 hk os d e
      cases q : xs[n]? with
      | none => rw [q] at e; cases e
      | some z =>
        rw [q] at e
        obtain ⟨w, S1, S2, h1, h2, h3, h4, h5⟩ := os.pick q
        obtain ⟨u, B1, B2, g1, g2, g3, g4, g5⟩ := Own.path p h2 e lf
        obtain ⟨ob, e1, e2⟩ := hk
        refine ⟨z, u, B1, B2 ++ S2, rfl, by rw [atP, e1]; show (kidO ob n).bind _ = _; rw [e2, h1]; exact g1, g2, fun b => ?_, fun b m q' => ?_, fun F' G' H' y' A1' l1 l2 k o' d' => ?_⟩
        · simp only [List.mem_append]
          rw [h3, g3]
          constructor
          · rintro (h | (h | h) | h)
            · exact .inr (.inl h)
            · exact .inl h
            · exact .inr (.inr (.inl h))
            · exact .inr (.inr (.inr h))
          · rintro (h | h | h | h)
            · exact .inr (.inl (.inl h))
            · exact .inl h
            · exact .inr (.inl (.inr h))
            · exact .inr (.inr h)
        · have hb : b ∈ S1 := (g3 b).mpr (.inl m)
          simp only [List.mem_append] at q'
          rcases q' with q' | q' | q'
          · exact d b q' ((h3 b).mpr (.inl hb))
          · exact g4 b m q'
          · exact h4 b hb q'
        · obtain ⟨C1, k1, k2⟩ := g5 F' G' H' y' A1' l1 l2 (fun b m => k b (by simp [m])) o' (fun b m q' => d' b m (by simp [q']))
          have dC : ∀ b ∈ C1, b ∉ S2 := fun b m q' => by
            rcases (k2 b).mp m with z' | z'
            · exact d' b z' (by simp [q'])
            · exact h4 b ((g3 b).mpr (.inr z')) q'
          obtain ⟨S', k3, k4⟩ := h5 F' G' H' (setP z p y') w C1 l1 l2 (fun b m => k b (by simp [m])) k1 dC
          rw [set_same h1] at k3
          refine ⟨S', k3, fun b m q' => ?_, fun b => ?_⟩
          · rcases (k4 b).mp q' with z' | z'
            · rcases (k2 b).mp z' with z2 | z2
              · exact d' b z2 (by simp [m])
              · exact d b m ((h3 b).mpr (.inl ((g3 b).mpr (.inr z2))))
            · exact d b m ((h3 b).mpr (.inr z'))
          · simp only [List.mem_append]
            rw [k4, k2]
            constructor
            · rintro (h | (h | h) | h)
              · exact .inr (.inl h)
              · exact .inl h
              · exact .inr (.inr (.inl h))
              · exact .inr (.inr (.inr h))
            · rintro (h | h | h | h)
              · exact .inr (.inl (.inl h))
              · exact .inl h
              · exact .inr (.inl (.inr h))
              · exact .inr (.inr h)
    cases x with
    | cell f t xs =>
      cases f with
      | own =>
        rw [getP] at e
        cases o with
        | fz h => cases h
        | bw h => cases h
        | cell i os d =>
          rename_i a ws A0 S
          obtain ⟨z, u, S1, S2, q, g1, g2, g3, g4, g5⟩ := main A0 i.kid os d e
          refine ⟨u, S1, A0 ++ S2, g1, g2, g3, g4, fun F' G' H' y' A1' l1 l2 k o' d' => ?_⟩
          obtain ⟨S', k1, k2, k3⟩ := g5 F' G' H' y' A1' l1 l2 k o' d'
          refine ⟨A0 ++ S', ?_, k3⟩
          rw [setP, q]
          exact .cell (i.mono fun b m => k b (List.mem_append_left _ m)) k1 k2
      | sh b => rw [getP] at e; cases e; all_goals (intros; rename_i h; cases h)
    | tup xs =>
      rw [getP] at e
      by_cases nn : PV.nowns xs = true
      · rw [if_pos nn] at e; cases e
      · rw [if_neg nn] at e
        cases o with
        | fz h =>
          have := h.nown (by decide) _ _
          rw [PV.nown] at this; exact (nn this).elim
        | bw h =>
          have := h.nown (by decide) _ _
          rw [PV.nown] at this; exact (nn this).elim
        | tup ha os =>
          rename_i a ws
          obtain ⟨z, u, S1, S2, q, g1, g2, g3, g4, g5⟩ := main [] ⟨_, lf _ _ ha, rfl⟩ os (fun b m => by cases m) e
          refine ⟨u, S1, S2, g1, g2, by simpa using g3, by simpa using g4, fun F' G' H' y' A1' l1 l2 k o' d' => ?_⟩
          obtain ⟨S', k1, k2, k3⟩ := g5 F' G' H' y' A1' l1 l2 (by simpa using k) o' (by simpa using d')
          refine ⟨S', ?_, by simpa using k3⟩
          rw [setP, q]
          exact .tup (l1 _ _ ha) k1
    | non => rw [getP] at e; cases e; all_goals (intros; rename_i h; cases h)
    | bl b => rw [getP] at e; cases e; all_goals (intros; rename_i h; cases h)
    | int b => rw [getP] at e; cases e; all_goals (intros; rename_i h; cases h)
    | str b => rw [getP] at e; cases e; all_goals (intros; rename_i h; cases h)
    | cl b => rw [getP] at e; cases e; all_goals (intros; rename_i h; cases h)
    | exc b => rw [getP] at e; cases e; all_goals (intros; rename_i h; cases h)
    | obj b => rw [getP] at e; cases e; all_goals (intros; rename_i h; cases h)
    | loc b q => rw [getP] at e; cases e; all_goals (intros; rename_i h; cases h)
end
end Z

namespace Z
open PySem PySem.Spec PyProof.Rows L2
/-! ### statements -/
inductive Fw where
  | nx | bk | ct | rt (x : PV)
abbrev Sm := St → Rs Fw
def fwd (K : KC) (B : Bs) (c : Cf) (D : Ends) : Fw → St → Prop
  | .nx, s' => ∀ σ' c', Rel K B c' σ' → Step [] c c' → c'.s = s' → D.nx σ' (c'.R B)
  | .bk, s' => ∀ σ' c', Rel K B c' σ' → Step [] c c' → c'.s = s' → D.bk σ' (c'.R B)
  | .ct, s' => ∀ σ' c', Rel K B c' σ' → Step [] c c' → c'.s = s' → D.ct σ' (c'.R B)
  | .rt x, s' => ∀ v A σ' c', Rel K B c' σ' → Step A c c' → c'.s = s' → Own K (c'.F B.D) c'.G c'.H x v A → D.rt v (c'.R B)
def evS (K : KC) (B : Bs) (W : WZ) (f : Sm) : TS := fun D σ Hr => ∃ c, Hr = c.R B ∧ Rel K B c σ ∧ c.T = [] ∧ (f c.s).post (fwd K B c D) W
def VS (X : Cx) (B : Bs) (W : WZ) (st : Stmt) (f : Sm) : Prop := PS X st (evS (kc X B) B W f)
def VSs (X : Cx) (B : Bs) (W : WZ) (st : List Stmt) (f : Sm) : Prop := PSs X st (evS (kc X B) B W f)
theorem ps_imp {X : Cx} {e : Stmt} {t t' : TS} (h : PS X e t) (i : ∀ D σ H, t' D σ H → t D σ H) : PS X e t' := ⟨fun pins s σ H D I q => h.run pins s σ H D I (i _ _ _ q)⟩
theorem pss_imp {X : Cx} {e : List Stmt} {t t' : TS} (h : PSs X e t) (i : ∀ D σ H, t' D σ H → t D σ H) : PSs X e t' := ⟨fun pins s σ H D I q => h.run pins s σ H D I (i _ _ _ q)⟩
section
variable {K : KC} {B : Bs} {W : WZ} {ms : List Nat} {c c' c1 c2 : Cf} {σ : L2.St} {A T : List Addr}
theorem Step.trans0 (a : Step [] c c1) (b : Step A c1 c2) : Step A c c2 := by
  have := a.trans b
  simpa using this
theorem fwd_step {D : Ends} {fl : Fw} {s : St} (st : Step [] c c1) (h : fwd K B c D fl s) : fwd K B c1 D fl s := by
  cases fl with
  | nx => exact fun σ' c' R s2 e => h σ' c' R (st.trans0 s2) e
  | bk => exact fun σ' c' R s2 e => h σ' c' R (st.trans0 s2) e
  | ct => exact fun σ' c' R s2 e => h σ' c' R (st.trans0 s2) e
  | rt x => exact fun v A σ' c' R s2 e o => h v A σ' c' R (st.trans0 s2) e o
theorem evS_run {f : Sm} {P : Fw → St → Prop} {D : Ends} (R : Rel K B c σ) (hT : c.T = []) (h : (f c.s).post P W) (k : ∀ fl s, P fl s → fwd K B c D fl s) : evS K B W f D σ (c.R B) :=
  ⟨c, rfl, R, hT, Rs.post_imp h k⟩
/-- into a slot -/
theorem Rel.put {i : Nat} {x : PV} {v : V} (R : Rel K B c σ) (hT : c.T = A ++ T) (dT : ∀ a ∈ A, a ∉ T) (o : Own K (c.F B.D) c.G c.H x v A) (hi : i < c.s.length) (hr : B.root i = none) :
    Rel K B ⟨c.s.set i (some x), c.H, fun j => if j = i then A else c.As j, T⟩ (σ.set i (some v)) ∧ Le (c.F B.D) (Cf.F ⟨c.s.set i (some x), c.H, fun j => if j = i then A else c.As j, T⟩ B.D) ∧ Le c.G (Cf.G ⟨c.s.set i (some x), c.H, fun j => if j = i then A else c.As j, T⟩) := by
  have inT : ∀ a, a ∈ A → a ∈ c.T := fun a m => by rw [hT]; exact List.mem_append_left _ m
  have inT2 : ∀ a, a ∈ T → a ∈ c.T := fun a m => by rw [hT]; exact List.mem_append_right _ m
  have mine : ∀ a, Cf.mine ⟨c.s.set i (some x), c.H, fun j => if j = i then A else c.As j, T⟩ a → a ∈ A ∨ c.mine a := fun a ⟨j, m⟩ => by
    by_cases z : j = i
    · simp only [if_pos z] at m; exact .inl m
    · simp only [if_neg z] at m; exact .inr ⟨j, m⟩
  have lf : Le (c.F B.D) (Cf.F ⟨c.s.set i (some x), c.H, fun j => if j = i then A else c.As j, T⟩ B.D) := fun a u z => by
    obtain ⟨h1, h2, h3, h4⟩ := F_eq.mp z
    exact F_eq.mpr ⟨h1, fun q => h2 (inT2 a q), fun q => (mine a q).elim (fun q => h2 (inT a q)) h3, h4⟩
  have lg : Le c.G (Cf.G ⟨c.s.set i (some x), c.H, fun j => if j = i then A else c.As j, T⟩) := fun a u z => by
    obtain ⟨h2, h3, h4⟩ := G_eq.mp z
    exact G_eq.mpr ⟨fun q => h2 (inT2 a q), fun q => (mine a q).elim (fun q => h2 (inT a q)) h3, h4⟩
  have own : ∀ a, a ∈ T ∨ Cf.mine ⟨c.s.set i (some x), c.H, fun j => if j = i then A else c.As j, T⟩ a → a ∈ c.T ∨ c.mine a := fun a h => by
    rcases h with h | h
    · exact .inl (inT2 a h)
    · exact (mine a h).imp_left (inT a)
  have hi2 : i < σ.length := by rw [R.len]; exact hi
  refine ⟨⟨by simp [R.len], fun j y e => ?_, fun j n => ?_, fun j k a m1 m2 => ?_, fun j a m t => ?_, fun a h => R.nD a (own a h), fun a h => R.live a (h.imp_left (inT2 a)), R.keep, fun a h => R.new a (own a h), fun j w h => ?_, fun a ob h => ?_⟩, lf, lg⟩
  · by_cases z : j = i
    · subst z
      simp only [List.getElem?_set_self hi] at e
      cases e
      refine ⟨v, List.getElem?_set_self hi2, ?_⟩
      simp only [if_true]
      exact o.le lf lg fun _ _ _ h => h
    · simp only [List.getElem?_set_ne (Ne.symm z)] at e
      obtain ⟨w, h1, h2⟩ := R.own j y e
      refine ⟨w, by rw [List.getElem?_set_ne (Ne.symm z)]; exact h1, ?_⟩
      simp only [if_neg z]
      exact h2.le lf lg fun _ _ _ h => h
  · by_cases z : j = i
    · subst z; exact (n x (List.getElem?_set_self hi)).elim
    · simp only [if_neg z]
      refine R.dead j fun y q => n y ?_
      simp only [List.getElem?_set_ne (Ne.symm z)]; exact q
  · by_cases z : j = i
    · simp only [if_pos z] at m1
      by_cases z2 : k = i
      · rw [z, z2]
      · simp only [if_neg z2] at m2
        exact (R.nT k a m2 (inT a m1)).elim
    · simp only [if_neg z] at m1
      by_cases z2 : k = i
      · simp only [if_pos z2] at m2
        exact (R.nT j a m1 (inT a m2)).elim
      · simp only [if_neg z2] at m2
        exact R.dis j k a m1 m2
  · by_cases z : j = i
    · simp only [if_pos z] at m; exact dT a m t
    · simp only [if_neg z] at m; exact R.nT j a m (inT2 a t)
  · have ne : i ≠ j := fun z => by rw [← z, hr] at h; cases h
    rw [List.getElem?_set_ne ne]; exact R.root j w h
  · obtain ⟨h1, h2, h3⟩ := R.lkd a ob h
    exact ⟨fun q => h1 (inT2 a q), fun q => (mine a q).elim (fun q => h1 (inT a q)) h2, h3⟩
theorem Aft.put {i : Nat} {x : PV} {v : V} (R : Rel K B c σ) (a : Aft K B ms A c σ c1) (o : Own K (c1.F B.D) c1.G c1.H x v A) (hi : i < c1.s.length) (hr : B.root i = none) :
    ∃ c2, Rel K B c2 (σ.set i (some v)) ∧ Step [] c c2 ∧ c2.s = c1.s.set i (some x) ∧ c2.H = c1.H := by
  refine ⟨_, (a.rel.put a.st.T (a.heldT R) o hi hr).1, ⟨a.st.keep, fun y h => ?_, rfl⟩, rfl, rfl⟩
  rcases h with h | ⟨j, m⟩
  · cases h
  · by_cases z : j = i
    · simp only [if_pos z] at m; exact a.st.new y (.inl m)
    · simp only [if_neg z] at m; exact a.st.new y (.inr ⟨j, m⟩)
/-- forgotten -/
theorem Rel.kill (R : Rel K B c σ) (i : Nat) : Rel K B ⟨c.s.set i none, c.H, fun j => if j = i then [] else c.As j, c.T⟩ σ ∧ Step [] c ⟨c.s.set i none, c.H, fun j => if j = i then [] else c.As j, c.T⟩ := by
  have sub : ∀ a, Cf.mine ⟨c.s.set i none, c.H, fun j => if j = i then [] else c.As j, c.T⟩ a → c.mine a := fun a ⟨j, m⟩ => by
    by_cases z : j = i
    · simp only [if_pos z] at m; cases m
    · simp only [if_neg z] at m; exact ⟨j, m⟩
  have st : Step [] c ⟨c.s.set i none, c.H, fun j => if j = i then [] else c.As j, c.T⟩ := ⟨fun _ _ _ h => h, fun a h => h.elim (fun z => by cases z) fun z => .inl (sub a z), rfl⟩
  refine ⟨R.mk' st (fun _ m => by cases m) (fun _ m => by cases m) (by simp [R.len]) (fun j => ?_) (fun j k a m1 m2 => ?_) R.root, st⟩
  · by_cases z : j = i
    · subst z
      refine .inr (.inr ⟨fun x q => ?_, by simp⟩)
      by_cases hi : j < c.s.length
      · simp only [List.getElem?_set_self hi] at q; cases q
      · have : (c.s.set j none)[j]? = none := List.getElem?_eq_none (by simp; omega)
        simp only [this] at q; cases q
    · refine .inl ⟨⟨?_, by simp [z], fun _ _ => rfl⟩, fun _ _ => rfl⟩
      simp only [List.getElem?_set_ne (Ne.symm z)]
  · by_cases z : j = i
    · simp only [if_pos z] at m1; cases m1
    · by_cases z2 : k = i
      · simp only [if_pos z2] at m2; cases m2
      · simp only [if_neg z] at m1; simp only [if_neg z2] at m2
        exact R.dis j k a m1 m2
def kill (is : List Nat) (s : St) : St := is.foldl (fun s i => s.set i none) s
theorem Rel.kills : ∀ (is : List Nat) {c : Cf}, Rel K B c σ → ∃ c', Rel K B c' σ ∧ Step [] c c' ∧ c'.s = Z.kill is c.s ∧ c'.H = c.H ∧ ∀ j, j ∉ is → Same j c c'
  | [], c, R => ⟨c, R, .refl, rfl, rfl, fun _ _ => .refl⟩
  | i :: is, c, R => by
    obtain ⟨R1, s1⟩ := R.kill i
    obtain ⟨c', R2, s2, e1, e2, e3⟩ := Rel.kills is R1
    refine ⟨c', R2, s1.trans0 s2, e1, e2, fun j nj => ?_⟩
    have ne : j ≠ i := fun z => nj (by rw [z]; simp)
    have s0 : Same j c ⟨c.s.set i none, c.H, fun j => if j = i then [] else c.As j, c.T⟩ := ⟨by simp only [List.getElem?_set_ne (Ne.symm ne)], by simp only [if_neg ne], fun _ _ => rfl⟩
    exact s0.trans (e3 j fun z => nj (List.mem_cons_of_mem _ z))
end
section
variable {X : Cx} {B : Bs} {W : WZ} {ms ma mb mc : List Nat} {a b d e : Expr} {es : List Expr} {fa fb fc : St → Rs PV} {pos p p2 : Pos} {st : Stmt} {rest : List Stmt} {f g : Sm}
/-! ### blocks -/
def sNil : Sm := fun s => .ok .nx s
def sSeq (f g : Sm) : Sm := fun s => (f s).bind fun fl s1 => match fl with
  | .nx => g s1
  | fl => .ok fl s1
theorem vss_nil : VSs X B W [] sNil := pss_imp pss_nil fun D σ H ⟨c, e, R, T0, h⟩ => by subst e; exact h σ c R .refl rfl
theorem vss_one (h : VS X B W st f) : VSs X B W [st] f := pss_one h
theorem vss_cons (h : VS X B W st f) (hs : VSs X B W rest g) : VSs X B W (st :: rest) (sSeq f g) := by
  refine pss_imp (pss_cons h hs) fun D σ H ⟨c, e, R, T0, h⟩ => ?_
  subst e
  refine evS_run R T0 (Rs.post_bind h) fun fl s1 p1 => ?_
  cases fl with
  | nx => exact fun σ1 c1 R1 st1 e1 => evS_run R1 (st1.T.trans T0) (by rw [e1]; exact p1) fun fl s q => fwd_step st1 q
  | bk => exact p1
  | ct => exact p1
  | rt x => exact p1
/-- names that are not read any more -/
def sKill (is : List Nat) (f : Sm) : Sm := fun s => (f s).bind fun fl s1 => .ok fl (kill is s1)
theorem kill_fwd {K : KC} {c : Cf} {D : Ends} {is : List Nat} {fl : Fw} {s : St} (h : fwd K B c D fl (kill is s)) : fwd K B c D fl s := by
  cases fl with
  | nx =>
    intro σ' c' R st e
    obtain ⟨c2, R2, s2, e1, e2, _⟩ := R.kills is
    have := h σ' c2 R2 (st.trans0 s2) (by rw [e1, e])
    show D.nx σ' (lk B.L c'.H)
    rw [← e2]; exact this
  | bk =>
    intro σ' c' R st e
    obtain ⟨c2, R2, s2, e1, e2, _⟩ := R.kills is
    have := h σ' c2 R2 (st.trans0 s2) (by rw [e1, e])
    show D.bk σ' (lk B.L c'.H)
    rw [← e2]; exact this
  | ct =>
    intro σ' c' R st e
    obtain ⟨c2, R2, s2, e1, e2, _⟩ := R.kills is
    have := h σ' c2 R2 (st.trans0 s2) (by rw [e1, e])
    show D.ct σ' (lk B.L c'.H)
    rw [← e2]; exact this
  | rt x =>
    intro v A σ' c' R st e o
    obtain ⟨c2, R2, s2, e1, e2, _⟩ := R.kills is
    have st2 : Step A c c2 := by
      have := st.trans s2
      simpa using this
    have := h v A σ' c2 R2 st2 (by rw [e1, e]) (o.le s2.F s2.G fun a m u hu => by rw [e2]; exact hu)
    show D.rt v (lk B.L c'.H)
    rw [← e2]; exact this
theorem vs_kill (is : List Nat) (h : VS X B W st f) : VS X B W st (sKill is f) :=
  ps_imp h fun D σ H ⟨c, e, R, T0, h⟩ => by subst e; exact evS_run R T0 (Rs.post_bind h) fun fl s q => kill_fwd q
theorem vss_kill (is : List Nat) (h : VSs X B W rest f) : VSs X B W rest (sKill is f) :=
  pss_imp h fun D σ H ⟨c, e, R, T0, h⟩ => by subst e; exact evS_run R T0 (Rs.post_bind h) fun fl s q => kill_fwd q
theorem vs_pass : VS X B W (.Pass pos) sNil := ps_imp ps_pass fun D σ H ⟨c, e, R, T0, h⟩ => by subst e; exact h σ c R .refl rfl
def sBreak : Sm := fun s => .ok .bk s
def sCont : Sm := fun s => .ok .ct s
theorem vs_break : VS X B W (.Break pos) sBreak := ps_imp ps_break fun D σ H ⟨c, e, R, T0, h⟩ => by subst e; exact h σ c R .refl rfl
theorem vs_continue : VS X B W (.Continue pos) sCont := ps_imp ps_continue fun D σ H ⟨c, e, R, T0, h⟩ => by subst e; exact h σ c R .refl rfl
def sExpr (f : St → Rs PV) : Sm := fun s => (f s).bind fun _ s1 => .ok .nx s1
theorem vs_expr (h : VE X B W ms e fa) (hs : swapsWith e none pos.line X.env = pure false := by rfl) : VS X B W (.Expr e pos) (sExpr fa) := by
  refine ps_imp (ps_expr h hs) fun D σ H ⟨c, e, R, T0, h⟩ => ?_
  subst e
  exact evE_run R (Rs.post_bind h) fun x v c1 a1 v1 p1 => p1 σ c1 a1.rel a1.st rfl
theorem vs_doc {x : Str} {j : Nat} {pos' : Pos} : VS X B W (.Expr (.Constant (.str x) j pos) pos') sNil := ps_imp ps_doc fun D σ H ⟨c, e, R, T0, h⟩ => by subst e; exact h σ c R .refl rfl
/-! ### names set -/
def sSet (i : Nat) (f : St → Rs PV) : Sm := fun s => (f s).bind fun x s1 => if i < s1.length then .ok .nx (s1.set i (some x)) else .bad
theorem vs_set (i : Nat) {x : Str} {pos' : Pos} (hN : X.N.Nodup) (h : VF X B W ms e fa) (hr : B.root i = none) (hi : X.N[i]? = some x) (hx : Loc X.env.scope x) (hs : swapsWith e (some (.Name x pos')) pos.line X.env = pure false := by rfl) (hf : X.fn x = true ∨ X.env.scope.names.lookup x = some .local := by first | exact .inl rfl | exact .inr rfl | assumption) :
    VS X B W (.Assign [.Name x pos'] e pos) (sSet i fa) := by
  refine ps_imp (ps_set hN hi hx h hs hf) fun D σ H ⟨c, e, R, T0, h⟩ => ?_
  subst e
  refine evF_run R (Rs.post_bind h) fun x v A c1 a1 o p1 => ?_
  by_cases n : i < c1.s.length
  · rw [if_pos n] at p1
    obtain ⟨c2, R2, s2, e1, e2⟩ := a1.put R o n hr
    have := p1 _ c2 R2 s2 e1
    show D.nx _ (lk B.L c1.H)
    rw [← e2]; exact this
  · rw [if_neg n] at p1; exact p1.elim
/-! ### several names -/
theorem Rel.putAll {K : KC} {T : List Addr} : ∀ (is : List Nat) {xs : List PV} {vs : List V} {S : List Addr} {c : Cf} {σ : L2.St}, Rel K B c σ → c.T = S ++ T → (∀ a ∈ S, a ∉ T) → Owns K (c.F B.D) c.G c.H xs vs S → xs.length = is.length → (∀ i ∈ is, i < c.s.length) → (∀ i ∈ is, B.root i = none) →
    ∃ c2, Rel K B c2 ((is.zip vs).foldl (fun r q => r.set q.1 (some q.2)) σ) ∧ c2.s = (is.zip xs).foldl (fun r q => r.set q.1 (some q.2)) c.s ∧ c2.H = c.H ∧ c2.T = T ∧ (∀ a, c2.mine a → a ∈ S ∨ c.mine a) ∧ ∀ j, j ∉ is → Same j c c2
  | [], [], _, _, c, σ, R, hT, dT, o, _, _, _ => by
    cases o
    exact ⟨c, R, rfl, rfl, hT, fun a h => .inr h, fun _ _ => .refl⟩
  | i :: is, x :: xs, _, _, c, σ, R, hT, dT, o, hl, hi, hr => by
    cases o with
    | cons o1 os d =>
      rename_i v vs S1 S2
      rw [List.append_assoc] at hT
      have dT1 : ∀ a ∈ S1, a ∉ S2 ++ T := fun a m z => (List.mem_append.mp z).elim (d a m) (dT a (List.mem_append_left _ m))
      obtain ⟨R1, l1, l2⟩ := R.put hT dT1 o1 (hi i List.mem_cons_self) (hr i List.mem_cons_self)
      obtain ⟨c2, R2, e1, e2, e3, e4, e5⟩ := Rel.putAll is R1 rfl (fun a m => dT a (List.mem_append_right _ m)) (os.le l1 l2 fun _ _ _ h => h) (by simpa using hl) (fun j m => by simpa using hi j (List.mem_cons_of_mem _ m)) (fun j m => hr j (List.mem_cons_of_mem _ m))
      refine ⟨c2, by simpa using R2, by simpa using e1, e2, e3, fun a h => ?_, fun j nj => ?_⟩
      · rcases e4 a h with z | ⟨j, z⟩
        · exact .inl (List.mem_append_right _ z)
        · by_cases q : j = i
          · simp only [if_pos q] at z; exact .inl (List.mem_append_left _ z)
          · simp only [if_neg q] at z; exact .inr ⟨j, z⟩
      · have ne : j ≠ i := fun z => nj (by rw [z]; simp)
        have s := e5 j fun z => nj (List.mem_cons_of_mem _ z)
        have s0 : Same j c ⟨c.s.set i (some x), c.H, fun j => if j = i then S1 else c.As j, S2 ++ T⟩ := ⟨by simp only [List.getElem?_set_ne (Ne.symm ne)], by simp only [if_neg ne], fun _ _ => rfl⟩
        exact s0.trans s
  | [], _ :: _, _, _, _, _, _, _, _, _, hl, _, _ => by simp at hl
  | _ :: _, [], _, _, _, _, _, _, _, _, hl, _, _ => by simp at hl
def setAll (is : List Nat) (xs : List PV) (s : St) : St := (is.zip xs).foldl (fun r q => r.set q.1 (some q.2)) s
def selT : PV → Option (List PV)
  | .tup xs => some xs
  | _ => none
def selL : PV → Option (List PV)
  | .cell .own .lst xs => some xs
  | _ => none
def sUnG (sel : PV → Option (List PV)) (is : List Nat) (f : St → Rs PV) : Sm := fun s => (f s).bind fun x s1 => match sel x with
  | some xs => if xs.length = is.length ∧ is.all (fun i => decide (i < s1.length)) then .ok .nx (setAll is xs s1) else .bad
  | none => .bad
abbrev sUn : List Nat → (St → Rs PV) → Sm := sUnG selT
abbrev sUnL : List Nat → (St → Rs PV) → Sm := sUnG selL
theorem vs_unG {is : List Nat} {tg : Expr} {g : TG} {sel : PV → Option (List PV)} {Pq : Hp → Addr → List V → Prop} (hsel : ∀ (c : Cf) (σ : L2.St) (x : PV) (v : V) (A : List Addr) (xs : List PV), Rel (kc X B) B c σ → Own (kc X B) (c.F B.D) c.G c.H x v A → sel x = some xs → ∃ q ws S, v = .ref q ∧ Pq (c.R B) q ws ∧ Owns (kc X B) (c.F B.D) c.G c.H xs ws S ∧ ∀ b ∈ S, b ∈ A) (hg : PG X tg g) (h : VF X B W ms e fa) (hr : ∀ i ∈ is, B.root i = none)
    (hgs : ∀ (a : Addr) (ws : List V) (σ : L2.St) (H : Hp) (Q : L2.St → Hp → Prop), Pq H a ws → ws.length = is.length → Q ((is.zip ws).foldl (fun r q => r.set q.1 (some q.2)) σ) H → g (.ref a) σ H Q)
    (hs : swapsWithSole [tg] e pos.line X.env = pure false := by rfl) (hw : swappedStores [tg] e X.env = pure none := by rfl)
    (h1 : (assignEach [tg] X.env).map (·.2) = [assign tg X.env] := by rfl) : VS X B W (.Assign [tg] e pos) (sUnG sel is fa) := by
  refine ps_imp (ps_asg h hg hs hw h1) fun D σ H ⟨c, e, R, T0, h⟩ => ?_
  subst e
  refine evF_run R (Rs.post_bind h) fun x v A c1 a1 o p1 => ?_
  split at p1
  · rename_i xs ex
    obtain ⟨q, ws, S, rfl, sq, os, hS⟩ := hsel c1 σ x v A xs a1.rel o ex
    by_cases n : xs.length = is.length ∧ is.all (fun i => decide (i < c1.s.length)) = true
    · rw [if_pos n] at p1
      have hT : ∀ a, a ∈ S ++ c.T → a ∈ c1.T := fun a m => by
        rw [a1.st.T]; exact (List.mem_append.mp m).elim (fun m => List.mem_append_left _ (hS a m)) fun m => List.mem_append_right _ m
      have lf : Le (c1.F B.D) (Cf.F { c1 with T := S ++ c.T } B.D) := fun a o z => let ⟨h1, h2, h3, h4⟩ := F_eq.mp z; F_eq.mpr ⟨h1, fun q => h2 (hT a q), h3, h4⟩
      have lg : Le c1.G (Cf.G { c1 with T := S ++ c.T }) := fun a o z => let ⟨h2, h3, h4⟩ := G_eq.mp z; G_eq.mpr ⟨fun q => h2 (hT a q), h3, h4⟩
      have R1 : Rel (kc X B) B { c1 with T := S ++ c.T } σ := by
        have R := a1.rel
        refine ⟨R.len, fun i x e => ?_, R.dead, R.dis, fun i a m t => R.nT i a m (hT a t), fun a h => R.nD a (h.imp_left (hT a)), fun a h => R.live a (h.imp_left (hT a)), R.keep, fun a h => R.new a (h.imp_left (hT a)), R.root, fun a ob h => ?_⟩
        · obtain ⟨v, h1, h2⟩ := R.own i x e
          exact ⟨v, h1, h2.le lf lg fun _ _ _ z => z⟩
        · obtain ⟨h1, h2, h3⟩ := R.lkd a ob h
          exact ⟨fun z => h1 (hT a z), h2, h3⟩
      obtain ⟨c2, R2, e1, e2, e3, e4, _⟩ := Rel.putAll is R1 rfl (fun a m => a1.heldT R a (hS a m)) (os.le lf lg fun _ _ _ h => h) n.1 (fun i m => by simpa using List.all_eq_true.mp n.2 i m) hr
      have st : Step [] c c2 := ⟨fun a o n h => by rw [e2]; exact a1.st.keep a o n h, fun a h => by
        rcases h with h | h
        · cases h
        · exact a1.st.new a ((e4 a h).imp_left (hS a)), e3⟩
      refine hgs q ws σ (c1.R B) _ sq (by rw [← os.length]; exact n.1) ?_
      have := p1 _ c2 R2 st (by rw [e1]; rfl)
      have e2' : c2.H = c1.H := e2
      show D.nx _ (lk B.L c1.H)
      rw [← e2']; exact this
    · rw [if_neg n] at p1; exact p1.elim
  · exact p1.elim
theorem vs_un {is : List Nat} {tg : Expr} {g : TG} (hg : PG X tg g) (h : VF X B W ms e fa) (hr : ∀ i ∈ is, B.root i = none)
    (hgs : ∀ (a : Addr) (ws : List V) (σ : L2.St) (H : Hp) (Q : L2.St → Hp → Prop), SqT X.K H a ws → ws.length = is.length → Q ((is.zip ws).foldl (fun r q => r.set q.1 (some q.2)) σ) H → g (.ref a) σ H Q)
    (hs : swapsWithSole [tg] e pos.line X.env = pure false := by rfl) (hw : swappedStores [tg] e X.env = pure none := by rfl)
    (h1 : (assignEach [tg] X.env).map (·.2) = [assign tg X.env] := by rfl) : VS X B W (.Assign [tg] e pos) (sUn is fa) := by
  refine vs_unG (Pq := fun H a ws => SqT X.K H a ws) (fun c σ x v A xs R o ex => ?_) hg h hr hgs hs hw h1
  cases x with
  | tup ys =>
    cases ex
    obtain ⟨q, ws, S, rfl, h2, h3, e3⟩ := o.viewT F_le G_le
    exact ⟨q, ws, S, rfl, R.lkSqT h2, h3, fun b m => by rw [← e3]; exact m⟩
  | _ => cases ex
theorem vs_unL {is : List Nat} {tg : Expr} {g : TG} (hg : PG X tg g) (h : VF X B W ms e fa) (hr : ∀ i ∈ is, B.root i = none)
    (hgs : ∀ (a : Addr) (ws : List V) (σ : L2.St) (H : Hp) (Q : L2.St → Hp → Prop), SqL X.K H a ws → ws.length = is.length → Q ((is.zip ws).foldl (fun r q => r.set q.1 (some q.2)) σ) H → g (.ref a) σ H Q)
    (hs : swapsWithSole [tg] e pos.line X.env = pure false := by rfl) (hw : swappedStores [tg] e X.env = pure none := by rfl)
    (h1 : (assignEach [tg] X.env).map (·.2) = [assign tg X.env] := by rfl) : VS X B W (.Assign [tg] e pos) (sUnL is fa) := by
  refine vs_unG (Pq := fun H a ws => SqL X.K H a ws) (fun c σ x v A xs R o ex => ?_) hg h hr hgs hs hw h1
  cases x with
  | cell fl t ys =>
    cases fl with
    | own =>
      cases t with
      | lst =>
        cases ex
        obtain ⟨q, ws, A0, S, rfl, h2, h3, h4⟩ := o.view F_le G_le
        exact ⟨q, ws, S, rfl, R.lkSqL (.inl (.inl h2.1)), h3, h4⟩
      | _ => cases ex
    | _ => cases ex
  | _ => cases ex
section
variable {K : PySem.W.Frag} {a : Addr} {ws : List V} {σ : L2.St} {H : Hp} {Q : L2.St → Hp → Prop} {i j k l m : Nat}
theorem un_tup2 (h1 : SqT K H a ws) (h2 : ws.length = 2) (q : Q (([i, j].zip ws).foldl (fun r q => r.set q.1 (some q.2)) σ) H) : gTup K 2 (gCons (gName i) (gCons (gName j) gNil)) (.ref a) σ H Q :=
  match ws, h2, h1, q with
  | [w1, w2], _, h1, q => ⟨a, _, rfl, h1, rfl, w1, [w2], rfl, w2, [], rfl, rfl, q⟩
theorem un_tup3 (h1 : SqT K H a ws) (h2 : ws.length = 3) (q : Q (([i, j, k].zip ws).foldl (fun r q => r.set q.1 (some q.2)) σ) H) : gTup K 3 (gCons (gName i) (gCons (gName j) (gCons (gName k) gNil))) (.ref a) σ H Q :=
  match ws, h2, h1, q with
  | [w1, w2, w3], _, h1, q => ⟨a, _, rfl, h1, rfl, w1, [w2, w3], rfl, w2, [w3], rfl, w3, [], rfl, rfl, q⟩
theorem un_tup4 (h1 : SqT K H a ws) (h2 : ws.length = 4) (q : Q (([i, j, k, l].zip ws).foldl (fun r q => r.set q.1 (some q.2)) σ) H) : gTup K 4 (gCons (gName i) (gCons (gName j) (gCons (gName k) (gCons (gName l) gNil)))) (.ref a) σ H Q :=
  match ws, h2, h1, q with
  | [w1, w2, w3, w4], _, h1, q => ⟨a, _, rfl, h1, rfl, w1, [w2, w3, w4], rfl, w2, [w3, w4], rfl, w3, [w4], rfl, w4, [], rfl, rfl, q⟩
theorem un_tup5 (h1 : SqT K H a ws) (h2 : ws.length = 5) (q : Q (([i, j, k, l, m].zip ws).foldl (fun r q => r.set q.1 (some q.2)) σ) H) : gTup K 5 (gCons (gName i) (gCons (gName j) (gCons (gName k) (gCons (gName l) (gCons (gName m) gNil))))) (.ref a) σ H Q :=
  match ws, h2, h1, q with
  | [w1, w2, w3, w4, w5], _, h1, q => ⟨a, _, rfl, h1, rfl, w1, [w2, w3, w4, w5], rfl, w2, [w3, w4, w5], rfl, w3, [w4, w5], rfl, w4, [w5], rfl, w5, [], rfl, rfl, q⟩
end
/-! ### op= -/
def sAug (i : Nat) (g : G2) (f : St → Rs PV) : Sm := fun s => (eVar i s).bind fun x s0 => (f s0).bind fun y s1 => match g s1 x y with
  | some z => if i < s1.length then .ok .nx (s1.set i (some z)) else .bad
  | none => .bad
theorem vs_aug (i : Nat) {x : Str} {op : Operator} {r : R2} {g : G2} {pos' : Pos} (ho : OpR X (inplaceOp op) r) (hp : POp X B r g) (hN : X.N.Nodup) (h : VE X B W ms e fa) (hr : B.root i = none) (hi : X.N[i]? = some x) (hx : Loc X.env.scope x) (hf : X.fn x = true ∨ X.env.scope.names.lookup x = some .local := by first | exact .inl rfl | exact .inr rfl | assumption) :
    VS X B W (.AugAssign (.Name x pos') op e pos) (sAug i g fa) := by
  refine ps_imp (ps_aug hN hi hx h (show PIp X op r from ho) hf) fun D σ H ⟨c, e, R, T0, h⟩ => ?_
  subst e
  have h := Rs.post_bind h
  unfold eVar at h
  split at h
  · rename_i y hy
    obtain ⟨v, h1, h2⟩ := R.own i y hy
    have vl : Vl (kc X B) B c σ (rdV i y) v := by
      unfold rdV
      by_cases n : y.nown = true
      · rw [if_pos n]
        have e := h2.nown n
        rw [e] at h2
        exact .inr h2
      · rw [if_neg n]; exact .inl ⟨i, rfl, h1⟩
    refine ⟨v, h1, evE_run R (Rs.post_bind h) fun w u c1 a1 v1 p1 => ?_⟩
    split at p1
    · rename_i z hz
      by_cases n : i < c1.s.length
      · rw [if_pos n] at p1
        refine hp c1 σ _ w z v u _ a1.rel (vl.step a1.st) v1 hz fun u' H' le o => ?_
        obtain ⟨c2, R2, s2, e1, e2⟩ := (a1.grow le).put R o n hr
        have := p1 _ c2 R2 s2 e1
        have e2' : c2.H = H' := e2
        show D.nx _ (lk B.L H')
        rw [← e2']; exact this
      · rw [if_neg n] at p1; exact p1.elim
    · exact p1.elim
  · exact h.elim
theorem vs_augA (i : Nat) {x : Str} {pos' : Pos} (hN : X.N.Nodup) (h : VE X B W ms e fa) (hr : B.root i = none) (hi : X.N[i]? = some x) (hx : Loc X.env.scope x) (hf : X.fn x = true ∨ X.env.scope.names.lookup x = some .local := by first | exact .inl rfl | exact .inr rfl | assumption) :
    VS X B W (.AugAssign (.Name x pos') .Add e pos) (sAug i (gI0 fun i j => .int (i + j)) fa) := vs_aug i iop_add (pop_I0 fun _ _ _ _ _ => .int _) hN h hr hi hx hf
theorem vs_augS (i : Nat) {x : Str} {pos' : Pos} (hN : X.N.Nodup) (h : VE X B W ms e fa) (hr : B.root i = none) (hi : X.N[i]? = some x) (hx : Loc X.env.scope x) (hf : X.fn x = true ∨ X.env.scope.names.lookup x = some .local := by first | exact .inl rfl | exact .inr rfl | assumption) :
    VS X B W (.AugAssign (.Name x pos') .Sub e pos) (sAug i (gI0 fun i j => .int (i - j)) fa) := vs_aug i iop_sub (pop_I0 fun _ _ _ _ _ => .int _) hN h hr hi hx hf
/-! ### return, raise -/
def sRet (f : St → Rs PV) : Sm := fun s => (f s).bind fun x s1 => if x.nb then .ok (.rt x) s1 else .bad
theorem vs_ret (h : VF X B W ms e fa) : VS X B W (.Return (some e) pos) (sRet fa) := by
  refine ps_imp (ps_ret h) fun D σ H ⟨c, e, R, T0, h⟩ => ?_
  subst e
  refine evF_run R (Rs.post_bind h) fun x v A c1 a1 o p1 => ?_
  by_cases n : x.nb = true
  · rw [if_pos n] at p1
    exact p1 v A σ c1 a1.rel a1.st rfl o
  · rw [if_neg n] at p1; exact p1.elim
def sRetN : Sm := fun s => .ok (.rt .non) s
theorem vs_retN : VS X B W (.Return none pos) sRetN := ps_imp ps_retN fun D σ H ⟨c, e, R, T0, h⟩ => by subst e; exact h .non [] σ c R .refl rfl .non
/-- what is wanted of an error -/
def WP (K : KC) (B : Bs) (W : WZ) : WX := fun cls d σ Hr => d = none ∧ ∃ n c, cls = .ref (B.C n) ∧ Hr = c.R B ∧ Rel K B c σ ∧ W n c.s
def sRaise (n : Str) : Sm := fun s => .ex n s
theorem vs_raise {bmB : List Value} {Bn newId initId : String} {n : Str} {x m : Str} {j : Nat} {pr : Pos} (hc : X.calm = true) (tk : Takes X (WP (kc X B) B W)) (F : ExcBaseFacts Bn newId initId bmB) (q : PySem.W.excIn X.K (B.C n) bmB newId = true) (gC : X.mg x = some (.ref (B.C n))) (kC : PySem.W.keepIn X.K (.ref (B.C n)) = true) (r : Raises X (.ref (B.C n))) (hg : Gl X x) (hdb : (x == ("__debug__" : Str)) = false := by decide) :
    VS X B W (.Raise (some (.Call (.Name x p) [.Constant (.str m) j p2] [] pos)) none pr) (sRaise n) :=
  ps_imp (ps_raise hc tk (pmk_own F q gC kC r hg hdb)) fun D σ H ⟨c, e, R, T0, h⟩ => by subst e; exact ⟨rfl, n, c, rfl, rfl, R, h⟩
/-! ### if, while, for -/
def sIf (t : St → Rs Bool) (f g : Sm) : Sm := fun s => (t s).bind fun b s1 => if b then f s1 else g s1
theorem vs_if {tc : St → Rs Bool} {x y : List Stmt} (hc : VT X B W ms d tc) (hx : VSs X B W x f) (hy : VSs X B W y g) : VS X B W (.If d x y pos) (sIf tc f g) := by
  refine ps_imp (ps_if hc hx hy) fun D σ H ⟨c, e, R, T0, h⟩ => ?_
  subst e
  refine evT_run R (Rs.post_bind h) fun b c1 a1 p1 => ?_
  cases b with
  | true => exact evS_run a1.rel (a1.st.T.trans T0) p1 fun fl s q => fwd_step a1.st q
  | false => exact evS_run a1.rel (a1.st.T.trans T0) p1 fun fl s q => fwd_step a1.st q
def sWh (t : St → Rs Bool) (f : Sm) : Nat → Sm
  | 0, _ => .bad
  | n + 1, s => (t s).bind fun b s1 => if b then (f s1).bind fun fl s2 => match fl with
      | .nx => sWh t f n s2
      | .ct => sWh t f n s2
      | .bk => .ok .nx s2
      | .rt x => .ok (.rt x) s2
    else .ok .nx s1
theorem vs_while (n : Nat) {tc : St → Rs Bool} {body : List Stmt} (hp : PassesOwn (model X.prog X.w) X.A X.env X.xe) (hc : VT X B W ms d tc) (hb : VSs X B W body f) : VS X B W (.While d body [] pos) (sWh tc f n) := by
  refine ps_imp (ps_while hp hc hb) fun D σ H ⟨c0, e, R, T0, h⟩ => ?_
  subst e
  refine ⟨fun k σ H => ∃ c, H = c.R B ∧ Rel (kc X B) B c σ ∧ (sWh tc f k c.s).post (fwd (kc X B) B c0 D) W ∧ Step [] c0 c, ⟨n, c0, rfl, R, h, .refl⟩, fun k σ H ⟨c, e, R, h, st0⟩ => ?_⟩
  subst e
  cases k with
  | zero => exact h.elim
  | succ k =>
    refine evT_run R (Rs.post_bind h) fun b c1 a1 p1 => ?_
    have st1 := st0.trans0 a1.st
    cases b with
    | true =>
      refine ⟨fun σ' H' => ∃ n', n' < k + 1 ∧ ∃ c, H' = c.R B ∧ Rel (kc X B) B c σ' ∧ (sWh tc f n' c.s).post (fwd (kc X B) B c0 D) W ∧ Step [] c0 c, fun σ' H' h => h, ?_⟩
      refine evS_run a1.rel (st1.T.trans T0) (Rs.post_bind p1) fun fl s2 p2 => ?_
      cases fl with
      | nx => exact fun σ2 c2 R2 s2' e2 => ⟨k, Nat.lt_succ_self k, c2, rfl, R2, by rw [e2]; exact p2, st1.trans0 s2'⟩
      | ct => exact fun σ2 c2 R2 s2' e2 => ⟨k, Nat.lt_succ_self k, c2, rfl, R2, by rw [e2]; exact p2, st1.trans0 s2'⟩
      | bk => exact fun σ2 c2 R2 s2' e2 => p2 σ2 c2 R2 (st1.trans0 s2') e2
      | rt x => exact fun v A σ2 c2 R2 s2' e2 o => p2 v A σ2 c2 R2 (st1.trans0 s2') e2 o
    | false => exact p1 σ c1 a1.rel st1 rfl
/-- over values, one after the other -/
def sForL (j : Nat) (f : Sm) : List PV → Sm
  | [], s => .ok .nx s
  | y :: ys, s => if j < s.length then (f (s.set j (some y))).bind fun fl s2 => match fl with
      | .nx => sForL j f ys s2
      | .ct => sForL j f ys s2
      | .bk => .ok .nx s2
      | .rt x => .ok (.rt x) s2
    else .bad
def itemsOf : PV → Option (List PV)
  | .cell (.sh _) .lst xs => some xs
  | .cl xs => some xs
  | _ => none
def sFor (j : Nat) (fi : St → Rs PV) (f : Sm) : Sm := fun s => (fi s).bind fun x s1 => match itemsOf x with
  | some xs => sForL j f xs s1
  | none => .bad
theorem Vl.items {K : KC} {c : Cf} {σ : L2.St} {x : PV} {v : V} {xs : List PV} (h : Vl K B c σ x v) (e : itemsOf x = some xs) : ∃ a ws, v = .ref a ∧ Os K (c.F B.D) c.G c.H xs ws ∧ ∀ c' : Cf, Le c.G c'.G → SqL K.k c'.H a ws := by
  rcases h with ⟨i, rfl, _⟩ | h
  · cases e
  · unfold itemsOf at e
    split at e
    · cases e
      cases h with
      | fz h =>
        cases h with
        | cell a b => exact ⟨_, _, rfl, b.osF, fun c' l => .inl (.inl (G_le _ _ (l _ _ (FG_le _ _ a.1))))⟩
      | bw h =>
        cases h with
        | cell a b => exact ⟨_, _, rfl, b.osB, fun c' l => .inl (.inl (G_le _ _ (l _ _ a.1)))⟩
    · cases e
      cases h with
      | fz h =>
        cases h with
        | cl a b => exact ⟨_, _, rfl, b.osF, fun c' l => G_le.sqL (l.sqL (FG_le.sqL a))⟩
      | bw h =>
        cases h with
        | cl a b => exact ⟨_, _, rfl, b.osB, fun c' l => G_le.sqL (l.sqL a)⟩
    · cases e
theorem drop_get {α : Type} {l : List α} {i : Nat} {x : α} (h : l[i]? = some x) : l.drop i = x :: l.drop (i + 1) := by
  have hi := (List.getElem?_eq_some_iff.mp h)
  rw [List.drop_eq_getElem_cons hi.1, hi.2]
theorem vs_for (j : Nat) {x : Str} {px : Pos} {iter : Expr} {body : List Stmt} (hN : X.N.Nodup) (hp : PassesOwn (model X.prog X.w) X.A X.env X.xe) (hc : X.calm = true) (hi : VE X B W ms iter fa) (hb : VSs X B W body f) (hr : B.root j = none) (hj : X.N[j]? = some x) (hx : Loc X.env.scope x)
    (hf : X.fn x = true ∨ X.env.scope.names.lookup x = some .local := by first | exact .inl rfl | exact .inr rfl | assumption) (hs : ∀ y, foldedSetIterable iter X.env y = pure y := by intro _; rfl) :
    VS X B W (.For (.Name x px) iter body [] pos) (sFor j fa f) := by
  refine ps_imp (ps_for hp hc (pi_list hi) (pg_name hN hj hx hf) hb hs) fun D σ H ⟨c0, e, R, T0, h⟩ => ?_
  subst e
  dsimp only [tFor, iList]
  refine evE_run R (Rs.post_bind h) fun x v c1 a1 v1 p1 => ?_
  split at p1
  · rename_i xs ex
    obtain ⟨a, ws, rfl, os, sq⟩ := v1.items ex
    have sqR : ∀ c' σ', Rel (kc X B) B c' σ' → Step [] c1 c' → SqL X.K (c'.R B) a ws := fun c' σ' R' s' => R'.lkSqL (sq c' s'.G)
    refine ⟨a, rfl, ⟨_, sqR c1 σ a1.rel .refl⟩, for_list (xs := ws) (fun i σ' H' => ∃ c', H' = c'.R B ∧ Rel (kc X B) B c' σ' ∧ Step [] c1 c' ∧ (sForL j f (xs.drop i) c'.s).post (fwd (kc X B) B c0 D) W) ⟨c1, rfl, a1.rel, .refl, p1⟩ (fun i σ' H' _ ⟨c', e, R', s', _⟩ => by subst e; exact sqR c' σ' R' s') (fun i y σ' H' hy ⟨c', e, R', s', hw⟩ => ?_) fun σ' H' ⟨c', e, R', s', hw⟩ => ?_⟩
    · subst e
      have hlt : i < xs.length := by rw [os.length]; exact (List.getElem?_eq_some_iff.mp hy).1
      have hz : xs[i]? = some xs[i] := List.getElem?_eq_getElem hlt
      obtain ⟨y', h1, h2⟩ := os.get hz
      rw [hy] at h1; cases h1
      rw [drop_get hz, sForL] at hw
      by_cases n : j < c'.s.length
      · rw [if_pos n] at hw
        have h2' : Own (kc X B) (c'.F B.D) c'.G c'.H xs[i] y [] := h2.le s'.F s'.G (fun _ m => by cases m)
        obtain ⟨c2, R2, s2, e1, e2⟩ := (Aft.refl (ms := []) R').put R' h2' n hr
        have s12 := s'.trans0 s2
        have hw' := Rs.post_bind hw
        rw [← e1] at hw'
        show evS (kc X B) B W f _ _ (lk B.L c'.H)
        rw [← e2]
        refine evS_run R2 ((a1.st.trans0 s12).T.trans T0) hw' fun fl s3 p3 => ?_
        cases fl with
        | nx => exact fun σ3 c3 R3 s3' e3 => ⟨c3, rfl, R3, s12.trans0 s3', by rw [e3]; exact p3⟩
        | ct => exact fun σ3 c3 R3 s3' e3 => ⟨c3, rfl, R3, s12.trans0 s3', by rw [e3]; exact p3⟩
        | bk => exact fun σ3 c3 R3 s3' e3 => p3 σ3 c3 R3 ((a1.st.trans0 s12).trans0 s3') e3
        | rt x => exact fun v A σ3 c3 R3 s3' e3 o => p3 v A σ3 c3 R3 ((a1.st.trans0 s12).trans0 s3') e3 o
      · rw [if_neg n] at hw; exact hw.elim
    · subst e
      rw [← os.length, List.drop_length, sForL] at hw
      exact hw σ' c' R' (a1.st.trans0 s') rfl
  · exact p1.elim
/-- for j in range(..) -/
def rangeI (lo : Int) (n : Nat) : List PV := (List.range n).map fun (i : Nat) => .int (lo + (i : Int))
def sForR1 (j : Nat) (fi : St → Rs (List PV)) (f : Sm) : Sm := fun s => (fi s).bind fun xs s1 => match xs with
  | [.int z] => if -(2 ^ 62) ≤ z ∧ z < 2 ^ 62 then sForL j f (rangeI 0 z.toNat) s1 else .bad
  | _ => .bad
def sForR2 (j : Nat) (fi : St → Rs (List PV)) (f : Sm) : Sm := fun s => (fi s).bind fun xs s1 => match xs with
  | [.int lo, .int hi] => if -(2 ^ 62) ≤ lo ∧ lo < 2 ^ 62 ∧ -(2 ^ 62) ≤ hi ∧ hi < 2 ^ 62 then sForL j f (rangeI lo (hi - lo).toNat) s1 else .bad
  | _ => .bad
theorem rangeI_get {lo : Int} {n i : Nat} (h : i < n) : (rangeI lo n)[i]? = some (.int (lo + (i : Int))) := by
  unfold rangeI
  rw [List.getElem?_map, List.getElem?_range h]; rfl
theorem rangeI_len {lo : Int} {n : Nat} : (rangeI lo n).length = n := by simp [rangeI]
theorem forR_core {K : KC} {j : Nat} {lo : Int} {n : Nat} {D : Ends} {c0 c1 : Cf} {σ : L2.St} (R1 : Rel K B c1 σ) (T0 : c0.T = []) (s01 : Step [] c0 c1) (hr : B.root j = none) (p1 : (sForL j f (rangeI lo n) c1.s).post (fwd K B c0 D) W) :
    ∃ Wv : Nat → Nat → L2.St → Hp → Prop, (∃ m, Wv 0 m σ (c1.R B)) ∧ ∀ i m σ H, Wv i m σ H →
      ((Itr lo n).stop i H ∧ D.nx σ H) ∨ ((Itr lo n).go i H ∧ ∃ N : L2.St → Hp → Prop, (∀ σ' H', N σ' H' → ∃ m', m' < m ∧ Wv (i + 1) m' σ' H') ∧ ∀ x H', (Itr lo n).yld i H x H' → gName j x σ H' fun σ2 H2 => evS K B W f { D with nx := N, ct := N, bk := D.nx } σ2 H2) := by
  refine for_range (fun i σ' H' => ∃ c', H' = c'.R B ∧ Rel K B c' σ' ∧ Step [] c1 c' ∧ (sForL j f ((rangeI lo n).drop i) c'.s).post (fwd K B c0 D) W) ⟨c1, rfl, R1, .refl, p1⟩ (fun i σ' H' hi ⟨c', e, R', s', hw⟩ => ?_) fun σ' H' ⟨c', e, R', s', hw⟩ => ?_
  · subst e
    rw [drop_get (rangeI_get hi), sForL] at hw
    by_cases n' : j < c'.s.length
    · rw [if_pos n'] at hw
      obtain ⟨c2, R2, s2, e1, e2⟩ := (Aft.refl (ms := []) R').put (v := .int (lo + (i : Int))) R' (.int _) n' hr
      have s12 := s'.trans0 s2
      have hw' := Rs.post_bind hw
      rw [← e1] at hw'
      show evS K B W f _ _ (lk B.L c'.H)
      rw [← e2]
      refine evS_run R2 ((s01.trans0 s12).T.trans T0) hw' fun fl s3 p3 => ?_
      cases fl with
      | nx => exact fun σ3 c3 R3 s3' e3 => ⟨c3, rfl, R3, s12.trans0 s3', by rw [e3]; exact p3⟩
      | ct => exact fun σ3 c3 R3 s3' e3 => ⟨c3, rfl, R3, s12.trans0 s3', by rw [e3]; exact p3⟩
      | bk => exact fun σ3 c3 R3 s3' e3 => p3 σ3 c3 R3 ((s01.trans0 s12).trans0 s3') e3
      | rt x => exact fun v A σ3 c3 R3 s3' e3 o => p3 v A σ3 c3 R3 ((s01.trans0 s12).trans0 s3') e3 o
    · rw [if_neg n'] at hw; exact hw.elim
  · subst e
    have : (rangeI lo n).drop n = [] := List.drop_of_length_le (by rw [rangeI_len]; exact Nat.le_refl _)
    rw [this, sForL] at hw
    exact hw σ' c' R' (s01.trans0 s') rfl
theorem vs_forR1 (j : Nat) {x : Str} {px pp pq : Pos} {body : List Stmt} {ga : St → Rs (List PV)} (hN : X.N.Nodup) (hp : PassesOwn (model X.prog X.w) X.A X.env X.xe) (hc : X.calm = true) (hm : X.mg "range" = none) (hi : VA X B W ms [a] ga) (hb : VSs X B W body f) (hr : B.root j = none) (hg : Gl X "range") (hj : X.N[j]? = some x) (hx : Loc X.env.scope x)
    (hf : X.fn x = true ∨ X.env.scope.names.lookup x = some .local := by first | exact .inl rfl | exact .inr rfl | assumption) (hs : starEach [a] X.env = [(false, eval a X.env)] := by rfl) (hss : ∀ y, foldedSetIterable (.Call (.Name "range" pp) [a] [] pq) X.env y = pure y := by intro _; rfl) :
    VS X B W (.For (.Name x px) (.Call (.Name "range" pp) [a] [] pq) body [] pos) (sForR1 j ga f) := by
  refine ps_imp (ps_for hp hc (pi_range1 hg hm hi hs) (pg_name hN hj hx hf) hb hss) fun D σ H ⟨c0, e, R, T0, h⟩ => ?_
  subst e
  dsimp only [tFor, iRng1]
  refine evA_run R (Rs.post_bind h) fun xs vs c1 a1 v1 p1 => ?_
  split at p1
  · rename_i z
    by_cases n : -(2 ^ 62) ≤ z ∧ z < 2 ^ 62
    · rw [if_pos n] at p1
      obtain ⟨v, rfl, r⟩ := v1.one
      exact ⟨z, by rw [r.int], n.1, n.2, forR_core a1.rel T0 a1.st hr p1⟩
    · rw [if_neg n] at p1; exact p1.elim
  · exact p1.elim
theorem vs_forR2 (j : Nat) {x : Str} {px pp pq : Pos} {body : List Stmt} {ga : St → Rs (List PV)} (hN : X.N.Nodup) (hp : PassesOwn (model X.prog X.w) X.A X.env X.xe) (hc : X.calm = true) (hm : X.mg "range" = none) (hi : VA X B W ms [a, b] ga) (hb : VSs X B W body f) (hr : B.root j = none) (hg : Gl X "range") (hj : X.N[j]? = some x) (hx : Loc X.env.scope x)
    (hf : X.fn x = true ∨ X.env.scope.names.lookup x = some .local := by first | exact .inl rfl | exact .inr rfl | assumption) (hs : starEach [a, b] X.env = [(false, eval a X.env), (false, eval b X.env)] := by rfl) (hs2 : starEach [b] X.env = [(false, eval b X.env)] := by rfl) (hss : ∀ y, foldedSetIterable (.Call (.Name "range" pp) [a, b] [] pq) X.env y = pure y := by intro _; rfl) :
    VS X B W (.For (.Name x px) (.Call (.Name "range" pp) [a, b] [] pq) body [] pos) (sForR2 j ga f) := by
  refine ps_imp (ps_for hp hc (pi_range2 hg hm hi hs hs2) (pg_name hN hj hx hf) hb hss) fun D σ H ⟨c0, e, R, T0, h⟩ => ?_
  subst e
  dsimp only [tFor, iRng2]
  refine evA_run R (Rs.post_bind h) fun xs vs c1 a1 v1 p1 => ?_
  split at p1
  · rename_i lo hi'
    by_cases n : -(2 ^ 62) ≤ lo ∧ lo < 2 ^ 62 ∧ -(2 ^ 62) ≤ hi' ∧ hi' < 2 ^ 62
    · rw [if_pos n] at p1
      obtain ⟨v, w, rfl, r1, r2⟩ := v1.two
      exact ⟨lo, hi', by rw [r1.int, r2.int], n, forR_core a1.rel T0 a1.st hr p1⟩
    · rw [if_neg n] at p1; exact p1.elim
  · exact p1.elim
end
end Z

namespace Z
open PySem PySem.Spec PyProof.Rows L2
/-! ### what a def does: its parameters' values in, an answer and the changed parameters out -/
inductive Fr where
  | bad | ok (y : PV) (ys : St) | ex (c : Str) (ys : St)
def fin : List Bool → St → St
  | [], _ => []
  | m :: mu, s => (if m then s.head?.join else none) :: fin mu s.tail
theorem fin_len : ∀ {mu : List Bool} {s : St}, (fin mu s).length = mu.length
  | [], _ => rfl
  | m :: mu, s => by rw [fin, List.length_cons, fin_len]; rfl
theorem fin_get : ∀ {mu : List Bool} {s : St} {i : Nat} {x : PV}, (fin mu s)[i]? = some (some x) → mu[i]? = some true ∧ s[i]? = some (some x)
  | [], _, _, _, h => by simp [fin] at h
  | m :: mu, s, 0, x, h => by
    cases m with
    | true =>
      cases s with
      | nil => simp [fin] at h
      | cons y s => simp [fin] at h; subst h; exact ⟨rfl, rfl⟩
    | false => simp [fin] at h
  | m :: mu, s, i + 1, x, h => by
    rw [fin, List.getElem?_cons_succ] at h
    obtain ⟨h1, h2⟩ := fin_get h
    cases s with
    | nil => simp at h2
    | cons y s => exact ⟨by simpa using h1, by simpa using h2⟩
theorem get_fin : ∀ {mu : List Bool} {s : St} {i : Nat} {x : PV}, mu[i]? = some true → s[i]? = some (some x) → (fin mu s)[i]? = some (some x)
  | [], _, _, _, h, _ => by simp at h
  | m :: mu, s, 0, x, h, g => by
    simp at h; subst h
    cases s with
    | nil => simp at g
    | cons y s => simp at g; subst g; rfl
  | m :: mu, s, i + 1, x, h, g => by
    rw [fin, List.getElem?_cons_succ]
    cases s with
    | nil => simp at g
    | cons y s => exact get_fin (by simpa using h) (by simpa using g)
def nbO : Option PV → Bool
  | some x => x.nb
  | none => true
def runB (mu : List Bool) (N : Nat) (f : Sm) (xs : List PV) : Fr :=
  match f (xs.map some ++ List.replicate (N - xs.length) none) with
  | .ok .nx s => if (fin mu s).all nbO then .ok .non (fin mu s) else .bad
  | .ok (.rt y) s => if y.nb && (fin mu s).all nbO then .ok y (fin mu s) else .bad
  | .ok _ _ => .bad
  | .ex c s => if (fin mu s).all nbO then .ex c (fin mu s) else .bad
  | .bad => .bad
def toSp (K : KC) (mu : List Bool) (run : List PV → Fr) : Sp := fun vs H Q E => vs.length = mu.length ∧ ∃ (B : Bs) (c : Cf) (xs : List PV), H = c.R B ∧ B.C = K.C ∧ c.s = xs.map some ∧ Rel K B c (vs.map some) ∧ c.T = [] ∧ B.H0 = c.H ∧ (∀ a, a ∈ B.A0 ↔ c.mine a) ∧ (∀ i, B.root i = if mu[i]? = some true then vs[i]? else none) ∧
  match run xs with
  | .ok y ys => y.nb = true → ys.all nbO = true → ∀ v A c', Rel K B c' (vs.map some) → Step A c c' → c'.s = ys → Own K (c'.F B.D) c'.G c'.H y v A → Q v (c'.R B)
  | .ex n ys => ys.all nbO = true → ∀ c', Rel K B c' (vs.map some) → Step [] c c' → c'.s = ys → E (.ref (B.C n)) none (c'.R B)
  | .bad => False
structure Fn (P : Program) (w : World) (K : KC) (mg : Str → Option Value) (base : Heap) (x : Str) (k : Nat) (mu : List Bool) (run : List PV → Fr) : Prop where
  ex : ∃ f fd ps, mg x = some (.ref f) ∧ PySem.W.keepIn K.k (.ref f) = true ∧ Binds K.k fd ps [] ∧ FnOk P w K.k mg base (L2.CX P w) k f fd ps (toSp K mu run)
theorem Fn.mono {P : Program} {w : World} {K : KC} {mg : Str → Option Value} {base : Heap} {x : Str} {j k : Nat} {mu : List Bool} {run : List PV → Fr} (F : Fn P w K mg base x j mu run) (h : j ≤ k) : Fn P w K mg base x k mu run := by
  obtain ⟨f, fd, ps, h1, h2, h3, h4⟩ := F.ex
  exact ⟨f, fd, ps, h1, h2, h3, h4.mono h⟩
section
variable {K : KC} {B : Bs} {c c' : Cf} {σ : L2.St} {A : List Addr} {mu : List Bool}
/-- only the parameters that are handed back -/
theorem Rel.cut {vs : List V} (R : Rel K B c σ) (hv : vs.length = mu.length) (hr : ∀ i, B.root i = if mu[i]? = some true then vs[i]? else none) :
    Rel K B ⟨fin mu c.s, c.H, fun i => if mu[i]? = some true then c.As i else [], c.T⟩ (vs.map some) ∧ Le (c.F B.D) (Cf.F ⟨fin mu c.s, c.H, fun i => if mu[i]? = some true then c.As i else [], c.T⟩ B.D) ∧ Le c.G (Cf.G ⟨fin mu c.s, c.H, fun i => if mu[i]? = some true then c.As i else [], c.T⟩) := by
  have sub : ∀ a, Cf.mine ⟨fin mu c.s, c.H, fun i => if mu[i]? = some true then c.As i else [], c.T⟩ a → c.mine a := fun a ⟨j, m⟩ => by
    by_cases z : mu[j]? = some true
    · simp only [if_pos z] at m; exact ⟨j, m⟩
    · simp only [if_neg z] at m; cases m
  have lf : Le (c.F B.D) (Cf.F ⟨fin mu c.s, c.H, fun i => if mu[i]? = some true then c.As i else [], c.T⟩ B.D) := fun a o z => let ⟨h1, h2, h3, h4⟩ := F_eq.mp z; F_eq.mpr ⟨h1, h2, fun q => h3 (sub a q), h4⟩
  have lg : Le c.G (Cf.G ⟨fin mu c.s, c.H, fun i => if mu[i]? = some true then c.As i else [], c.T⟩) := fun a o z => let ⟨h2, h3, h4⟩ := G_eq.mp z; G_eq.mpr ⟨h2, fun q => h3 (sub a q), h4⟩
  have vget : ∀ i : Nat, mu[i]? = some true → ∃ v, vs[i]? = some v ∧ σ[i]? = some (some v) := fun i h => by
    have hi : i < vs.length := by rw [hv]; exact (List.getElem?_eq_some_iff.mp h).1
    refine ⟨vs[i], List.getElem?_eq_getElem hi, R.root i _ ?_⟩
    rw [hr, if_pos h, List.getElem?_eq_getElem hi]
  refine ⟨⟨by simp [fin_len, hv], fun i x e => ?_, fun i n => ?_, fun i j a m1 m2 => ?_, fun i a m => ?_, fun a h => R.nD a (h.imp_right (sub a)), R.live, R.keep, fun a h => R.new a (h.imp_right (sub a)), fun i v h => ?_, fun a ob h => ?_⟩, lf, lg⟩
  · obtain ⟨h1, h2⟩ := fin_get e
    obtain ⟨v, h3, h4⟩ := R.own i x h2
    obtain ⟨w, h5, h6⟩ := vget i h1
    rw [h6] at h3
    have e := Option.some.inj (Option.some.inj h3)
    subst e
    refine ⟨w, by rw [List.getElem?_map, h5]; rfl, ?_⟩
    simp only [if_pos h1]
    exact h4.le lf lg fun _ _ _ h => h
  · by_cases z : mu[i]? = some true
    · simp only [if_pos z]
      exact R.dead i fun x e => n x (get_fin z e)
    · simp only [if_neg z]
  · by_cases z : mu[i]? = some true
    · by_cases z2 : mu[j]? = some true
      · simp only [if_pos z] at m1; simp only [if_pos z2] at m2
        exact R.dis i j a m1 m2
      · simp only [if_neg z2] at m2; cases m2
    · simp only [if_neg z] at m1; cases m1
  · by_cases z : mu[i]? = some true
    · simp only [if_pos z] at m; exact R.nT i a m
    · simp only [if_neg z] at m; cases m
  · rw [hr] at h
    by_cases z : mu[i]? = some true
    · rw [if_pos z] at h; rw [List.getElem?_map, h]; rfl
    · rw [if_neg z] at h; cases h
  · obtain ⟨h1, h2, h3⟩ := R.lkd a ob h
    exact ⟨h1, fun q => h2 (sub a q), h3⟩
/-- the way from a def's start, by its base alone -/
theorem Rel.stepOf (R : Rel K B c' σ) (h0 : B.H0 = c.H) (hA : ∀ a, a ∈ B.A0 ↔ c.mine a) (hT : c'.T = A ++ c.T) (hc : c.T = []) : Step A c c' := by
  refine ⟨fun a o n h => R.keep a o (fun z => n ((hA a).mp z)) (by rw [h0]; exact h), fun a h => ?_, hT⟩
  have : a ∈ c'.T ∨ c'.mine a := h.imp_left fun z => by rw [hT]; exact List.mem_append_left _ z
  rcases R.new a this with z | z
  · exact .inl ((hA a).mp z)
  · exact .inr (by rw [← h0]; exact z)
end
theorem fnok_mk {P : Program} {w : World} {K : KC} {mg : Str → Option Value} {base : Heap} {x qual : Str} {st : Stmt} {f : Addr} {fd : FuncData} {N ps : List Str} {k : Nat} {mu : List Bool} {fb : Sm} (F : Fun K.k x qual st f fd) (sc : FnScope N ps (defScope st)) (hn : ps.length = mu.length)
    (hb : ∀ (cdv : Value) (A : Around) (outer : List Env) (s : Shared) (H : Hp) (E : XK) (B : Bs) (W : WZ), Room k (A.deeper (envOfC qual (defScope st) s.heap.objs.size f cdv)) → B.C = K.C →
      Takes (cxOf (L2.CX P w) P w K.k mg base N qual (defScope st) f cdv A outer s H E) (WP K B W) → (∀ i, mu[i]? ≠ some true → B.root i = none) →
      VSs (cxOf (L2.CX P w) P w K.k mg base N qual (defScope st) f cdv A outer s H E) B W (defBody st) fb) : FnOk P w K.k mg base (L2.CX P w) (k + 1) f fd ps (toSp K mu (runB mu N.length fb)) := by
  refine F.okX sc (fun vs H Q E h => h.1.trans hn.symm) fun cdv A outer s H vs Q E hr h => ?_
  obtain ⟨hl, B, c, xs, e, eC, es, R, eT, eH, eA, eR, hm⟩ := h
  subst e
  have eK : (⟨K.k, B.C⟩ : KC) = K := by rw [eC]
  have hxl : xs.length = vs.length := by
    have := R.len
    rw [es] at this; simp at this; omega
  let W : WZ := fun n s' => ∀ c', Rel K B c' (vs.map some) → Step [] c c' → c'.s = fin mu s' → E (.ref (B.C n)) none (c'.R B)
  have cutE : ∀ (c2 : Cf) (σ2 : L2.St), Rel K B c2 σ2 → ∃ c', Rel K B c' (vs.map some) ∧ Step [] c c' ∧ c'.s = fin mu c2.s ∧ c'.H = c2.H := fun c2 σ2 R2 => by
    have R3 : Rel K B { c2 with T := [] } σ2 := R2.drop (A := c2.T) (by simp)
    obtain ⟨R4, _, _⟩ := R3.cut (vs := vs) hl eR
    exact ⟨_, R4, R4.stepOf eH eA (by simp [eT]) eT, rfl, rfl⟩
  let c0 : Cf := { c with s := xs.map some ++ List.replicate (N.length - xs.length) none }
  have R0 : Rel K B c0 (start N vs) := by
    have get : ∀ (i : Nat) x, c0.s[i]? = some (some x) → c.s[i]? = some (some x) := fun i x q => by
      rw [es]
      simp only [c0] at q
      by_cases hi : i < (xs.map some).length
      · rw [List.getElem?_append_left hi] at q; exact q
      · rw [List.getElem?_append_right (by omega), List.getElem?_replicate] at q
        split at q <;> cases q
    have gets : ∀ (i : Nat) x, c.s[i]? = some (some x) → c0.s[i]? = some (some x) := fun i x q => by
      rw [es] at q
      simp only [c0]
      rw [List.getElem?_append_left (List.getElem?_eq_some_iff.mp q).1]; exact q
    have getv : ∀ (i : Nat) v, (vs.map some)[i]? = some (some v) → (start N vs)[i]? = some (some v) := fun i v q => by
      show (vs.map some ++ List.replicate (N.length - vs.length) none)[i]? = _
      rw [List.getElem?_append_left (List.getElem?_eq_some_iff.mp q).1]; exact q
    refine ⟨?_, fun i x q => ?_, fun i n => R.dead i fun x q => n x (gets i x q), R.dis, R.nT, R.nD, R.live, R.keep, R.new, fun i v q => getv i v (R.root i v q), R.lkd⟩
    · show (vs.map some ++ List.replicate (N.length - vs.length) none).length = _
      simp [c0, hxl]
    · obtain ⟨v, h1, h2⟩ := R.own i x (get i x q)
      exact ⟨v, getv i v h1, h2⟩
  have tk : Takes (cxOf (L2.CX P w) P w K.k mg base N qual (defScope st) f cdv A outer s (c.R B) E) (WP K B W) := by
    refine Takes.imp (takes_of (E := E) rfl rfl rfl rfl) fun cls d σ H' hw => ?_
    obtain ⟨rfl, n, c2, rfl, rfl, R2, hw⟩ := hw
    obtain ⟨c', R3, s3, e3, e4⟩ := cutE c2 σ R2
    have := hw c' R3 s3 e3
    show E _ none (lk B.L c2.H)
    rw [← e4]; exact this
  have body := hb cdv A outer s (c.R B) E B W hr eC tk (fun i hi => by rw [eR, if_neg hi])
  have eK' : kc (cxOf (L2.CX P w) P w K.k mg base N qual (defScope st) f cdv A outer s (c.R B) E) B = K := eK
  unfold VSs at body
  rw [eK'] at body
  refine ⟨_, body, c0, rfl, R0, eT, ?_⟩
  unfold runB at hm
  have hs0 : c0.s = xs.map some ++ List.replicate (N.length - xs.length) none := rfl
  rw [← hs0] at hm
  revert hm
  cases q : fb c0.s with
  | bad => exact fun hm => hm.elim
  | ex n s' =>
    intro hm
    simp only at hm
    by_cases g : (fin mu s').all nbO = true
    · rw [if_pos g] at hm
      exact hm g
    · rw [if_neg g] at hm; exact hm.elim
  | ok fl s' =>
    intro hm
    cases fl with
    | bk => exact hm.elim
    | ct => exact hm.elim
    | nx =>
      simp only at hm
      by_cases g : (fin mu s').all nbO = true
      · rw [if_pos g] at hm
        intro σ2 c2 R2 s2 e2
        obtain ⟨c', R3, s3, e3, e4⟩ := cutE c2 σ2 R2
        have := hm rfl g .non [] c' R3 s3 (by rw [e3, e2]) .non
        show Q .non (lk B.L c2.H)
        rw [← e4]; exact this
      · rw [if_neg g] at hm; exact hm.elim
    | rt y =>
      simp only at hm
      by_cases g : (y.nb && (fin mu s').all nbO) = true
      · rw [if_pos g] at hm
        intro v A' σ2 c2 R2 s2 e2 o
        have hT2 : c2.T = A' ++ c.T := s2.T
        obtain ⟨R4, l1, l2⟩ := R2.cut (vs := vs) hl eR
        have st := R4.stepOf (A := A') eH eA hT2 eT
        have g := Bool.and_eq_true_iff.mp g
        have := hm g.1 g.2 v A' _ R4 st (by rw [← e2]) (o.le l1 l2 fun _ _ _ h => h)
        exact this
      · rw [if_neg g] at hm; exact hm.elim
theorem fn_mk {P : Program} {w : World} {K : KC} {mg : Str → Option Value} {base : Heap} {x qual : Str} {st : Stmt} {f : Addr} {fd : FuncData} {N ps : List Str} {k : Nat} {mu : List Bool} {fb : Sm} (F : Fun K.k x qual st f fd) (gm : mg x = some (.ref f)) (bd : Binds K.k fd ps []) (sc : FnScope N ps (defScope st)) (hn : ps.length = mu.length)
    (hb : ∀ (cdv : Value) (A : Around) (outer : List Env) (s : Shared) (H : Hp) (E : XK) (B : Bs) (W : WZ), Room k (A.deeper (envOfC qual (defScope st) s.heap.objs.size f cdv)) → B.C = K.C →
      Takes (cxOf (L2.CX P w) P w K.k mg base N qual (defScope st) f cdv A outer s H E) (WP K B W) → (∀ i, mu[i]? ≠ some true → B.root i = none) →
      VSs (cxOf (L2.CX P w) P w K.k mg base N qual (defScope st) f cdv A outer s H E) B W (defBody st) fb) : Fn P w K mg base x (k + 1) mu (runB mu N.length fb) :=
  ⟨f, fd, ps, gm, F.kp, bd, fnok_mk F sc hn hb⟩
end Z

namespace Z
open PySem PySem.Spec PyProof.Rows L2
/-! ### calls of one's own defs -/
def lookP (s : St) : PV → Option PV
  | .loc i p => match s[i]? with
    | some (some x) => getP x p
    | _ => none
  | x => some x
def argOf (s : St) (m : Bool) (x : PV) : Option PV := if m then (match x with
    | .loc _ _ => lookP s x
    | _ => none) else (match x with
    | .loc _ _ => (lookP s x).map PV.er
    | x => some x)
def argsOf (s : St) : List Bool → List PV → Option (List PV)
  | [], [] => some []
  | m :: mu, x :: xs => match argOf s m x, argsOf s mu xs with
    | some y, some ys => some (y :: ys)
    | _, _ => none
  | _, _ => none
def locSlots : List PV → List Nat
  | [] => []
  | .loc i _ :: xs => i :: locSlots xs
  | _ :: xs => locSlots xs
def mutSlots : List Bool → List PV → List Nat
  | true :: mu, .loc i _ :: xs => i :: mutSlots mu xs
  | _ :: mu, _ :: xs => mutSlots mu xs
  | _, _ => []
def okLocs (mu : List Bool) (xs : List PV) : Bool := (mutSlots mu xs).all fun i => (locSlots xs).count i == 1
def putB1 (s : St) (x : PV) (y : Option PV) : Option St := match x, y with
  | .loc i p, some y => match s[i]? with
    | some (some z) => some (s.set i (some (setP z p y)))
    | _ => none
  | _, _ => none
def putBack (s : St) : List Bool → List PV → St → Option St
  | true :: mu, x :: xs, y :: ys => (putB1 s x y).bind fun s1 => putBack s1 mu xs ys
  | false :: mu, _ :: xs, _ :: ys => putBack s mu xs ys
  | [], [], [] => some s
  | _, _, _ => none
def back (s : St) (mu : List Bool) (xs : List PV) (r : Fr) : Rs PV := match r with
  | .ok y ys => match putBack s mu xs ys with
    | some s2 => .ok y s2
    | none => .bad
  | .ex n ys => match putBack s mu xs ys with
    | some s2 => .ex n s2
    | none => .bad
  | .bad => .bad
def callF (mm : List Nat) (mu : List Bool) (run : List PV → Fr) (f : St → Rs (List PV)) (s : St) : Rs PV := (f s).bind fun xs s1 => match argsOf s1 mu xs with
  | some zs => if okLocs mu xs && (mutSlots mu xs).all (fun i => mm.contains i) then back s1 mu xs (run zs) else .bad
  | none => .bad
/-- a value or a way into a slot -/
def Vp (K : KC) (B : Bs) (c : Cf) (σ : L2.St) (x : PV) (v : V) : Prop := (∃ i p u, x = .loc i p ∧ σ[i]? = some (some u) ∧ atP c.H u p = some v) ∨ Own K (c.F B.D) c.G c.H x v []
theorem Vl.vp {K : KC} {B : Bs} {c : Cf} {σ : L2.St} {x : PV} {v : V} (h : Vl K B c σ x v) : Vp K B c σ x v := by
  rcases h with ⟨i, rfl, e⟩ | h
  · exact .inl ⟨i, [], v, rfl, e, by rw [atP]⟩
  · exact .inr h
/-! which argument is at a slot -/
theorem argsOf_get {s : St} : ∀ {mu : List Bool} {xs zs : List PV}, argsOf s mu xs = some zs → mu.length = xs.length ∧ zs.length = xs.length ∧ ∀ (j : Nat) x, xs[j]? = some x → ∃ m z, mu[j]? = some m ∧ zs[j]? = some z ∧ argOf s m x = some z
  | [], [], zs, h => by cases h; exact ⟨rfl, rfl, fun j x e => by simp at e⟩
  | m :: mu, x :: xs, zs, h => by
    rw [argsOf] at h
    cases e1 : argOf s m x with
    | none => rw [e1] at h; cases h
    | some y =>
      cases e2 : argsOf s mu xs with
      | none => rw [e1, e2] at h; cases h
      | some ys =>
        rw [e1, e2] at h; cases h
        obtain ⟨h1, h2, h3⟩ := argsOf_get e2
        refine ⟨by simp [h1], by simp [h2], fun j z e => ?_⟩
        cases j with
        | zero => simp at e; subst e; exact ⟨m, y, rfl, rfl, e1⟩
        | succ j =>
          obtain ⟨m', z', g1, g2, g3⟩ := h3 j z (by simpa using e)
          exact ⟨m', z', by simpa using g1, by simpa using g2, g3⟩
  | [], _ :: _, _, h => by cases h
  | _ :: _, [], _, h => by cases h
theorem count_loc {i : Nat} : ∀ {xs : List PV} {j : Nat} {p : List Nat}, xs[j]? = some (.loc i p) → 1 ≤ (locSlots xs).count i
  | [], _, _, h => by simp at h
  | x :: xs, 0, p, h => by
    simp at h; subst h
    rw [locSlots, List.count_cons_self]; omega
  | x :: xs, j + 1, p, h => by
    have := count_loc (xs := xs) (j := j) (p := p) (by simpa using h)
    cases x <;> simp only [locSlots] <;> first | exact this | (rw [List.count_cons]; omega)
theorem count_two {i : Nat} : ∀ {xs : List PV} {j k : Nat} {p q : List Nat}, xs[j]? = some (.loc i p) → xs[k]? = some (.loc i q) → j < k → 2 ≤ (locSlots xs).count i
  | [], _, _, _, _, h, _, _ => by simp at h
  | x :: xs, 0, k + 1, p, q, h, g, _ => by
    simp at h; subst h
    have := count_loc (xs := xs) (j := k) (p := q) (by simpa using g)
    rw [locSlots, List.count_cons_self]; omega
  | x :: xs, j + 1, k + 1, p, q, h, g, l => by
    have := count_two (xs := xs) (j := j) (k := k) (p := p) (q := q) (by simpa using h) (by simpa using g) (by omega)
    cases x <;> simp only [locSlots] <;> first | exact this | (rw [List.count_cons]; omega)
theorem mutSlots_mem {i : Nat} : ∀ {mu : List Bool} {xs : List PV} {j : Nat} {p : List Nat}, mu[j]? = some true → xs[j]? = some (.loc i p) → i ∈ mutSlots mu xs
  | [], _, _, _, h, _ => by simp at h
  | m :: mu, [], _, _, _, g => by simp at g
  | m :: mu, x :: xs, 0, p, h, g => by
    simp at h g; subst h; subst g
    rw [mutSlots]; simp
  | m :: mu, x :: xs, j + 1, p, h, g => by
    have := mutSlots_mem (mu := mu) (xs := xs) (j := j) (p := p) (by simpa using h) (by simpa using g)
    cases m with
    | false => cases x <;> exact this
    | true =>
      cases x with
      | loc i' p' => rw [mutSlots]; exact List.mem_cons_of_mem _ this
      | _ => exact this
theorem okLocs_ok {mu : List Bool} {xs : List PV} (h : okLocs mu xs = true) {i j k : Nat} {p q : List Nat} (hm : mu[j]? = some true) (h1 : xs[j]? = some (.loc i p)) (h2 : xs[k]? = some (.loc i q)) : j = k := by
  have := List.all_eq_true.mp h i (mutSlots_mem hm h1)
  have c1 : (locSlots xs).count i = 1 := by simpa using this
  rcases Nat.lt_trichotomy j k with l | l | l
  · have := count_two h1 h2 l; omega
  · exact l
  · have := count_two h2 h1 l; omega
/-- what stands at each slot behind a call -/
theorem putBack_get : ∀ {mu : List Bool} {xs : List PV} {ys s s2 : St}, putBack s mu xs ys = some s2 → okLocs mu xs = true → s2.length = s.length ∧ (∀ i : Nat, (∀ (j : Nat) (p : List Nat), mu[j]? = some true → xs[j]? ≠ some (.loc i p)) → s2[i]? = s[i]?) ∧
    ∀ (j i : Nat) p, mu[j]? = some true → xs[j]? = some (.loc i p) → ∃ y z, ys[j]? = some (some y) ∧ s[i]? = some (some z) ∧ s2[i]? = some (some (setP z p y)) := by
  intro mu xs ys s s2 h ok
  have key : ∀ (mu : List Bool) (xs : List PV) (ys s s2 : St), putBack s mu xs ys = some s2 → (∀ (j k i : Nat) p q, mu[j]? = some true → mu[k]? = some true → xs[j]? = some (.loc i p) → xs[k]? = some (.loc i q) → j = k) → s2.length = s.length ∧ (∀ i : Nat, (∀ (j : Nat) (p : List Nat), mu[j]? = some true → xs[j]? ≠ some (.loc i p)) → s2[i]? = s[i]?) ∧
      ∀ (j i : Nat) p, mu[j]? = some true → xs[j]? = some (.loc i p) → ∃ y z, ys[j]? = some (some y) ∧ s[i]? = some (some z) ∧ s2[i]? = some (some (setP z p y)) := by
    intro mu
    induction mu with
    | nil =>
      intro xs ys s s2 h u
      cases xs with
      | nil =>
        cases ys with
        | nil => cases h; exact ⟨rfl, fun _ _ => rfl, fun j i p e => by simp at e⟩
        | cons y ys => simp [putBack] at h
      | cons x xs => simp [putBack] at h
    | cons m mu ih =>
      intro xs ys s s2 h u
      cases xs with
      | nil => simp [putBack] at h
      | cons x xs =>
        cases ys with
        | nil => cases m <;> simp [putBack] at h
        | cons y ys =>
          have u' : ∀ (j k i : Nat) p q, mu[j]? = some true → mu[k]? = some true → xs[j]? = some (.loc i p) → xs[k]? = some (.loc i q) → j = k := fun j k i p q h1 h2 h3 h4 => by
            have := u (j + 1) (k + 1) i p q (by simpa using h1) (by simpa using h2) (by simpa using h3) (by simpa using h4)
            omega
          cases m with
          | false =>
            rw [putBack] at h
            obtain ⟨g1, g2, g3⟩ := ih xs ys s s2 h u'
            refine ⟨g1, fun i n => g2 i fun j p e => ?_, fun j i p e1 e2 => ?_⟩
            · have := n (j + 1) p (by simpa using e)
              simpa using this
            · cases j with
              | zero => simp at e1
              | succ j =>
                obtain ⟨y', z, k1, k2, k3⟩ := g3 j i p (by simpa using e1) (by simpa using e2)
                exact ⟨y', z, by simpa using k1, k2, k3⟩
          | true =>
            rw [putBack] at h
            cases x with
            | loc i0 p0 =>
              cases y with
              | none => simp [putB1] at h
              | some y0 =>
                cases e0 : s[i0]? with
                | none => simp [putB1, e0] at h
                | some o =>
                  cases o with
                  | none => simp [putB1, e0] at h
                  | some z0 =>
                    simp only [putB1, e0, Option.bind_some] at h
                    obtain ⟨g1, g2, g3⟩ := ih xs ys _ s2 h u'
                    have hi0 : i0 < s.length := (List.getElem?_eq_some_iff.mp e0).1
                    have n0 : ∀ (j : Nat) (p : List Nat), mu[j]? = some true → xs[j]? ≠ some (.loc i0 p) := fun j p e1 e2 => by
                      have := u 0 (j + 1) i0 p0 p rfl (by simpa using e1) rfl (by simpa using e2)
                      omega
                    refine ⟨by rw [g1, List.length_set], fun i n => ?_, fun j i p e1 e2 => ?_⟩
                    · have ne : i0 ≠ i := fun z => n 0 p0 rfl (by rw [z]; rfl)
                      rw [g2 i fun j p e => by have := n (j + 1) p (by simpa using e); simpa using this, List.getElem?_set_ne ne]
                    · cases j with
                      | zero =>
                        simp at e2
                        obtain ⟨rfl, rfl⟩ := e2
                        exact ⟨y0, z0, rfl, e0, by rw [g2 i0 n0, List.getElem?_set_self hi0]⟩
                      | succ j =>
                        obtain ⟨y', z, k1, k2, k3⟩ := g3 j i p (by simpa using e1) (by simpa using e2)
                        have ne : i0 ≠ i := fun z => n0 j p (by simpa using e1) (by rw [z]; simpa using e2)
                        rw [List.getElem?_set_ne ne] at k2
                        exact ⟨y', z, by simpa using k1, k2, k3⟩
            | _ => simp [putB1] at h
  exact key mu xs ys s s2 h fun j k i p q h1 h2 h3 h4 => okLocs_ok ok h1 h3 h4
end Z

namespace Z
open PySem PySem.Spec PyProof.Rows L2
inductive Vps (K : KC) (B : Bs) (c : Cf) (σ : L2.St) : List PV → List V → Prop
  | nil : Vps K B c σ [] []
  | cons {x : PV} {v : V} {xs : List PV} {vs : List V} : Vp K B c σ x v → Vps K B c σ xs vs → Vps K B c σ (x :: xs) (v :: vs)
section
variable {K : KC} {B : Bs} {c c1 : Cf} {σ : L2.St}
theorem Vls.vps : ∀ {xs : List PV} {vs : List V}, Vls K B c σ xs vs → Vps K B c σ xs vs
  | _, _, .nil => .nil
  | _, _, .cons h t => .cons h.vp (Vls.vps t)
theorem Vps.length : ∀ {xs : List PV} {vs : List V}, Vps K B c σ xs vs → xs.length = vs.length
  | _, _, .nil => rfl
  | _, _, .cons h t => by simp [Vps.length t]
theorem Vps.get : ∀ {xs : List PV} {vs : List V} {j : Nat} {x : PV}, Vps K B c σ xs vs → xs[j]? = some x → ∃ v, vs[j]? = some v ∧ Vp K B c σ x v
  | _, _, _, _, .nil, e => by simp at e
  | _, _, 0, x, .cons a b, e => by simp at e; subst e; exact ⟨_, rfl, a⟩
  | _, _, j + 1, x, .cons a b, e => Vps.get (j := j) b (by simpa using e)
theorem lookP_loc {s : St} {i : Nat} {p : List Nat} {y : PV} (h : lookP s (.loc i p) = some y) : ∃ x, s[i]? = some (some x) ∧ getP x p = some y := by
  unfold lookP at h
  split at h
  · rename_i i' p' e
    cases e
    split at h
    · rename_i x e; exact ⟨x, e, h⟩
    · cases h
  · rename_i x n; exact (n i p rfl).elim
theorem all_nb {ys : St} {j : Nat} {y : PV} (h : ys.all nbO = true) (e : ys[j]? = some (some y)) : y.nb = true := by
  have := List.all_eq_true.mp h (some y) (List.mem_iff_getElem?.mpr ⟨j, e⟩)
  exact this
theorem call_core {mu : List Bool} {xs zs : List PV} {vs : List V} (R : Rel K B c1 σ) (hv : Vps K B c1 σ xs vs) (ha : argsOf c1.s mu xs = some zs) (ok : okLocs mu xs = true) :
    ∃ (Bc : Bs) (cc : Cf), Bc.L = B.L ∧ cc.H = c1.H ∧ Bc.C = B.C ∧ cc.s = zs.map some ∧ Rel K Bc cc (vs.map some) ∧ cc.T = [] ∧ Bc.H0 = cc.H ∧ (∀ a, a ∈ Bc.A0 ↔ cc.mine a) ∧ (∀ i, Bc.root i = if mu[i]? = some true then vs[i]? else none) ∧
      ∀ (A : List Addr) (c' : Cf) (s2 : St), Rel K Bc c' (vs.map some) → Step A cc c' → c'.s.all nbO = true → (∀ a ∈ A, ∃ o, c'.H a = some o ∧ NoT o) → putBack c1.s mu xs c'.s = some s2 → ∃ c2, Aft K B (mutSlots mu xs) A c1 σ c2 ∧ c2.s = s2 ∧ c2.H = c'.H ∧ ∀ y v, y.nb = true → Own K (c'.F Bc.D) c'.G c'.H y v A → Own K (c2.F B.D) c2.G c2.H y v A := by
  obtain ⟨lm, lz, hz⟩ := argsOf_get ha
  have uniq : ∀ {i j j' : Nat} {p p' : List Nat}, mu[j]? = some true → xs[j]? = some (.loc i p) → xs[j']? = some (.loc i p') → j = j' := fun h1 h2 h3 => okLocs_ok ok h1 h2 h3
  have claim : ∀ i : Nat, ∃ q : List Addr × List Addr, (∀ a, a ∈ c1.As i ↔ a ∈ q.1 ∨ a ∈ q.2) ∧ (∀ a ∈ q.1, a ∉ q.2) ∧ ((∀ (j : Nat) (p : List Nat), mu[j]? = some true → xs[j]? ≠ some (.loc i p)) → q.1 = []) ∧
      ∀ (j : Nat) (p : List Nat), mu[j]? = some true → xs[j]? = some (.loc i p) → ∃ x u y v, c1.s[i]? = some (some x) ∧ σ[i]? = some (some u) ∧ zs[j]? = some y ∧ vs[j]? = some v ∧ Own K (c1.F B.D) c1.G c1.H y v q.1 ∧
        ∀ (F' G' H' : Hp) (y' : PV) (A1' : List Addr), Le (c1.F B.D) F' → Le c1.G G' → (∀ a ∈ q.2, ∀ o, c1.H a = some o → H' a = some o) → Own K F' G' H' y' v A1' → (∀ a ∈ A1', a ∉ q.2) → ∃ A', Own K F' G' H' (setP x p y') u A' ∧ ∀ a, a ∈ A' ↔ a ∈ A1' ∨ a ∈ q.2 := by
    intro i
    by_cases h : ∃ (j : Nat) (p : List Nat), mu[j]? = some true ∧ xs[j]? = some (.loc i p)
    · obtain ⟨j, p, h1, h2⟩ := h
      obtain ⟨m, y, g1, g2, g3⟩ := hz j _ h2
      rw [h1] at g1; cases g1
      have g4 : lookP c1.s (.loc i p) = some y := by simpa [argOf] using g3
      obtain ⟨x, e1, e2⟩ := lookP_loc g4
      obtain ⟨u, e3, o⟩ := R.own i x e1
      obtain ⟨v, e4, vp⟩ := hv.get h2
      obtain ⟨v', A1, A2, k1, k2, k3, k4, k5⟩ := o.path p e2 F_le
      have ev : v' = v := by
        rcases vp with ⟨i', p', u', z, e5, e6⟩ | z
        · cases z
          rw [e3] at e5; cases e5
          rw [k1] at e6; exact Option.some.inj e6
        · exact (not_loc z).elim
      subst ev
      refine ⟨(A1, A2), k3, k4, fun n => (n j p h1 h2).elim, fun j' p' h1' h2' => ?_⟩
      have ej := uniq h1 h2 h2'
      subst ej
      rw [h2] at h2'; cases h2'
      exact ⟨x, u, y, v', e1, e3, g2, e4, k2, k5⟩
    · exact ⟨([], c1.As i), fun a => by simp, fun a m => (nomatch m), fun _ => rfl, fun j p h1 h2 => (h ⟨j, p, h1, h2⟩).elim⟩
  obtain ⟨q, hq⟩ := Classical.axiomOfChoice claim
  let Ac : Nat → List Addr := fun j => if mu[j]? = some true then (match xs[j]? with
    | some (.loc i _) => (q i).1
    | _ => []) else []
  have AcM : ∀ {i j : Nat} {p : List Nat}, mu[j]? = some true → xs[j]? = some (.loc i p) → Ac j = (q i).1 := fun h1 h2 => by
    simp only [Ac, if_pos h1, h2]
  have AcG : ∀ {j : Nat} {a : Addr}, a ∈ Ac j → ∃ i p, mu[j]? = some true ∧ xs[j]? = some (.loc i p) ∧ a ∈ (q i).1 := fun {j a} h => by
    by_cases z : mu[j]? = some true
    · simp only [Ac, if_pos z] at h
      cases e : xs[j]? with
      | none => rw [e] at h; cases h
      | some x =>
        rw [e] at h
        cases x with
        | loc i p => exact ⟨i, p, z, rfl, h⟩
        | _ => cases h
    · simp only [Ac, if_neg z] at h; cases h
  let cc : Cf := ⟨zs.map some, c1.H, Ac, []⟩
  have ccM : ∀ {a : Addr}, cc.mine a → c1.mine a := fun {a} ⟨j, m⟩ => by
    obtain ⟨i, p, _, _, m⟩ := AcG m
    exact ⟨i, ((hq i).1 a).mpr (.inl m)⟩
  -- the rest of a slot is not the callee's
  have rest : ∀ {i : Nat} {a : Addr}, a ∈ (q i).2 → ¬ cc.mine a := fun {i a} m ⟨j, z⟩ => by
    obtain ⟨i', p, _, _, z⟩ := AcG z
    have e := R.dis i i' a (((hq i).1 a).mpr (.inr m)) (((hq i').1 a).mpr (.inl z))
    subst e
    exact (hq i).2.1 a z m
  let Dc : Addr → Prop := fun a => B.D a ∨ a ∈ c1.T ∨ (c1.mine a ∧ ¬ cc.mine a)
  let Bc : Bs := ⟨Dc, c1.H, (List.range zs.length).flatMap Ac, fun i => if mu[i]? = some true then vs[i]? else none, B.L, B.C⟩
  have hA0 : ∀ a, a ∈ Bc.A0 ↔ cc.mine a := fun a => by
    constructor
    · intro h
      obtain ⟨j, _, m⟩ := List.mem_flatMap.mp h
      exact ⟨j, m⟩
    · rintro ⟨j, m⟩
      obtain ⟨i, p, h1, h2, _⟩ := AcG m
      exact List.mem_flatMap.mpr ⟨j, List.mem_range.mpr (by rw [lz]; exact (List.getElem?_eq_some_iff.mp h2).1), m⟩
  have lF : Le (c1.F B.D) (cc.F Dc) := fun a o h => by
    obtain ⟨h1, h2, h3, h4⟩ := F_eq.mp h
    exact F_eq.mpr ⟨fun d => d.elim h1 fun d => d.elim h2 fun d => h3 d.1, fun z => (nomatch z), fun z => h3 (ccM z), h4⟩
  have lG : Le c1.G cc.G := fun a o h => by
    obtain ⟨h2, h3, h4⟩ := G_eq.mp h
    exact G_eq.mpr ⟨fun z => (nomatch z), fun z => h3 (ccM z), h4⟩
  have hlv : vs.length = mu.length := by rw [← hv.length, lm]
  have Rc : Rel K Bc cc (vs.map some) := by
    refine ⟨by simp [cc, lz, hv.length], fun j z e => ?_, fun j n => ?_, fun j k a m1 m2 => ?_, fun j a m z => (nomatch z), fun a h d => ?_, fun a h => ?_, fun a o _ h => h, fun a h => ?_, fun i v h => ?_, fun a ob h => ?_⟩
    · have e' : (zs.map some)[j]? = some (some z) := e
      rw [List.getElem?_map] at e'
      cases ez : zs[j]? with
      | none => rw [ez] at e'; cases e'
      | some z' =>
        rw [ez] at e'; cases e'
        have hj : j < xs.length := by rw [← lz]; exact (List.getElem?_eq_some_iff.mp ez).1
        have ex : xs[j]? = some xs[j] := List.getElem?_eq_getElem hj
        obtain ⟨m, y, g1, g2, g3⟩ := hz j _ ex
        rw [ez] at g2; cases g2
        obtain ⟨v, e4, vp⟩ := hv.get ex
        refine ⟨v, by rw [List.getElem?_map, e4]; rfl, ?_⟩
        cases m with
        | true =>
          unfold argOf at g3
          rw [if_pos rfl] at g3
          split at g3
          · rename_i i p exj
            rw [exj] at ex
            obtain ⟨x, u, y, v', k1, k2, k3, k4, k5, _⟩ := (hq i).2.2.2 j p g1 ex
            rw [e4] at k4; cases k4
            rw [ez] at k3; cases k3
            show Own K (cc.F Dc) cc.G cc.H z v (Ac j)
            rw [AcM g1 ex]
            exact k5.le lF lG fun _ _ _ h => h
          · cases g3
        | false =>
          have eA : cc.As j = [] := by
            show Ac j = []
            simp only [Ac]
            rw [if_neg (by rw [g1]; decide)]
          rw [eA]
          rcases vp with ⟨i, p, u, exj, e5, e6⟩ | o
          · rw [exj] at g3 ex
            have g4 : (lookP c1.s (.loc i p)).map PV.er = some z := by simpa [argOf] using g3
            cases el : lookP c1.s (.loc i p) with
            | none => rw [el] at g4; cases g4
            | some y =>
              rw [el] at g4; cases g4
              refine .bw ?_
              obtain ⟨x, k1, k2⟩ := lookP_loc el
              obtain ⟨u', k3, o⟩ := R.own i x k1
              rw [e5] at k3; cases k3
              obtain ⟨v', A1, A2, k4, k5, k6, _, _⟩ := o.path p k2 F_le
              rw [e6] at k4; cases k4
              refine k5.sh (FG_le.trans lG) lG fun a m o h => G_eq.mpr ⟨fun z => (nomatch z), fun ⟨j', z⟩ => ?_, h⟩
              obtain ⟨i', p', h1, h2, z⟩ := AcG z
              have ei := R.dis i i' a ((k6 a).mpr (.inl m)) (((hq i').1 a).mpr (.inl z))
              subst ei
              have := uniq h1 h2 ex
              subst this
              rw [g1] at h1; cases h1
          · have : argOf c1.s false xs[j] = some xs[j] := by
              cases hx : xs[j] with
              | loc i p => rw [hx] at o; exact (not_loc o).elim
              | _ => simp [argOf]
            rw [this] at g3; cases g3
            exact o.le lF lG (fun _ m => by cases m)
    · show Ac j = []
      by_cases z : mu[j]? = some true
      · have hj : j < zs.length := by rw [lz, ← lm]; exact (List.getElem?_eq_some_iff.mp z).1
        exact (n zs[j] (by show (zs.map some)[j]? = _; rw [List.getElem?_map, List.getElem?_eq_getElem hj]; rfl)).elim
      · simp only [Ac, if_neg z]
    · obtain ⟨i, p, h1, h2, m1⟩ := AcG m1
      obtain ⟨i', p', h1', h2', m2⟩ := AcG m2
      have e := R.dis i i' a (((hq i).1 a).mpr (.inl m1)) (((hq i').1 a).mpr (.inl m2))
      subst e
      exact uniq h1 h2 h2'
    · rcases h with h | h
      · cases h
      · have hm := ccM h
        rcases d with d | d | d
        · exact R.nD a (.inr hm) d
        · obtain ⟨i, m⟩ := hm; exact R.nT i a m d
        · exact d.2 h
    · rcases h with h | h
      · cases h
      · rcases h with d | d | d
        · exact R.live a (.inr d)
        · exact R.live a (.inl d)
        · exact R.cell d.1
    · rcases h with h | h
      · cases h
      · exact .inl ((hA0 a).mpr h)
    · have h' : (if mu[i]? = some true then vs[i]? else none) = some v := h
      by_cases z : mu[i]? = some true
      · rw [if_pos z] at h'; rw [List.getElem?_map, h']; rfl
      · rw [if_neg z] at h'; cases h'
    · obtain ⟨h1, h2, h3⟩ := R.lkd a ob h
      exact ⟨fun z => (nomatch z), fun z => h2 (ccM z), h3⟩
  refine ⟨Bc, cc, rfl, rfl, rfl, rfl, Rc, rfl, rfl, hA0, fun _ => rfl, fun A c' s2 R' st' nb lA pb => ?_⟩
  obtain ⟨p1, p2, p3⟩ := putBack_get pb ok
  have hT' : c'.T = A := by rw [st'.T]; simp [cc]
  have AnM : ∀ a ∈ A, ¬ c'.mine a := fun a m ⟨j, z⟩ => R'.nT j a z (by rw [hT']; exact m)
  -- new cells of slots
  have claim2 : ∀ i : Nat, ∃ A' : List Addr, ((∀ (j : Nat) (p : List Nat), mu[j]? = some true → xs[j]? ≠ some (.loc i p)) → A' = c1.As i) ∧ (∀ a, a ∈ A' → c'.mine a ∨ a ∈ (q i).2) ∧
      ∀ (j : Nat) (p : List Nat), mu[j]? = some true → xs[j]? = some (.loc i p) → (∀ a, a ∈ A' ↔ a ∈ c'.As j ∨ a ∈ (q i).2) := by
    intro i
    by_cases h : ∃ (j : Nat) (p : List Nat), mu[j]? = some true ∧ xs[j]? = some (.loc i p)
    · obtain ⟨j, p, h1, h2⟩ := h
      refine ⟨c'.As j ++ (q i).2, fun n => (n j p h1 h2).elim, fun a m => (List.mem_append.mp m).imp_left fun m => ⟨j, m⟩, fun j' p' h1' h2' a => ?_⟩
      have := uniq h1 h2 h2'
      subst this
      exact List.mem_append
    · refine ⟨c1.As i, fun _ => rfl, fun a m => .inr ?_, fun j p h1 h2 => (h ⟨j, p, h1, h2⟩).elim⟩
      have e := (hq i).2.2.1 fun j p h1 h2 => h ⟨j, p, h1, h2⟩
      have := ((hq i).1 a).mp m
      rw [e] at this
      exact this.elim (fun z => (nomatch z)) fun z => z
  have keepR : ∀ {a : Addr} {o : HO}, ¬ cc.mine a → c1.H a = some o → c'.H a = some o := fun n h => st'.keep _ _ n h
  have newC : ∀ {a : Addr}, a ∈ A ∨ c'.mine a → c1.mine a ∨ c1.H a = none := fun {a} h => (st'.new a h).imp_left ccM
  have newC2 : ∀ {a : Addr}, a ∈ A ∨ c'.mine a → cc.mine a ∨ c1.H a = none := fun {a} h => st'.new a h
  -- cells of slots that are not the callee's stay apart from what it has
  have apart : ∀ {i : Nat} {a : Addr}, a ∈ (q i).2 → ¬ (a ∈ A ∨ c'.mine a) := fun {i a} m z => by
    rcases newC2 z with z | z
    · exact rest m z
    · obtain ⟨o, e, _⟩ := R.cell (a := a) ⟨i, ((hq i).1 a).mpr (.inr m)⟩
      rw [e] at z; cases z
  obtain ⟨q2, hq2⟩ := Classical.axiomOfChoice claim2
  -- each slot's true cells, by the way back
  have lF2 : ∀ (As2 : Nat → List Addr), (∀ i a, a ∈ As2 i → c'.mine a ∨ a ∈ (q i).2) → Le (c'.F Dc) (Cf.F ⟨s2, c'.H, As2, A ++ c1.T⟩ B.D) := fun As2 h2 a o h => by
    obtain ⟨g1, g2, g3, g4⟩ := F_eq.mp h
    refine F_eq.mpr ⟨fun d => g1 (.inl d), fun z => ?_, fun ⟨i, z⟩ => ?_, g4⟩
    · rcases List.mem_append.mp z with z | z
      · exact g2 (by rw [hT']; exact z)
      · exact g1 (.inr (.inl z))
    · rcases h2 i a z with z | z
      · exact g3 z
      · exact g1 (.inr (.inr ⟨⟨i, ((hq i).1 a).mpr (.inr z)⟩, rest z⟩))
  have stF : ∀ (As2 : Nat → List Addr), (∀ i a, a ∈ As2 i → c'.mine a ∨ a ∈ (q i).2) → Step A c1 ⟨s2, c'.H, As2, A ++ c1.T⟩ := fun As2 h2 => by
    refine ⟨fun a o n h => keepR (fun z => n (ccM z)) h, fun a h => ?_, rfl⟩
    rcases h with h | ⟨i, h⟩
    · exact newC (.inl h)
    · rcases h2 i a h with z | z
      · exact newC (.inr z)
      · exact .inl ⟨i, ((hq i).1 a).mpr (.inr z)⟩
  have own2 : ∀ (As2 : Nat → List Addr), (∀ i a, a ∈ As2 i → c'.mine a ∨ a ∈ (q i).2) → ∀ (y : PV) (v : V) (S : List Addr), y.nb = true → Own K (c'.F Dc) c'.G c'.H y v S → Own K (Cf.F ⟨s2, c'.H, As2, A ++ c1.T⟩ B.D) (Cf.G ⟨s2, c'.H, As2, A ++ c1.T⟩) c'.H y v S := fun As2 h2 y v S n o => by
    obtain ⟨y', e, o'⟩ := o.noG (G' := Cf.G ⟨s2, c'.H, As2, A ++ c1.T⟩) (lF2 As2 h2) (fun a u nn h => lF2 As2 h2 a u (R'.leT a u nn (G_le a u h))) n (H' := c'.H) fun _ _ _ h => h
    rw [e] at o'; exact o'
  -- the cells by path are those of q2
  have claim3 : ∀ i : Nat, ∃ A' : List Addr, (∀ a, a ∈ A' ↔ a ∈ q2 i) ∧ ((∀ (j : Nat) (p : List Nat), mu[j]? = some true → xs[j]? ≠ some (.loc i p)) → A' = c1.As i) ∧ ∀ (j : Nat) (p : List Nat), mu[j]? = some true → xs[j]? = some (.loc i p) → ∃ x u, s2[i]? = some (some x) ∧ σ[i]? = some (some u) ∧ Own K (Cf.F ⟨s2, c'.H, q2, A ++ c1.T⟩ B.D) (Cf.G ⟨s2, c'.H, q2, A ++ c1.T⟩) c'.H x u A' := by
    intro i
    by_cases h : ∃ (j : Nat) (p : List Nat), mu[j]? = some true ∧ xs[j]? = some (.loc i p)
    · obtain ⟨j, p, h1, h2⟩ := h
      obtain ⟨x, u, y, v, k1, k2, k3, k4, k5, k6⟩ := (hq i).2.2.2 j p h1 h2
      obtain ⟨y', z, g1, g2, g3⟩ := p3 j i p h1 h2
      rw [k1] at g2; cases g2
      obtain ⟨v', f1, f2⟩ := R'.own j y' g1
      rw [List.getElem?_map, k4] at f1; cases f1
      have h2' : ∀ i a, a ∈ q2 i → c'.mine a ∨ a ∈ (q i).2 := fun i => (hq2 i).2.1
      have o2 := own2 q2 h2' y' v _ (all_nb nb g1) f2
      have st := stF q2 h2'
      obtain ⟨A', a1, a2⟩ := k6 _ _ c'.H y' (c'.As j) st.F st.G (fun a m o h => keepR (rest m) h) o2 (fun a m z => apart z (.inr ⟨j, m⟩))
      refine ⟨A', fun a => ?_, fun n => (n j p h1 h2).elim, fun j' p' h1' h2'' => ?_⟩
      · rw [a2, (hq2 i).2.2 j p h1 h2]
      · have := uniq h1 h2 h2''
        subst this
        rw [h2] at h2''; cases h2''
        exact ⟨_, u, g3, k2, a1⟩
    · refine ⟨q2 i, fun a => Iff.rfl, fun n => (hq2 i).1 n, fun j p h1 h2 => (h ⟨j, p, h1, h2⟩).elim⟩
  obtain ⟨q3, hq3⟩ := Classical.axiomOfChoice claim3
  have h3 : ∀ i a, a ∈ q3 i → c'.mine a ∨ a ∈ (q i).2 := fun i a m => (hq2 i).2.1 a (((hq3 i).1 a).mp m)
  have eqF : Le (Cf.F ⟨s2, c'.H, q2, A ++ c1.T⟩ B.D) (Cf.F ⟨s2, c'.H, q3, A ++ c1.T⟩ B.D) := fun a o h => by
    obtain ⟨g1, g2, g3, g4⟩ := F_eq.mp h
    exact F_eq.mpr ⟨g1, g2, fun ⟨i, m⟩ => g3 ⟨i, ((hq3 i).1 a).mp m⟩, g4⟩
  have eqG : Le (Cf.G ⟨s2, c'.H, q2, A ++ c1.T⟩) (Cf.G ⟨s2, c'.H, q3, A ++ c1.T⟩) := fun a o h => by
    obtain ⟨g2, g3, g4⟩ := G_eq.mp h
    exact G_eq.mpr ⟨g2, fun ⟨i, m⟩ => g3 ⟨i, ((hq3 i).1 a).mp m⟩, g4⟩
  have st := stF q3 h3
  have same : ∀ i : Nat, (∀ (j : Nat) (p : List Nat), mu[j]? = some true → xs[j]? ≠ some (.loc i p)) → Same i c1 ⟨s2, c'.H, q3, A ++ c1.T⟩ := fun i n => by
    refine ⟨p2 i n, (hq3 i).2.1 n, fun a m => ?_⟩
    obtain ⟨o, e, _⟩ := R.cell ⟨i, m⟩
    have e1 := (hq i).2.2.1 n
    have m2 := ((hq i).1 a).mp m
    rw [e1] at m2
    have m2 := m2.elim (fun z => (nomatch z)) fun z => z
    rw [e]; exact keepR (rest m2) e
  refine ⟨⟨s2, c'.H, q3, A ++ c1.T⟩, ⟨R.mk' st (fun a m ⟨i, z⟩ => ?_) lA (R.len.trans p1.symm) (fun i => ?_) (fun i k a m1 m2 => ?_) R.root, st, fun i n => same i fun j p h1 h2 => n (mutSlots_mem h1 h2)⟩, rfl, rfl, fun y v => own2 q3 h3 y v A⟩
  · rcases h3 i a z with z | z
    · exact AnM a m z
    · exact apart z (.inl m)
  · by_cases h : ∃ (j : Nat) (p : List Nat), mu[j]? = some true ∧ xs[j]? = some (.loc i p)
    · obtain ⟨j, p, h1, h2⟩ := h
      obtain ⟨x, u, k1, k2, k3⟩ := (hq3 i).2.2 j p h1 h2
      exact .inr (.inl ⟨x, u, k1, k2, k3.le eqF eqG fun _ _ _ h => h⟩)
    · exact .inl ⟨same i fun j p h1 h2 => h ⟨j, p, h1, h2⟩, fun _ _ => rfl⟩
  · have m1' := ((hq3 i).1 a).mp m1
    have m2' := ((hq3 k).1 a).mp m2
    have inR : ∀ {i : Nat}, a ∈ q2 i → (∃ j p, mu[j]? = some true ∧ xs[j]? = some (.loc i p) ∧ a ∈ c'.As j) ∨ a ∈ (q i).2 := fun {i} m => by
      by_cases h : ∃ (j : Nat) (p : List Nat), mu[j]? = some true ∧ xs[j]? = some (.loc i p)
      · obtain ⟨j, p, h1, h2⟩ := h
        exact (((hq2 i).2.2 j p h1 h2 a).mp m).imp_left fun z => ⟨j, p, h1, h2, z⟩
      · have e := (hq2 i).1 fun j p h1 h2 => h ⟨j, p, h1, h2⟩
        rw [e] at m
        have e1 := (hq i).2.2.1 fun j p h1 h2 => h ⟨j, p, h1, h2⟩
        have := ((hq i).1 a).mp m
        rw [e1] at this
        exact .inr (this.elim (fun z => (nomatch z)) fun z => z)
    rcases inR m1' with ⟨j, p, h1, h2, z1⟩ | z1
    · rcases inR m2' with ⟨j', p', h1', h2', z2⟩ | z2
      · have e := R'.dis j j' a z1 z2
        subst e
        rw [h2] at h2'; cases h2'; rfl
      · exact (apart z2 (.inr ⟨j, z1⟩)).elim
    · rcases inR m2' with ⟨j', p', h1', h2', z2⟩ | z2
      · exact (apart z1 (.inr ⟨j', z2⟩)).elim
      · exact R.dis i k a (((hq i).1 a).mpr (.inr z1)) (((hq k).1 a).mpr (.inr z2))
end
end Z

namespace Z
open PySem PySem.Spec PyProof.Rows L2
section
variable {X : Cx} {B : Bs} {W : WZ} {ms ma mb mc : List Nat} {a b d e o : Expr} {es : List Expr} {fa fb fc : St → Rs PV} {pos p p2 apos cpos : Pos} {ga : St → Rs (List PV)}
theorem call_end {c c1 : Cf} {σ : L2.St} {xs zs : List PV} {vs : List V} {mu : List Bool} {run : List PV → Fr} {mm : List Nat} {Q : VK} (a1 : Aft (kc X B) B ms [] c σ c1) (hv : Vps (kc X B) B c1 σ xs vs)
    (ea : argsOf c1.s mu xs = some zs) (n1 : okLocs mu xs = true) (n2 : (mutSlots mu xs).all (fun i => mm.contains i) = true) (p1 : (back c1.s mu xs (run zs)).post (fun x s' => ∀ v A c', Aft (kc X B) B (ms ++ mm) A c σ c' → c'.s = s' → Own (kc X B) (c'.F B.D) c'.G c'.H x v A → Q v (c'.R B)) W) :
    toSp (kc X B) mu run vs (c1.R B) Q (WE (WP (kc X B) B W) σ) := by
  obtain ⟨lm, lz, _⟩ := argsOf_get ea
  have sub : ∀ i ∈ mutSlots mu xs, i ∈ mm := fun i m => by simpa using List.all_eq_true.mp n2 i m
  obtain ⟨Bc, cc, e1, e2, e3, e4, Rc, e5, e6, e7, e8, core⟩ := call_core a1.rel hv ea n1
  have eR : ∀ c' : Cf, c'.R Bc = c'.R B := fun c' => by show lk Bc.L c'.H = lk B.L c'.H; rw [e1]
  refine ⟨by rw [← hv.length, lm], Bc, cc, zs, by show lk B.L c1.H = lk Bc.L cc.H; rw [e1, e2], e3, e4, Rc, e5, e6, e7, e8, ?_⟩
  revert p1
  unfold back
  cases q : run zs with
  | bad => exact fun p1 => p1.elim
  | ok y ys =>
    intro p1
    simp only at p1 ⊢
    intro ny nys v A c' R' st' es o
    subst es
    cases pb : putBack c1.s mu xs c'.s with
    | none => rw [pb] at p1; exact p1.elim
    | some s2 =>
      rw [pb] at p1
      obtain ⟨c2, a2, k1, k2, k3⟩ := core A c' s2 R' st' nys o.cells pb
      have aa : Aft (kc X B) B (ms ++ mm) A c σ c2 := by
        have := a1.trans (a2.more (ms' := mm) sub)
        simpa using this
      have := p1 v A c2 aa k1 (k3 y v ny o)
      rw [eR]
      show Q v (lk B.L c'.H)
      rw [← k2]; exact this
  | ex n ys =>
    intro p1
    simp only at p1 ⊢
    intro nys c' R' st' es
    subst es
    cases pb : putBack c1.s mu xs c'.s with
    | none => rw [pb] at p1; exact p1.elim
    | some s2 =>
      rw [pb] at p1
      obtain ⟨c2, a2, k1, k2, k3⟩ := core [] c' s2 R' st' nys (fun _ m => by cases m) pb
      refine ⟨rfl, n, c2, by rw [e3], ?_, a2.rel, by rw [k1]; exact p1⟩
      rw [eR]
      show lk B.L c'.H = lk B.L c2.H
      rw [k2]
theorem vf_call (mm : List Nat) {x : Str} {k : Nat} {mu : List Bool} {run : List PV → Fr} (F : Fn X.prog X.w (kc X B) X.mg X.base x k mu run) (hr : Room k X.A) (tk : Takes X (WP (kc X B) B W)) (ha : VA X B W ms (e :: es) ga) (hg : Gl X x) (hdb : (x == ("__debug__" : Str)) = false := by decide)
    (he : starEach (e :: es) X.env = (false, eval e X.env) :: starEach es X.env := by rfl) (hpl : (backTo pos (starEach es X.env)).any (·.1) = false := by rfl) : VF X B W (ms ++ mm) (.Call (.Name x p) (e :: es) [] pos) (callF mm mu run ga) := by
  obtain ⟨f, fd, ps, gm, kp, bd, ok⟩ := F.ex
  refine pe_imp (pe_callS (E := WE (WP (kc X B) B W)) ok hr hg gm kp bd (fun σ => passAt tk σ) ha hdb he hpl) fun σ H Q ⟨c, e, R, h⟩ => ?_
  subst e
  refine evA_run R (Rs.post_bind h) fun xs vs c1 a1 v1 p1 => ?_
  split at p1
  · rename_i zs ea
    by_cases n : (okLocs mu xs && (mutSlots mu xs).all (fun i => mm.contains i)) = true
    · rw [if_pos n] at p1
      have n := Bool.and_eq_true_iff.mp n
      exact call_end a1 v1.vps ea n.1 n.2 p1
    · rw [if_neg n] at p1; exact p1.elim
  · exact p1.elim
theorem takes0z : Takes X (WP (kc X B) B fun _ _ => False) := Takes.imp takes0 fun c d σ H h => by
  obtain ⟨_, n, c', _, _, R, hf⟩ := h
  exact hf
/-! ### a thing of one's own is changed -/
/-- what an expression means as a place: the slot i, the way there -/
def evL (K : KC) (B : Bs) (W : WZ) (i : Nat) (f : St → Option (List Nat)) : TE := fun σ Hr Q => ∃ c, Hr = c.R B ∧ Rel K B c σ ∧ ∃ q, f c.s = some q ∧ ∀ v c', Aft K B [] [] c σ c' → c'.s = c.s → (∃ u, σ[i]? = some (some u) ∧ atP c'.H u q = some v) → Q v (c'.R B)
def VL (X : Cx) (B : Bs) (W : WZ) (i : Nat) (e : Expr) (f : St → Option (List Nat)) : Prop := PE X e (evL (kc X B) B W i f)
def lVar (i : Nat) (s : St) : Option (List Nat) := match s[i]? with
  | some (some _) => some []
  | _ => none
theorem vl_var (i : Nat) {x : Str} (hN : X.N[i]? = some x := by rfl) (hv : Vis X.env.scope x := by first | exact Or.inl rfl | exact Or.inr (Or.inl rfl) | exact Or.inr (Or.inr rfl)) (hd : (x == ("__debug__" : Str)) = false := by decide) (hcd : (x == ("__classdict__" : Str)) = false := by decide) : VL X B W i (.Name x pos) (lVar i) := by
  refine pe_imp (pe_var hN hv hd hcd) fun σ H Q ⟨c, e, R, q, hq, h⟩ => ?_
  subst e
  unfold lVar at hq
  split at hq
  · rename_i y hy
    cases hq
    obtain ⟨v, h1, h2⟩ := R.own i y hy
    exact ⟨v, h1, h v c (.refl R) rfl ⟨v, h1, by rw [atP]⟩⟩
  · cases hq
/-- a new moment, held cells given away -/
theorem Rel.mkG {K : KC} {c c' : Cf} {σ σ' : L2.St} (R : Rel K B c σ) (keep : ∀ a o, ¬ (a ∈ c.T ∨ c.mine a) → c.H a = some o → c'.H a = some o) (new : ∀ a, a ∈ c'.T ∨ c'.mine a → (a ∈ c.T ∨ c.mine a) ∨ c.H a = none)
    (nT : ∀ (i : Nat) a, a ∈ c'.As i → a ∉ c'.T) (lT : ∀ a ∈ c'.T, ∃ o, c'.H a = some o ∧ NoT o) (len : σ'.length = c'.s.length)
    (each : Le (c.F B.D) (c'.F B.D) → Le c.G c'.G → ∀ i : Nat, (Same i c c' ∧ (∀ x, c.s[i]? = some (some x) → σ'[i]? = σ[i]?)) ∨ (∃ x v, c'.s[i]? = some (some x) ∧ σ'[i]? = some (some v) ∧ Own K (c'.F B.D) c'.G c'.H x v (c'.As i)) ∨ ((∀ x, c'.s[i]? ≠ some (some x)) ∧ c'.As i = []))
    (dis : ∀ (i j : Nat) a, a ∈ c'.As i → a ∈ c'.As j → i = j) (root : ∀ (i : Nat) v, B.root i = some v → σ'[i]? = some (some v)) : Rel K B c' σ' := by
  have lf : Le (c.F B.D) (c'.F B.D) := fun a o h => by
    obtain ⟨h1, h2, h3, h4⟩ := F_eq.mp h
    have n : ¬ (a ∈ c.T ∨ c.mine a) := fun z => z.elim h2 h3
    have n' : ¬ (a ∈ c'.T ∨ c'.mine a) := fun z => (new a z).elim n fun q => by rw [h4] at q; cases q
    exact F_eq.mpr ⟨h1, fun z => n' (.inl z), fun z => n' (.inr z), keep a o n h4⟩
  have lg : Le c.G c'.G := fun a o h => by
    obtain ⟨h2, h3, h4⟩ := G_eq.mp h
    have n : ¬ (a ∈ c.T ∨ c.mine a) := fun z => z.elim h2 h3
    have n' : ¬ (a ∈ c'.T ∨ c'.mine a) := fun z => (new a z).elim n fun q => by rw [h4] at q; cases q
    exact G_eq.mpr ⟨fun z => n' (.inl z), fun z => n' (.inr z), keep a o n h4⟩
  have each := each lf lg
  refine ⟨len, fun i x e => ?_, fun i n => ?_, dis, nT, fun a h d => ?_, fun a h => ?_, fun a o n h => ?_, fun a h => ?_, root, fun a ob h => ?_⟩
  · rcases each i with ⟨h, g⟩ | ⟨y, v, h1, h2, h3⟩ | ⟨h, _⟩
    · rw [h.s] at e
      obtain ⟨v, h1, h2⟩ := R.own i x e
      refine ⟨v, (g x e).trans h1, ?_⟩
      rw [h.As]
      exact h2.le lf lg fun a m o z => by rw [h.H a m]; exact z
    · rw [h1] at e; cases e
      exact ⟨v, h2, h3⟩
    · exact (h x e).elim
  · rcases each i with ⟨h, _⟩ | ⟨y, v, h1, _⟩ | ⟨_, h⟩
    · rw [h.As]; exact R.dead i fun x z => n x (by rw [h.s]; exact z)
    · exact (n y h1).elim
    · exact h
  · rcases new a h with z | z
    · exact R.nD a z d
    · obtain ⟨o, e, _⟩ := R.live a (.inr d)
      rw [e] at z; cases z
  · rcases h with h | h
    · exact lT a h
    · obtain ⟨o, e, n⟩ := R.live a (.inr h)
      exact ⟨o, keep a o (fun z => R.nD a z h) e, n⟩
  · have e := R.keep a o n h
    refine keep a o (fun z => ?_) e
    rcases R.new a z with q | q
    · exact n q
    · rw [h] at q; cases q
  · rcases new a h with z | z
    · exact R.new a z
    · by_cases n : a ∈ B.A0
      · exact .inl n
      · cases e : B.H0 a with
        | none => exact .inr rfl
        | some o => rw [R.keep a o n e] at z; cases z
  · obtain ⟨h1, h2, h3⟩ := R.lkd a ob h
    have n : ¬ (a ∈ c.T ∨ c.mine a) := fun z => z.elim h1 h2
    have n' : ¬ (a ∈ c'.T ∨ c'.mine a) := fun z => (new a z).elim n fun q => by rw [q] at h3; cases h3
    refine ⟨fun z => n' (.inl z), fun z => n' (.inr z), ?_⟩
    cases e : c.H a with
    | none => rw [e] at h3; cases h3
    | some o => rw [keep a o n e]; rw [e] at h3; exact h3
/-- the cell there is another one from now on -/
theorem Rel.upP {K : KC} {c : Cf} {σ : L2.St} {A T : List Addr} {i : Nat} {x : PV} {u : V} {q : List Nat} {y : PV} {v : V} (R : Rel K B c σ) (hT : c.T = A ++ T) (dT : ∀ a ∈ A, a ∉ T) (hx : c.s[i]? = some (some x)) (hu : σ[i]? = some (some u)) (hg : getP x q = some y) (hv : atP c.H u q = some v) :
    ∃ A1 : List Addr, Own K (c.F B.D) c.G c.H y v A1 ∧ (∀ a ∈ A1, a ∈ c.As i) ∧ ∀ (H' : Hp) (y' : PV) (A1' : List Addr), (∀ a, a ∉ A1 → ∀ o, c.H a = some o → H' a = some o) → (∀ a ∈ A1', a ∈ A1 ∨ a ∈ A ∨ c.H a = none) →
      (∀ (F' G' : Hp), Le (c.F B.D) F' → Le c.G G' → Own K F' G' H' y' v A1') → ∃ c', Rel K B c' σ ∧ c'.T = T ∧ c'.s = c.s.set i (some (setP x q y')) ∧ c'.H = H' ∧ (∀ a, c'.mine a → c.mine a ∨ a ∈ A ∨ c.H a = none) ∧ (∀ j, j ≠ i → Same j c c') ∧ Le (c.F B.D) (c'.F B.D) ∧ Le c.G c'.G := by
  obtain ⟨u', e1, o⟩ := R.own i x hx
  rw [hu] at e1; cases e1
  obtain ⟨v', A1, A2, k1, k2, k3, k4, k5⟩ := o.path q hg F_le
  rw [hv] at k1; cases k1
  refine ⟨A1, k2, fun a m => (k3 a).mpr (.inl m), fun H' y' A1' kH kA mk => ?_⟩
  have hi : i < c.s.length := (List.getElem?_eq_some_iff.mp hx).1
  have inT : ∀ {a}, a ∈ A → a ∈ c.T := fun m => by rw [hT]; exact List.mem_append_left _ m
  have inT2 : ∀ {a}, a ∈ T → a ∈ c.T := fun m => by rw [hT]; exact List.mem_append_right _ m
  have TnI : ∀ {a j}, a ∈ c.T → a ∉ c.As j := fun {a j} m z => R.nT j a z m
  have kR : ∀ a o, ¬ (a ∈ c.T ∨ c.mine a) → c.H a = some o → H' a = some o := fun a o n h => kH a (fun m => n (.inr ⟨i, (k3 a).mpr (.inl m)⟩)) o h
  have ap : ∀ a ∈ A1', a ∉ A2 := fun a m z => by
    have zi : a ∈ c.As i := (k3 a).mpr (.inr z)
    rcases kA a m with q' | q' | q'
    · exact k4 a q' z
    · exact TnI (inT q') zi
    · obtain ⟨o', e', _⟩ := R.cell ⟨i, zi⟩
      rw [e'] at q'; cases q'
  -- by As1 the heaps, by As2 the cells in their order
  have gen : ∀ As2 : Nat → List Addr, (∀ j, j ≠ i → As2 j = c.As j) → (∀ a, a ∈ As2 i ↔ a ∈ A1' ∨ a ∈ A2) → (Own K (Cf.F ⟨c.s.set i (some (setP x q y')), H', As2, T⟩ B.D) (Cf.G ⟨c.s.set i (some (setP x q y')), H', As2, T⟩) H' (setP x q y') u (As2 i) → Rel K B ⟨c.s.set i (some (setP x q y')), H', As2, T⟩ σ ∧ (∀ j, j ≠ i → Same j c ⟨c.s.set i (some (setP x q y')), H', As2, T⟩)) ∧
      (∀ a, Cf.mine ⟨c.s.set i (some (setP x q y')), H', As2, T⟩ a → c.mine a ∨ a ∈ A ∨ c.H a = none) ∧ Le (c.F B.D) (Cf.F ⟨c.s.set i (some (setP x q y')), H', As2, T⟩ B.D) ∧ Le c.G (Cf.G ⟨c.s.set i (some (setP x q y')), H', As2, T⟩) := by
    intro As2 h1 h2
    have mine : ∀ a, Cf.mine ⟨c.s.set i (some (setP x q y')), H', As2, T⟩ a → c.mine a ∨ a ∈ A ∨ c.H a = none := fun a ⟨j, m⟩ => by
      have m : a ∈ As2 j := m
      by_cases z : j = i
      · subst z
        rcases (h2 a).mp m with m | m
        · exact (kA a m).imp_left fun m => ⟨j, (k3 a).mpr (.inl m)⟩
        · exact .inl ⟨j, (k3 a).mpr (.inr m)⟩
      · rw [h1 j z] at m; exact .inl ⟨j, m⟩
    have new : ∀ a, a ∈ T ∨ Cf.mine ⟨c.s.set i (some (setP x q y')), H', As2, T⟩ a → (a ∈ c.T ∨ c.mine a) ∨ c.H a = none := fun a h => by
      rcases h with h | h
      · exact .inl (.inl (inT2 h))
      · rcases mine a h with z | z | z
        · exact .inl (.inr z)
        · exact .inl (.inl (inT z))
        · exact .inr z
    have lf : Le (c.F B.D) (Cf.F ⟨c.s.set i (some (setP x q y')), H', As2, T⟩ B.D) := fun a o h => by
      obtain ⟨g1, g2, g3, g4⟩ := F_eq.mp h
      have n : ¬ (a ∈ c.T ∨ c.mine a) := fun z => z.elim g2 g3
      have n' : ¬ (a ∈ T ∨ Cf.mine ⟨c.s.set i (some (setP x q y')), H', As2, T⟩ a) := fun z => (new a z).elim n fun q => by rw [g4] at q; cases q
      exact F_eq.mpr ⟨g1, fun z => n' (.inl z), fun z => n' (.inr z), kR a o n g4⟩
    have lg : Le c.G (Cf.G ⟨c.s.set i (some (setP x q y')), H', As2, T⟩) := fun a o h => by
      obtain ⟨g2, g3, g4⟩ := G_eq.mp h
      have n : ¬ (a ∈ c.T ∨ c.mine a) := fun z => z.elim g2 g3
      have n' : ¬ (a ∈ T ∨ Cf.mine ⟨c.s.set i (some (setP x q y')), H', As2, T⟩ a) := fun z => (new a z).elim n fun q => by rw [g4] at q; cases q
      exact G_eq.mpr ⟨fun z => n' (.inl z), fun z => n' (.inr z), kR a o n g4⟩
    have same : ∀ j, j ≠ i → Same j c ⟨c.s.set i (some (setP x q y')), H', As2, T⟩ := fun j n => by
      refine ⟨?_, h1 j n, fun a m => ?_⟩
      · simp only [List.getElem?_set_ne (Ne.symm n)]
      · obtain ⟨o', e', _⟩ := R.cell ⟨j, m⟩
        rw [e']
        exact kH a (fun z => n (R.dis j i a m ((k3 a).mpr (.inl z)))) o' e'
    have newA : ∀ {j a}, j ≠ i → a ∈ c.As j → a ∉ As2 i := fun {j a} n m z => by
      rcases (h2 a).mp z with z | z
      · rcases kA a z with z | z | z
        · exact n (R.dis j i a m ((k3 a).mpr (.inl z)))
        · exact TnI (inT z) m
        · obtain ⟨o', e', _⟩ := R.cell ⟨j, m⟩
          rw [e'] at z; cases z
      · exact n (R.dis j i a m ((k3 a).mpr (.inr z)))
    refine ⟨fun own => ⟨R.mkG kR new (fun j a m t => ?_) (fun a m => ?_) (by simp [R.len]) (fun _ _ j => ?_) (fun j k a m1 m2 => ?_) R.root, same⟩, mine, lf, lg⟩
    · have m : a ∈ As2 j := m
      have t : a ∈ T := t
      by_cases z : j = i
      · subst z
        rcases (h2 a).mp m with m | m
        · rcases kA a m with m | m | m
          · exact TnI (inT2 t) ((k3 a).mpr (.inl m))
          · exact dT a m t
          · obtain ⟨o', e', _⟩ := R.live a (.inl (inT2 t))
            rw [e'] at m; cases m
        · exact TnI (inT2 t) ((k3 a).mpr (.inr m))
      · rw [h1 j z] at m; exact TnI (inT2 t) m
    · obtain ⟨o', e', nt⟩ := R.live a (.inl (inT2 m))
      exact ⟨o', kH a (fun z => TnI (inT2 m) ((k3 a).mpr (.inl z))) o' e', nt⟩
    · by_cases z : j = i
      · subst z
        exact .inr (.inl ⟨_, u, List.getElem?_set_self hi, hu, own⟩)
      · exact .inl ⟨same j z, fun _ _ => rfl⟩
    · have m1 : a ∈ As2 j := m1
      have m2 : a ∈ As2 k := m2
      by_cases z : j = i
      · by_cases z2 : k = i
        · rw [z, z2]
        · rw [h1 k z2] at m2; rw [z] at m1
          exact (newA z2 m2 m1).elim
      · by_cases z2 : k = i
        · rw [h1 j z] at m1; rw [z2] at m2
          exact (newA z m1 m2).elim
        · rw [h1 j z] at m1; rw [h1 k z2] at m2
          exact R.dis j k a m1 m2
  obtain ⟨_, _, l1, l2⟩ := gen (fun j => if j = i then A1' ++ A2 else c.As j) (fun j n => by simp [n]) (fun a => by simp)
  obtain ⟨A', a1, a2⟩ := k5 _ _ H' y' A1' l1 l2 (fun a m o h => kH a (fun z => k4 a z m) o h) (mk _ _ l1 l2) ap
  obtain ⟨g1, g2, l3, l4⟩ := gen (fun j => if j = i then A' else c.As j) (fun j n => by simp [n]) (fun a => by simp [a2])
  have mem : ∀ j a, a ∈ (if j = i then A' else c.As j) ↔ a ∈ (if j = i then A1' ++ A2 else c.As j) := fun j a => by
    by_cases z : j = i
    · simp only [if_pos z]; rw [a2, List.mem_append]
    · simp only [if_neg z]
  obtain ⟨R2, same⟩ := g1 (by
    simp only [if_true]
    refine a1.le (fun a o h => ?_) (fun a o h => ?_) fun _ _ _ h => h
    · obtain ⟨g1, g2, g3, g4⟩ := F_eq.mp h
      exact F_eq.mpr ⟨g1, g2, fun ⟨j, m⟩ => g3 ⟨j, (mem j a).mp m⟩, g4⟩
    · obtain ⟨g2, g3, g4⟩ := G_eq.mp h
      exact G_eq.mpr ⟨g2, fun ⟨j, m⟩ => g3 ⟨j, (mem j a).mp m⟩, g4⟩)
  exact ⟨_, R2, rfl, rfl, rfl, g2, same, l3, l4⟩
theorem Aft.upP {K : KC} {c0 c c' : Cf} {σ : L2.St} {A A1 : List Addr} {i : Nat} {H' : Hp} (a : Aft K B ms A c0 σ c) (hA1 : ∀ x ∈ A1, x ∈ c.As i) (kH : ∀ x, x ∉ A1 → ∀ o, c.H x = some o → H' x = some o) (R' : Rel K B c' σ) (eT : c'.T = c0.T) (eH : c'.H = H') (mine : ∀ x, c'.mine x → c.mine x ∨ x ∈ A ∨ c.H x = none) (same : ∀ j, j ≠ i → Same j c c') : Aft K B (ms ++ [i]) [] c0 σ c' := by
  refine ⟨R', ⟨fun x o n h => ?_, fun x h => ?_, by rw [eT]; rfl⟩, fun j n => ?_⟩
  · rw [eH]
    refine kH x (fun m => ?_) o (a.st.keep x o n h)
    rcases a.st.new x (.inr ⟨i, hA1 x m⟩) with z | z
    · exact n z
    · rw [h] at z; cases z
  · rcases h with h | h
    · cases h
    · rcases mine x h with z | z | z
      · exact a.st.new x (.inr z)
      · exact a.st.new x (.inl z)
      · by_cases n : c0.mine x
        · exact .inl n
        · cases e : c0.H x with
          | none => exact .inr rfl
          | some o => rw [a.st.keep x o n e] at z; cases z
  · have n1 : j ∉ ms := fun z => n (List.mem_append_left _ z)
    have n2 : j ≠ i := fun z => n (by rw [z]; simp)
    exact (a.fr j n1).trans (same j n2)
end
end Z

namespace Z
open PySem PySem.Spec PyProof.Rows L2
section
variable {K : KC} {F G H H' : Hp}
theorem atP_keep : ∀ (q : List Nat) {x : PV} {u : V} {A : List Addr} {y : PV}, Own K F G H x u A → getP x q = some y → Le F H → Le F H' → (∀ a ∈ A, H' a = H a) → atP H' u q = atP H u q
  | [], _, _, _, _, _, _, _, _, _ => by rw [atP, atP]
  | n :: q, x, u, A, y, o, e, lf, lf', k => by
    have main : ∀ {a : Addr} {ws : List V} {xs : List PV} {S : List Addr}, (∃ ob, H a = some ob ∧ kidO ob n = ws[n]?) → H' a = H a → Owns K F G H xs ws S → (∀ b ∈ S, H' b = H b) → (xs[n]?).bind (fun y => getP y q) = some y → atP H' (.ref a) (n :: q) = atP H (.ref a) (n :: q) := by
      intro a ws xs S hk hh os hS e
      obtain ⟨ob, e1, e2⟩ := hk
      cases qz : xs[n]? with
      | none => rw [qz] at e; cases e
      | some z =>
        rw [qz] at e
        obtain ⟨w, S1, S2, h1, h2, h3, h4, h5⟩ := os.pick qz
        rw [atP, atP, hh, e1]
        show (kidO ob n).bind _ = (kidO ob n).bind _
        rw [e2, h1]
        exact atP_keep q h2 e lf lf' fun b m => hS b ((h3 b).mpr (.inl m))
    cases x with
    | cell f t xs =>
      cases f with
      | own =>
        rw [getP] at e
        cases o with
        | fz h => cases h
        | bw h => cases h
        | cell i os d => exact main i.kid (k _ (List.mem_append_left _ i.mem)) os (fun b m => k b (List.mem_append_right _ m)) e
      | sh b => rw [getP] at e; cases e; all_goals (intros; rename_i h; cases h)
    | tup xs =>
      rw [getP] at e
      by_cases nn : PV.nowns xs = true
      · rw [if_pos nn] at e; cases e
      · rw [if_neg nn] at e
        cases o with
        | fz h =>
          have := h.nown (by decide) _ _
          rw [PV.nown] at this; exact (nn this).elim
        | bw h =>
          have := h.nown (by decide) _ _
          rw [PV.nown] at this; exact (nn this).elim
        | tup ha os => exact main ⟨_, lf _ _ ha, rfl⟩ ((lf' _ _ ha).trans (lf _ _ ha).symm) os k e
    | non => rw [getP] at e; cases e; all_goals (intros; rename_i h; cases h)
    | bl b => rw [getP] at e; cases e; all_goals (intros; rename_i h; cases h)
    | int b => rw [getP] at e; cases e; all_goals (intros; rename_i h; cases h)
    | str b => rw [getP] at e; cases e; all_goals (intros; rename_i h; cases h)
    | cl b => rw [getP] at e; cases e; all_goals (intros; rename_i h; cases h)
    | exc b => rw [getP] at e; cases e; all_goals (intros; rename_i h; cases h)
    | obj b => rw [getP] at e; cases e; all_goals (intros; rename_i h; cases h)
    | loc b q => rw [getP] at e; cases e; all_goals (intros; rename_i h; cases h)
theorem Owns.append : ∀ {xs ys : List PV} {vs ws : List V} {S T : List Addr}, Owns K F G H xs vs S → Owns K F G H ys ws T → (∀ a ∈ S, a ∉ T) → Owns K F G H (xs ++ ys) (vs ++ ws) (S ++ T)
  | [], _, _, _, _, _, h, g, _ => by cases h; exact g
  | x :: xs, _, _, _, _, _, h, g, d => by
    cases h with
    | cons a b e =>
      rw [List.append_assoc]
      refine .cons a (Owns.append b g fun z m => d z (List.mem_append_right _ m)) fun z m q => ?_
      rcases List.mem_append.mp q with q | q
      · exact e z m q
      · exact d z (List.mem_append_left _ m) q
theorem Own.single {x : PV} {v : V} {A : List Addr} (o : Own K F G H x v A) : Owns K F G H [x] [v] A := by
  have := Owns.cons o .nil (fun _ _ z => by cases z)
  simpa using this
end
section
variable {X : Cx} {B : Bs} {W : WZ} {ms ma mb mc : List Nat} {a b d e o : Expr} {es : List Expr} {fa fb fc : St → Rs PV} {pos p p2 apos cpos : Pos} {ga : St → Rs (List PV)} {i : Nat} {fl : St → Option (List Nat)}
theorem evL_run {K : KC} {c : Cf} {σ : L2.St} {q : List Nat} {Q : VK} (R : Rel K B c σ) (h : fl c.s = some q) (k : ∀ v u c', Aft K B [] [] c σ c' → c'.s = c.s → σ[i]? = some (some u) → atP c'.H u q = some v → Q v (c'.R B)) : evL K B W i fl σ (c.R B) Q :=
  ⟨c, rfl, R, q, h, fun v c' a e ⟨u, h1, h2⟩ => k v u c' a e h1 h2⟩
/-- the place is the same behind another expression -/
theorem stay {K : KC} {c c1 : Cf} {σ : L2.St} {A : List Addr} {q : List Nat} {u v : V} {x y : PV} (R : Rel K B c σ) (a : Aft K B ms A c σ c1) (hq : q = [] ∨ i ∉ ms) (hu : σ[i]? = some (some u)) (hv : atP c.H u q = some v) (hx : c1.s[i]? = some (some x)) (hg : getP x q = some y) : atP c1.H u q = some v := by
  rcases hq with rfl | n
  · rw [atP] at hv ⊢; exact hv
  · have s := a.fr i n
    rw [s.s] at hx
    obtain ⟨u', e1, o⟩ := R.own i x hx
    rw [hu] at e1; cases e1
    rw [atP_keep q o hg F_le (a.st.F.trans F_le) s.H]; exact hv
/-- a cell of one's own is changed -/
theorem cellUp {K : KC} {c0 c : Cf} {σ : L2.St} {A : List Addr} {q : List Nat} {u v : V} {x : PV} {t : Tg} {xs : List PV} (R0 : Rel K B c0 σ) (a1 : Aft K B ms A c0 σ c) (hx : c.s[i]? = some (some x)) (hu : σ[i]? = some (some u)) (hg : getP x q = some (.cell .own t xs)) (hv : atP c.H u q = some v) :
    ∃ (p : Addr) (ws : List V) (A0 S : List Addr), v = .ref p ∧ IsO K t c.H p ws A0 ∧ Owns K (c.F B.D) c.G c.H xs ws S ∧ c.mine p ∧ (∀ b ∈ A, b ∉ S) ∧ ∀ (t' : Tg) (xs' : List PV) (ws' : List V) (S' : List Addr) (ob : HO), IsO K t' (upd c.H p ob) p ws' A0 → (∀ b ∈ S', b ∈ S ∨ b ∈ A) →
      (∀ (F' G' : Hp), Le (c.F B.D) F' → Le c.G G' → (∀ b ∈ S', ∀ o, c.H b = some o → upd c.H p ob b = some o) → Owns K F' G' (upd c.H p ob) xs' ws' S') → ∃ c', Aft K B (ms ++ [i]) [] c0 σ c' ∧ c'.s = c.s.set i (some (setP x q (.cell .own t' xs'))) ∧ c'.H = upd c.H p ob ∧ Le (c.F B.D) (c'.F B.D) ∧ Le c.G c'.G := by
  obtain ⟨A1, o, sub, up⟩ := a1.rel.upP a1.st.T (a1.heldT R0) hx hu hg hv
  cases o with
  | fz h => cases h
  | bw h => cases h
  | cell io os dd =>
    rename_i p ws A0 S
    have hS : ∀ b ∈ S, b ∈ c.As i := fun b m => sub b (List.mem_append_right _ m)
    have hp : p ∈ c.As i := sub p (List.mem_append_left _ io.mem)
    have An : ∀ b ∈ A, b ∉ c.As i := fun b m z => a1.heldM b m ⟨i, z⟩
    refine ⟨p, ws, A0, S, rfl, io, os, ⟨i, hp⟩, fun b m z => An b m (hS b z), fun t' xs' ws' S' ob hI hS' mk => ?_⟩
    have apS : ∀ b ∈ S', b ∉ A0 := fun b m z => by
      rcases hS' b m with m | m
      · exact dd b z m
      · exact An b m (sub b (List.mem_append_left _ z))
    have hH : ∀ b, b ∉ A0 ++ S → ∀ o, c.H b = some o → upd c.H p ob b = some o := fun b n o h => by
      rw [upd_ne (fun z => n (by rw [z]; exact List.mem_append_left _ io.mem))]; exact h
    obtain ⟨c', R', e1, e2, e3, e4, e5, l1, l2⟩ := up (upd c.H p ob) (.cell .own t' xs') (A0 ++ S') hH (fun b m => by
      rcases List.mem_append.mp m with m | m
      · exact .inl (List.mem_append_left _ m)
      · rcases hS' b m with m | m
        · exact .inl (List.mem_append_right _ m)
        · exact .inr (.inl m)) fun F' G' l1 l2 => .cell hI (mk F' G' l1 l2 fun b m o h => by
        rw [upd_ne (fun z => apS b m (by rw [z]; exact io.mem))]; exact h) fun b m z => apS b z m
    exact ⟨c', a1.upP sub hH R' e1 e3 e4 e5, e2, e3, l1, l2⟩
theorem Rel.lkOwn {K : KC} {c : Cf} {σ : L2.St} (R : Rel K B c σ) {p : Addr} (h : c.mine p) : c.R B p = c.H p ∧ ∀ ob, upd (c.R B) p ob = lk B.L (upd c.H p ob) := by
  have l := R.lkMine (.inr h)
  exact ⟨lk_none l, fun ob => lk_upd l⟩
/-- where the path stays good -/
def Stb (fl : St → Option (List Nat)) (i : Nat) (ms : List Nat) : Prop := (∀ s q, fl s = some q → q = []) ∨ i ∉ ms
theorem stb_var {i : Nat} {ms : List Nat} : Stb (lVar i) i ms := .inl fun s q h => by
  unfold lVar at h
  split at h <;> cases h
  rfl
theorem Stb.at {s : St} {q : List Nat} (h : Stb fl i ms) (e : fl s = some q) : q = [] ∨ i ∉ ms := h.imp_left fun h => h s q e
/-- the list of one's own there -/
def lstAt (s : St) (i : Nat) (q : List Nat) : Option (PV × List PV) := match s[i]? with
  | some (some x) => match getP x q with
    | some (.cell .own .lst xs) => some (x, xs)
    | _ => none
  | _ => none
theorem lstAt_ok {s : St} {q : List Nat} {x : PV} {xs : List PV} (h : lstAt s i q = some (x, xs)) : s[i]? = some (some x) ∧ getP x q = some (.cell .own .lst xs) := by
  unfold lstAt at h
  split at h
  · rename_i x' e
    split at h
    · rename_i xs' e2; cases h; exact ⟨e, e2⟩
    · cases h
  · cases h
/-! o.append(e) -/
def eApp (i : Nat) (fl : St → Option (List Nat)) (fe : St → Rs PV) (s : St) : Rs PV := match fl s with
  | some q => match lstAt s i q with
    | some _ => (fe s).bind fun y s1 => match lstAt s1 i q with
      | some (x, xs) => if xs.length < sizeLine then .ok .non (s1.set i (some (setP x q (.cell .own .lst (xs ++ [y]))))) else .bad
      | none => .bad
    | none => .bad
  | none => .bad
theorem ve_append (ho : VL X B W i o fl) (he : VF X B W ms e fa) (hst : Stb fl i ms) (hbase : attributeBase o "append" X.env (eval o X.env) = eval o X.env := by rfl)
    (hfew : ((backTo cpos (starEach (e :: []) X.env)).all (fun x => !x.1) && (backToKw cpos (keywordEach [] X.env)).all (fun x => x.1.isSome) && decide ((e :: []).length + ([] : List Keyword).length + (if ([] : List Keyword).isEmpty then 0 else 1) < 30)) = true := by rfl)
    (hline : (apos.endLine == cpos.line) = true := by rfl) (hs : starEach (e :: []) X.env = (false, eval e X.env) :: starEach [] X.env := by rfl) (hplain : (backTo cpos (starEach [] X.env)).any (·.1) = false := by rfl) :
    VE X B W (ms ++ [i]) (.Call (.Attribute o "append" apos) [e] [] cpos) (eApp i fl fa) := by
  refine pe_imp (pe_bm PySem.F.plainAttrs_list PySem.F.slot_list_append PySem.F.type_list_append mt_append ho (pa_cons he pa_nil hs) hbase hfew hline hs hplain) fun σ H Q ⟨c, e, R, h⟩ => ?_
  subst e
  unfold eApp at h
  split at h
  · rename_i q hq
    split at h
    · rename_i q0 h0
      obtain ⟨x0, xs0⟩ := q0
      obtain ⟨hx0, hg0⟩ := lstAt_ok h0
      refine evL_run R hq fun v u c0 a0 e0 hu hv => ?_
      have hx0' := hx0
      rw [← e0] at hx0'
      obtain ⟨p0, ws0, A00, S0, rfl, io0, _, m0, _, _⟩ := cellUp R a0 hx0' hu hg0 hv
      have l0 := a0.rel.lkOwn m0
      refine ⟨.inl ⟨rfl, _, .inl (.inl (l0.1.trans io0.1))⟩, ?_⟩
      rw [← e0] at h
      refine evF_run a0.rel (Rs.post_bind h) fun y w A c1 a1 oy p1 => ?_
      split at p1
      · rename_i x xs h1
        obtain ⟨hx1, hg1⟩ := lstAt_ok h1
        by_cases n : xs.length < sizeLine
        · rw [if_pos n] at p1
          have hv1 := stay a0.rel a1 (hst.at hq) hu hv hx1 hg1
          obtain ⟨p1', ws, A0, S, ep, io, os, m1, dA, up⟩ := cellUp a0.rel a1 hx1 hu hg1 hv1
          cases ep
          have l1 := a1.rel.lkOwn m1
          obtain ⟨ioH, ioA⟩ := io
          refine ⟨p0, ws, w, rfl, rfl, l1.1.trans ioH, by rw [← os.length]; exact n, ?_⟩
          obtain ⟨c', a', e1, e2, _⟩ := up .lst (xs ++ [y]) (ws ++ [w]) (S ++ A) (.lst (ws ++ [w])) ⟨upd_same, ioA⟩ (fun b m => List.mem_append.mp m) fun F' G' lf lg k => (os.le lf lg fun b m o h => k b (List.mem_append_left _ m) o h).append ((oy.le lf lg fun b m o h => k b (List.mem_append_right _ m) o h).single) fun b m z => dA b z m
          have aa : Aft (kc X B) B (ms ++ [i]) [] c σ c' := by
            have := a0.trans a'
            simpa using this
          have := p1 .non c' aa e1 (.inr .non)
          rw [l1.2, ← e2]; exact this
        · rw [if_neg n] at p1; exact p1.elim
      · exact p1.elim
    · exact h.elim
  · exact h.elim
/-! o.pop() -/
def ePop (i : Nat) (fl : St → Option (List Nat)) (s : St) : Rs PV := match fl s with
  | some q => match lstAt s i q with
    | some (x, xs) => match xs[xs.length - 1]? with
      | some y => if y.nown then .ok y (s.set i (some (setP x q (.cell .own .lst xs.dropLast)))) else .bad
      | none => .bad
    | none => .bad
  | none => .bad
theorem Owns.dropLast {K : KC} {F G H : Hp} : ∀ {xs : List PV} {ws : List V} {S : List Addr}, Owns K F G H xs ws S → ∃ S', Owns K F G H xs.dropLast ws.dropLast S' ∧ ∀ b ∈ S', b ∈ S
  | [], _, _, h => by cases h; exact ⟨[], .nil, fun b m => m⟩
  | [x], _, _, h => by
    cases h with
    | cons a b d => cases b; exact ⟨[], .nil, fun b m => by cases m⟩
  | x :: y :: xs, _, _, h => by
    cases h with
    | cons a r d =>
      cases r with
      | cons a2 r2 d2 =>
        obtain ⟨S', h1, h2⟩ := Owns.dropLast (Owns.cons a2 r2 d2)
        refine ⟨_, .cons a h1 fun b m z => d b m (h2 b z), fun b m => ?_⟩
        rcases List.mem_append.mp m with m | m
        · exact List.mem_append_left _ m
        · exact List.mem_append_right _ (h2 b m)
theorem ve_pop (ho : VL X B W i o fl) (hbase : attributeBase o "pop" X.env (eval o X.env) = eval o X.env := by rfl) (hline : (apos.endLine == cpos.line) = true := by rfl) : VE X B W [i] (.Call (.Attribute o "pop" apos) [] [] cpos) (ePop i fl) := by
  refine pe_imp (pe_bm0 PySem.F.plainAttrs_list PySem.F.slot_list_pop PySem.F.type_list_pop mt_pop ho hbase hline) fun σ H Q ⟨c, e, R, h⟩ => ?_
  subst e
  unfold ePop at h
  split at h
  · rename_i q hq
    split at h
    · rename_i x xs h0
      obtain ⟨hx0, hg0⟩ := lstAt_ok h0
      split at h
      · rename_i y hy
        by_cases n : y.nown = true
        · rw [if_pos n] at h
          refine evL_run R hq fun v u c0 a0 e0 hu hv => ?_
          rw [← e0] at hx0
          obtain ⟨p0, ws, A0, S, rfl, io, os, m0, _, up⟩ := cellUp R a0 hx0 hu hg0 hv
          have l0 := a0.rel.lkOwn m0
          obtain ⟨ioH, ioA⟩ := io
          obtain ⟨w, S1, S2, k1, k2, k3, k4, k5⟩ := os.pick hy
          have eS := k2.nown n
          rw [eS] at k2
          rw [os.length] at k1
          refine ⟨.inl ⟨rfl, _, .inl (.inl (l0.1.trans ioH))⟩, p0, ws, w, rfl, rfl, l0.1.trans ioH, k1, ?_⟩
          obtain ⟨S', d1, d2⟩ := os.dropLast
          obtain ⟨c', a', e1, e2, l1, l2⟩ := up .lst xs.dropLast ws.dropLast S' (.lst ws.dropLast) ⟨upd_same, ioA⟩ (fun b m => .inl (d2 b m)) fun F' G' lf lg k => d1.le lf lg k
          have := h w c' a' (by rw [e1, e0]) (.inr (k2.le l1 l2 (fun _ m => by cases m)))
          rw [l0.2, ← e2]; exact this
        · rw [if_neg n] at h; exact h.elim
      · exact h.elim
    · exact h.elim
  · exact h.elim
/-! o[k] = e -/
def sSetI (i : Nat) (fe : St → Rs PV) (fl : St → Option (List Nat)) (fk : St → Rs PV) : Sm := fun s => (fe s).bind fun y s1 => match fl s1 with
  | some q => match lstAt s1 i q with
    | some _ => (fk s1).bind fun k s2 => match k, lstAt s2 i q with
      | .int z, some (x, xs) => match ixN xs.length z with
        | some n => .ok .nx (s2.set i (some (setP x q (.cell .own .lst (xs.set n y)))))
        | none => .bad
      | _, _ => .bad
    | none => .bad
  | none => .bad
theorem Rel.held {K : KC} {c : Cf} {σ : L2.St} (R : Rel K B c σ) : True := trivial
theorem vs_setI {tg : Pos} (he : VF X B W ms e fa) (ho : VL X B W i o fl) (hi : VE X B W [] b fb) (hg : ∀ {T1 T2 : TE}, PE X o T1 → PE X b T2 → PG X (.Subscript o b tg) (gSub T1 T2 rSetL) := by exact fun h1 h2 => pg_sub h1 h2 set_list)
    (hs : swapsWithSole [.Subscript o b tg] e pos.line X.env = pure false := by rfl) (hw : swappedStores [.Subscript o b tg] e X.env = pure none := by rfl)
    (h1 : (assignEach [.Subscript o b tg] X.env).map (·.2) = [assign (.Subscript o b tg) X.env] := by rfl) : VS X B W (.Assign [.Subscript o b tg] e pos) (sSetI i fa fl fb) := by
  refine ps_imp (ps_asg he (hg ho hi) hs hw h1) fun D σ H ⟨c, e, R, T0, h⟩ => ?_
  subst e
  refine evF_run R (Rs.post_bind h) fun y w A c1 a1 oy p1 => ?_
  split at p1
  · rename_i q hq
    split at p1
    · rename_i q0 h0
      show evL (kc X B) B W i fl σ (c1.R B) _
      refine evL_run a1.rel hq fun v u c2 a2 e2 hu hv => ?_
      rw [← e2] at p1
      show evE (kc X B) B W [] fb σ (c2.R B) _
      refine evE_run a2.rel (Rs.post_bind p1) fun k kv c3 a3 v3 p3 => ?_
      split at p3
      · rename_i z x xs h3
        obtain ⟨hx3, hg3⟩ := lstAt_ok h3
        split at p3
        · rename_i n hn
          have hv3 := stay a2.rel a3 (.inr (by simp)) hu hv hx3 hg3
          have a13 : Aft (kc X B) B ms A c σ c3 := by
            have := (a1.trans a2).trans a3
            simpa using this
          have oy3 : Own (kc X B) (c3.F B.D) c3.G c3.H y w A := (oy.le a2.st.F a2.st.G fun b m o h => a2.st.keep b o (a1.heldM b m) h).le a3.st.F a3.st.G fun b m o h => a3.st.keep b o (fun ⟨j, mj⟩ => by
            have s := a2.fr j (by simp)
            rw [s.As] at mj
            exact a1.heldM b m ⟨j, mj⟩) h
          obtain ⟨p0, ws, A0, S, rfl, io, os, m0, dA, up⟩ := cellUp R a13 hx3 hu hg3 hv3
          have l0 := a3.rel.lkOwn m0
          obtain ⟨ioH, ioA⟩ := io
          have hnl : n < xs.length := (ixN_seq hn).2.1
          obtain ⟨w0, S1, S2, k1, k2, k3, k4, k5⟩ := os.pick (List.getElem?_eq_getElem hnl)
          refine ⟨p0, ws, z, n, rfl, v3.int, l0.1.trans ioH, by rw [← os.length]; exact hn, ?_⟩
          have dA2 : ∀ b ∈ A, b ∉ S2 := fun b m z => dA b m ((k3 b).mpr (.inr z))
          obtain ⟨S', s1, s2⟩ := k5 (c3.F B.D) c3.G c3.H y w A (Le.refl _) (Le.refl _) (fun _ _ _ h => h) oy3 dA2
          obtain ⟨c', a', e1, e2', _⟩ := up .lst (xs.set n y) (ws.set n w) S' (.lst (ws.set n w)) ⟨upd_same, ioA⟩ (fun b m => ((s2 b).mp m).elim .inr fun m => .inl ((k3 b).mpr (.inr m))) fun F' G' lf lg k => s1.le lf lg k
          have := p3 σ c' a'.rel a'.st e1
          rw [l0.2, ← e2']; exact this
        · exact p3.elim
      · exact p3.elim
    · exact p1.elim
  · exact p1.elim
end
end Z

namespace Z
open PySem PySem.Spec PyProof.Rows L2
/-! ### comprehensions -/
def noEx {α : Type} (r : Rs α) : Rs α := match r with
  | .ex _ _ => .bad
  | r => r
theorem noEx_post {α : Type} {r : Rs α} {P : α → St → Prop} {W : WZ} (h : (noEx r).post P W) : r.post P (fun _ _ => False) := by
  cases r <;> exact h
def lcGo (js : List Nat) (tgt : PV → Option (List PV)) (ft : St → Rs Bool) (fe : St → Rs PV) : List PV → List PV → St → Rs (List PV)
  | [], acc, s => .ok acc s
  | y :: ys, acc, s => match tgt y with
    | some zs => if zs.length = js.length ∧ js.all (fun j => decide (j < s.length)) then (ft (setAll js zs s)).bind fun b s1 => if b then (fe s1).bind fun z s2 => if acc.length < sizeLine then lcGo js tgt ft fe ys (acc ++ [z]) (kill js s2) else .bad else lcGo js tgt ft fe ys acc (kill js s1) else .bad
    | none => .bad
def okOrig (s : St) (js : List Nat) : Bool := js.all fun j => match s[j]? with
  | some (some x) => x.nown
  | some none => true
  | none => false
theorem okOrig_lt {s : St} {js : List Nat} {j : Nat} (h : okOrig s js = true) (m : j ∈ js) : j < s.length := by
  have := List.all_eq_true.mp h j m
  cases e : s[j]? with
  | none => rw [e] at this; cases this
  | some o => exact (List.getElem?_eq_some_iff.mp e).1
def restore (js : List Nat) (s0 s : St) : St := js.foldl (fun s j => s.set j ((s0[j]?).join)) s
def lcEnd (js : List Nat) (s1 : St) (r : Rs (List PV)) : Rs PV := (noEx r).bind fun acc s2 => .ok (.cell .own .lst acc) (restore js s1 s2)
def fLc (js : List Nat) (tgt : PV → Option (List PV)) (fi : St → Rs PV) (ft : St → Rs Bool) (fe : St → Rs PV) (s : St) : Rs PV := (fi s).bind fun x s1 => match itemsOf x with
  | some xs => if okOrig s1 js then lcEnd js s1 (lcGo js tgt ft fe xs [] (kill js s1)) else .bad
  | none => .bad
def fLcR (js : List Nat) (fi : St → Rs (List PV)) (ft : St → Rs Bool) (fe : St → Rs PV) (s : St) : Rs PV := (fi s).bind fun ns s1 => match ns with
  | [.int z] => if -(2 ^ 62) ≤ z ∧ z < 2 ^ 62 ∧ okOrig s1 js then lcEnd js s1 (lcGo js (fun y => some [y]) ft fe (rangeI 0 z.toNat) [] (kill js s1)) else .bad
  | _ => .bad
section
variable {K : KC} {B : Bs} {c c1 : Cf} {σ : L2.St}
/-- names that the block has for itself -/
theorem Rel.wipe1 (R : Rel K B c σ) (j : Nat) (hr : B.root j = none) (n : ∀ x, c.s[j]? = some (some x) → x.nown = true) : Rel K B { c with s := c.s.set j none } (σ.set j none) := by
  have eA : c.As j = [] := by
    by_cases e : ∃ x, c.s[j]? = some (some x)
    · obtain ⟨x, e⟩ := e
      obtain ⟨v, _, o⟩ := R.own j x e
      exact o.nown (n x e)
    · exact R.dead j fun x z => e ⟨x, z⟩
  refine ⟨by simp [R.len], fun i x e => ?_, fun i m => ?_, R.dis, R.nT, R.nD, R.live, R.keep, R.new, fun i v h => ?_, R.lkd⟩
  · by_cases z : i = j
    · subst z
      by_cases hi : i < c.s.length
      · simp only [List.getElem?_set_self hi] at e; cases e
      · have : (c.s.set i none)[i]? = none := List.getElem?_eq_none (by simp; omega)
        simp only [this] at e; cases e
    · simp only [List.getElem?_set_ne (Ne.symm z)] at e
      obtain ⟨v, h1, h2⟩ := R.own i x e
      exact ⟨v, by rw [List.getElem?_set_ne (Ne.symm z)]; exact h1, h2⟩
  · by_cases z : i = j
    · rw [z]; exact eA
    · refine R.dead i fun x q => m x ?_
      simp only [List.getElem?_set_ne (Ne.symm z)]; exact q
  · have ne : i ≠ j := fun z => by rw [z, hr] at h; cases h
    rw [List.getElem?_set_ne (Ne.symm ne)]; exact R.root i v h
theorem Rel.wipes : ∀ (js : List Nat), (∀ j ∈ js, B.root j = none) → (∀ j ∈ js, ∀ x, c.s[j]? = some (some x) → x.nown = true) → Rel K B c σ → Rel K B { c with s := js.foldr (fun j s => s.set j none) c.s } (wipe σ js)
  | [], _, _, R => R
  | j :: js, hr, n, R => by
    have ih := Rel.wipes js (fun k m => hr k (List.mem_cons_of_mem _ m)) (fun k m => n k (List.mem_cons_of_mem _ m)) R
    have := ih.wipe1 j (hr j List.mem_cons_self) fun x e => ?_
    · simpa [wipe] using this
    · have get : ∀ (js : List Nat) (x : PV), (js.foldr (fun j s => s.set j none) c.s)[j]? = some (some x) → c.s[j]? = some (some x) := by
        intro js
        induction js with
        | nil => exact fun x h => h
        | cons k js ih =>
          intro x h
          rw [List.foldr_cons] at h
          by_cases z : k = j
          · subst z
            by_cases hi : k < (js.foldr (fun j s => s.set j none) c.s).length
            · rw [List.getElem?_set_self hi] at h; cases h
            · rw [List.getElem?_eq_none (by simp; omega)] at h; cases h
          · rw [List.getElem?_set_ne z] at h; exact ih x h
      exact n j List.mem_cons_self x (get js x e)
theorem Rel.unwipe1 {j : Nat} {ox : Option PV} (R : Rel K B c (σ.set j none)) (hl : j < σ.length) (hr : ∀ v, B.root j = some v → σ[j]? = some (some v)) (hx : ∀ x, ox = some x → ∃ v, σ[j]? = some (some v) ∧ Own K (c.F B.D) c.G c.H x v []) : Rel K B { c with s := c.s.set j ox } σ := by
  have hls : j < c.s.length := by rw [← R.len]; simpa using hl
  have nj : ∀ x, c.s[j]? ≠ some (some x) := fun x e => by
    obtain ⟨v, h1, _⟩ := R.own j x e
    rw [List.getElem?_set_self hl] at h1; cases h1
  have eA := R.dead j nj
  refine ⟨by have := R.len; simpa using this, fun i x e => ?_, fun i m => ?_, R.dis, R.nT, R.nD, R.live, R.keep, R.new, fun i v h => ?_, R.lkd⟩
  · by_cases z : i = j
    · subst z
      simp only [List.getElem?_set_self hls, Option.some.injEq] at e
      obtain ⟨v, h1, h2⟩ := hx x e
      exact ⟨v, h1, by show Own K _ _ _ x v (c.As i); rw [eA]; exact h2⟩
    · simp only [List.getElem?_set_ne (Ne.symm z)] at e
      obtain ⟨v, h1, h2⟩ := R.own i x e
      rw [List.getElem?_set_ne (Ne.symm z)] at h1
      exact ⟨v, h1, h2⟩
  · by_cases z : i = j
    · rw [z]; exact eA
    · refine R.dead i fun x q => m x ?_
      simp only [List.getElem?_set_ne (Ne.symm z)]; exact q
  · by_cases z : i = j
    · rw [z] at h ⊢; exact hr v h
    · have := R.root i v h
      rw [List.getElem?_set_ne (Ne.symm z)] at this; exact this
theorem Rel.unwipes {s0 : St} : ∀ (js : List Nat) {c : Cf}, Rel K B c (wipe σ js) → (∀ j ∈ js, j < σ.length) → (∀ j ∈ js, B.root j = none) → js.Nodup → (∀ j ∈ js, ∀ x, s0[j]? = some (some x) → ∃ v, σ[j]? = some (some v) ∧ Own K (c.F B.D) c.G c.H x v []) → ∃ s', s' = js.foldl (fun s j => s.set j ((s0[j]?).join)) c.s ∧ Rel K B { c with s := s' } σ
  | [], c, R, _, _, _, _ => ⟨_, rfl, R⟩
  | j :: js, c, R, hl, hr, nd, hx => by
    have nd' := List.nodup_cons.mp nd
    have lw : j < (wipe σ js).length := by rw [wipe_length]; exact hl j List.mem_cons_self
    have gw : ∀ {js : List Nat} {v : V}, j ∉ js → σ[j]? = some (some v) → (wipe σ js)[j]? = some (some v) := by
      intro js
      induction js with
      | nil => exact fun _ h => h
      | cons k js ih =>
        intro v nm h
        rw [wipe, List.getElem?_set_ne (fun z => nm (by rw [z]; simp))]
        exact ih (fun z => nm (List.mem_cons_of_mem _ z)) h
    have R1 := Rel.unwipe1 (σ := wipe σ js) (ox := (s0[j]?).join) R lw (fun v h => by rw [hr j List.mem_cons_self] at h; cases h) fun x e => by
      have e' : s0[j]? = some (some x) := by
        cases q : s0[j]? with
        | none => rw [q] at e; cases e
        | some o => rw [q] at e; exact congrArg some e
      obtain ⟨v, h1, h2⟩ := hx j List.mem_cons_self x e'
      exact ⟨v, gw nd'.1 h1, h2⟩
    obtain ⟨s', e1, R2⟩ := Rel.unwipes js R1 (fun k m => hl k (List.mem_cons_of_mem _ m)) (fun k m => hr k (List.mem_cons_of_mem _ m)) nd'.2 fun k m x e => hx k (List.mem_cons_of_mem _ m) x e
    exact ⟨s', e1, R2⟩
theorem kill_none {js : List Nat} {s : St} {j : Nat} (h : j ∈ js) (x : PV) : (kill js s)[j]? ≠ some (some x) := by
  have key : ∀ (js : List Nat) (s : St), (∀ x, s[j]? ≠ some (some x)) ∨ j ∈ js → ∀ x, (kill js s)[j]? ≠ some (some x) := by
    intro js
    induction js with
    | nil => exact fun s h x => h.elim (fun h => h x) fun h => by cases h
    | cons k js ih =>
      intro s h x
      refine ih (s.set k none) ?_ x
      by_cases z : k = j
      · subst z
        refine .inl fun y e => ?_
        by_cases hi : k < s.length
        · rw [List.getElem?_set_self hi] at e; cases e
        · rw [List.getElem?_eq_none (by simp; omega)] at e; cases e
      · rcases h with h | h
        · exact .inl fun y e => h y (by rw [List.getElem?_set_ne z] at e; exact e)
        · rcases List.mem_cons.mp h with h | h
          · exact (z h.symm).elim
          · exact .inr h
  exact key js s (.inr h) x
theorem foldr_none {js : List Nat} : ∀ {s : St}, (∀ j ∈ js, ∀ x, s[j]? ≠ some (some x)) → js.foldr (fun j s => s.set j none) s = s := by
  induction js with
  | nil => exact fun _ => rfl
  | cons k js ih =>
    intro s h
    rw [List.foldr_cons, ih fun j m => h j (List.mem_cons_of_mem _ m)]
    cases e : s[k]? with
    | none => exact List.set_eq_of_length_le (by have := List.getElem?_eq_none_iff.mp e; omega)
    | some o =>
      cases o with
      | none => exact set_same e
      | some x => exact (h k List.mem_cons_self x e).elim
/-- forgotten, and gone from the block -/
theorem Rel.toBlk (R : Rel K B c σ) (js : List Nat) (hr : ∀ j ∈ js, B.root j = none) : ∃ c', Rel K B c' (wipe σ js) ∧ Step [] c c' ∧ c'.s = Z.kill js c.s ∧ c'.H = c.H ∧ ∀ j, j ∉ js → Same j c c' := by
  obtain ⟨c', R', s', e1, e2, e3⟩ := R.kills js
  have n : ∀ j ∈ js, ∀ x, c'.s[j]? ≠ some (some x) := fun j m x => by rw [e1]; exact kill_none m x
  have := R'.wipes js hr fun j m x e => (n j m x e).elim
  rw [foldr_none n] at this
  exact ⟨c', this, s', e1, e2, e3⟩
end
section
variable {X : Cx} {B : Bs} {ms mt me : List Nat}
structure LcI (K : KC) (B : Bs) (mz : List Nat) (js : List Nat) (tgt : PV → Option (List PV)) (ft : St → Rs Bool) (fe : St → Rs PV) (xs : List PV) (c1 : Cf) (σ : L2.St) (D : Addr) (P : List PV → St → Prop) (i : Nat) (Hr : Hp) : Prop where
  ex : ∃ (c : Cf) (acc : List PV) (ws : List V) (S : List Addr), Hr = c.R B ∧ Rel K B c (wipe σ js) ∧ Step (D :: S) c1 c ∧ c.H D = some (.lst ws) ∧ Owns K (c.F B.D) c.G c.H acc ws S ∧ D ∉ S ∧ c1.H D = none ∧ (∀ i, i ∉ mz → i ∉ js → Same i c1 c) ∧ (lcGo js tgt ft fe (xs.drop i) acc c.s).post P (fun _ _ => False)
theorem lc_turn0 {K : KC} {js : List Nat} {tgt : PV → Option (List PV)} {ft : St → Rs Bool} {fe : St → Rs PV} {xs : List PV} {c1 : Cf} {σ : L2.St} {D : Addr} {P : List PV → St → Prop} {i : Nat} {y : PV} {v : V} {g : TG} {c : Cf} {acc : List PV} {ws : List V} {S : List Addr} (hr : ∀ j ∈ js, B.root j = none)
    (hw : ∀ ws : List V, ws.length = js.length → wipe ((js.zip ws).foldl (fun r q => r.set q.1 (some q.2)) (wipe σ js)) js = wipe σ js)
    (hgt : ∀ (c : Cf) (σ' : L2.St) (ys : List PV) (Q : L2.St → Hp → Prop), Rel K B c σ' → Own K (c.F B.D) c.G c.H y v [] → tgt y = some ys → ∃ ws, Os K (c.F B.D) c.G c.H ys ws ∧ (Q ((js.zip ws).foldl (fun r q => r.set q.1 (some q.2)) σ') (c.R B) → g v σ' (c.R B) Q))
    (hy : xs[i]? = some y) (R : Rel K B c (wipe σ js)) (st : Step (D :: S) c1 c) (eD : c.H D = some (.lst ws)) (os : Owns K (c.F B.D) c.G c.H acc ws S) (nD : D ∉ S) (fD : c1.H D = none) (sm : ∀ i, i ∉ mt ++ me → i ∉ js → Same i c1 c) (hgo : (lcGo js tgt ft fe (xs.drop i) acc c.s).post P (fun _ _ => False)) (oy' : Own K (c.F B.D) c.G c.H y v []) :
    g v (wipe σ js) (c.R B) fun σ2 H2 => wipe σ2 js = wipe σ js ∧ evT K B (fun _ _ => False) mt ft σ2 H2 fun b H3 => if b = true then evF K B (fun _ _ => False) me fe σ2 H3 fun z H4 => ∃ acc, H4 D = some (.lst acc) ∧ acc.length < sizeLine ∧ LcI K B (mt ++ me) js tgt ft fe xs c1 σ D P (i + 1) (upd H4 D (.lst (acc ++ [z]))) else LcI K B (mt ++ me) js tgt ft fe xs c1 σ D P (i + 1) H3 := by
  rw [drop_get hy, lcGo] at hgo
  split at hgo
  · rename_i zs ht
    by_cases n : zs.length = js.length ∧ js.all (fun j => decide (j < c.s.length)) = true
    · rw [if_pos n] at hgo
      obtain ⟨us, ou, hg⟩ := hgt c _ zs (fun σ2 H2 => wipe σ2 js = wipe σ js ∧ evT K B (fun _ _ => False) mt ft σ2 H2 fun b H3 => if b = true then evF K B (fun _ _ => False) me fe σ2 H3 fun z H4 => ∃ acc, H4 D = some (.lst acc) ∧ acc.length < sizeLine ∧ LcI K B (mt ++ me) js tgt ft fe xs c1 σ D P (i + 1) (upd H4 D (.lst (acc ++ [z]))) else LcI K B (mt ++ me) js tgt ft fe xs c1 σ D P (i + 1) H3) R oy' ht
      refine hg ⟨hw us (by rw [← ou.length]; exact n.1), ?_⟩
      obtain ⟨c2, R2, e1, e2, e3, e4, e5⟩ := Rel.putAll (T := c.T) (S := []) js R rfl (fun _ m => by cases m) ou.owns n.1 (fun j m => by simpa using List.all_eq_true.mp n.2 j m) hr
      have st2 : Step [] c c2 := ⟨fun a o _ h => by rw [e2]; exact h, fun a h => h.elim (fun z => by cases z) fun h => .inl ((e4 a h).elim (fun z => by cases z) id), e3⟩
      have es : c2.s = setAll js zs c.s := e1
      rw [← es] at hgo
      show evT K B (fun _ _ => False) mt ft _ (lk B.L c.H) _
      rw [← e2]
      -- D stays ours
      have DT : ∀ {c' : Cf} {A : List Addr}, Step A c2 c' → D ∈ c'.T := fun {c' A} s => by rw [s.T, e3, st.T]; simp
      have nM : ∀ {c' : Cf} {σ' : L2.St}, Rel K B c' σ' → D ∈ c'.T → ¬ c'.mine D := fun R' m ⟨j, z⟩ => R'.nT j D z m
      -- the end of a turn
      have fin : ∀ (c' : Cf) (σ' : L2.St) (acc' : List PV) (ws' : List V) (S' : List Addr), wipe σ' js = wipe σ js → Rel K B c' σ' → Step (D :: S') c1 c' → c'.H D = some (.lst ws') → Owns K (c'.F B.D) c'.G c'.H acc' ws' S' → D ∉ S' → (∀ i, i ∉ mt ++ me → i ∉ js → Same i c1 c') → (lcGo js tgt ft fe (xs.drop (i + 1)) acc' (kill js c'.s)).post P (fun _ _ => False) → LcI K B (mt ++ me) js tgt ft fe xs c1 σ D P (i + 1) (c'.R B) := by
        intro c' σ' acc' ws' S' ew R' s' eD' os' nD' sm' go'
        obtain ⟨c3, R3, s3, k1, k2, k3⟩ := R'.toBlk js hr
        rw [ew] at R3
        have st3 : Step (D :: S') c1 c3 := by
          have := s'.trans s3
          simpa using this
        exact ⟨c3, acc', ws', S', by show lk B.L c'.H = lk B.L c3.H; rw [k2], R3, st3, by rw [k2]; exact eD', os'.le s3.F s3.G fun _ _ _ h => by rw [k2]; exact h, nD', fD, fun i n1 n2 => (sm' i n1 n2).trans (k3 i n2), by rw [k1]; exact go'⟩
      have hσ2 := hw us (by rw [← ou.length]; exact n.1)
      have sm2 : ∀ i, i ∉ mt ++ me → i ∉ js → Same i c1 c2 := fun i n1 n2 => (sm i n1 n2).trans (e5 i n2)
      have os2 : Owns K (c2.F B.D) c2.G c2.H acc ws S := os.le st2.F st2.G fun _ _ _ h => by rw [e2]; exact h
      have st12 : Step (D :: S) c1 c2 := by
        have := st.trans st2
        simpa using this
      have inT2 : ∀ b ∈ D :: S, b ∈ c2.T := fun b m => by rw [st12.T]; exact List.mem_append_left _ m
      refine evT_run R2 (Rs.post_bind hgo) fun b c3 a3 p3 => ?_
      have keep3 : ∀ b ∈ D :: S, ∀ o, c2.H b = some o → c3.H b = some o := fun b m o h => a3.st.keep b o (fun ⟨j, z⟩ => R2.nT j b z (inT2 b m)) h
      have st13 : Step (D :: S) c1 c3 := by
        have := st12.trans a3.st
        simpa using this
      have eD3 : c3.H D = some (.lst ws) := keep3 D List.mem_cons_self _ (by rw [e2]; exact eD)
      have os3 : Owns K (c3.F B.D) c3.G c3.H acc ws S := os2.le a3.st.F a3.st.G fun b m o h => keep3 b (List.mem_cons_of_mem _ m) o h
      cases b with
      | false =>
        exact fin c3 _ acc ws S hσ2 a3.rel st13 eD3 os3 nD (fun i n1 n2 => (sm2 i n1 n2).trans (a3.fr i fun z => n1 (List.mem_append_left _ z))) p3
      | true =>
        rw [if_pos rfl]
        refine evF_run a3.rel (Rs.post_bind p3) fun z w A c4 a4 oz p4 => ?_
        by_cases nn : acc.length < sizeLine
        · rw [if_pos nn] at p4
          have inT3 : ∀ b ∈ D :: S, b ∈ c3.T := fun b m => by rw [st13.T]; exact List.mem_append_left _ m
          have keep4 : ∀ b ∈ D :: S, ∀ o, c3.H b = some o → c4.H b = some o := fun b m o h => a4.st.keep b o (fun ⟨j, q⟩ => a3.rel.nT j b q (inT3 b m)) h
          have eD4 := keep4 D List.mem_cons_self _ eD3
          have os4 : Owns K (c4.F B.D) c4.G c4.H acc ws S := os3.le a4.st.F a4.st.G fun b m o h => keep4 b (List.mem_cons_of_mem _ m) o h
          have AT : ∀ b ∈ A, b ∉ c3.T := a4.heldT a3.rel
          have dA : ∀ b ∈ S, b ∉ A := fun b m q => AT b q (inT3 b (List.mem_cons_of_mem _ m))
          have DA : D ∉ A := fun q => AT D q (inT3 D List.mem_cons_self)
          have lD : B.L D = none := a4.rel.lkMine (.inl (by rw [a4.st.T]; exact List.mem_append_right _ (inT3 D List.mem_cons_self)))
          have nM4 : ¬ c4.mine D := nM a4.rel (by rw [a4.st.T]; exact List.mem_append_right _ (inT3 D List.mem_cons_self))
          refine ⟨ws, (lk_none lD).trans eD4, by rw [← os4.length]; exact nn, ?_⟩
          rw [lk_upd lD]
          -- D is written
          let c5 : Cf := { c4 with H := upd c4.H D (.lst (ws ++ [w])), T := (D :: (S ++ A)) ++ c1.T }
          have T4 : ∀ b, b ∈ c5.T ↔ b ∈ c4.T := fun b => by
            rw [a4.st.T, st13.T]
            simp only [c5, List.mem_append, List.mem_cons]
            constructor
            · rintro ((h | h | h) | h)
              · exact .inr (.inl (.inl h))
              · exact .inr (.inl (.inr h))
              · exact .inl h
              · exact .inr (.inr h)
            · rintro (h | (h | h) | h)
              · exact .inl (.inr (.inr h))
              · exact .inl (.inl h)
              · exact .inl (.inr (.inl h))
              · exact .inr h
          have ne : ∀ {b : Addr} {o : HO}, b ≠ D → c4.H b = some o → c5.H b = some o := fun n h => by
            show upd c4.H D _ _ = _
            rw [upd_ne n]; exact h
          have inD : D ∈ c4.T := by rw [a4.st.T]; exact List.mem_append_right _ (inT3 D List.mem_cons_self)
          have st45F : Le (c4.F B.D) (c5.F B.D) := fun b o h => by
            obtain ⟨g1, g2, g3, g4⟩ := F_eq.mp h
            exact F_eq.mpr ⟨g1, fun q => g2 ((T4 b).mp q), g3, ne (fun q => g2 (by rw [q]; exact inD)) g4⟩
          have st45G : Le c4.G c5.G := fun b o h => by
            obtain ⟨g2, g3, g4⟩ := G_eq.mp h
            exact G_eq.mpr ⟨fun q => g2 ((T4 b).mp q), g3, ne (fun q => g2 (by rw [q]; exact inD)) g4⟩
          have R5 : Rel K B c5 _ := a4.rel.mkG (c' := c5) (fun b o nb h => ne (fun q => nb (.inl (by rw [q]; exact inD))) h) (fun b h => .inl (h.imp_left (T4 b).mp)) (fun j b m q => a4.rel.nT j b m ((T4 b).mp q)) (fun b m => by
              by_cases q : b = D
              · subst q; exact ⟨_, upd_same, trivial⟩
              · obtain ⟨o, e, nt⟩ := a4.rel.live b (.inl ((T4 b).mp m))
                exact ⟨o, ne q e, nt⟩) a4.rel.len (fun _ _ j => .inl ⟨⟨rfl, rfl, fun b m => by
              show upd c4.H D _ b = _
              rw [upd_ne (fun q => nM4 ⟨j, by rw [← q]; exact m⟩)]⟩, fun _ _ => rfl⟩) a4.rel.dis a4.rel.root
          have st15 : Step (D :: (S ++ A)) c1 c5 := by
            refine ⟨fun b o nb h => ?_, fun b h => ?_, rfl⟩
            · have h4 := (st13.trans a4.st).keep b o nb h
              refine ne (fun q => ?_) h4
              rw [q, fD] at h; cases h
            · refine (st13.trans a4.st).new b (h.imp_left fun m => ?_)
              simp only [List.mem_cons, List.mem_append] at m ⊢
              rcases m with m | m | m
              · exact .inr (.inl m)
              · exact .inr (.inr m)
              · exact .inl m
          have os5 : Owns K (c5.F B.D) c5.G c5.H (acc ++ [z]) (ws ++ [w]) (S ++ A) := (os4.le st45F st45G fun b m o h => ne (fun q => nD (by rw [← q]; exact m)) h).append ((oz.le st45F st45G fun b m o h => ne (fun q => DA (by rw [← q]; exact m)) h).single) dA
          refine fin c5 _ (acc ++ [z]) (ws ++ [w]) (S ++ A) hσ2 R5 st15 upd_same os5 (fun m => (List.mem_append.mp m).elim nD DA) (fun i n1 n2 => ?_) p4
          have s14 := ((sm2 i n1 n2).trans (a3.fr i fun z => n1 (List.mem_append_left _ z))).trans (a4.fr i fun z => n1 (List.mem_append_right _ z))
          refine s14.trans ⟨rfl, rfl, fun b m => ?_⟩
          show upd c4.H D _ b = _
          rw [upd_ne (fun q => nM4 ⟨i, by rw [← q]; exact m⟩)]
        · rw [if_neg nn] at p4; exact p4.elim
    · rw [if_neg n] at hgo; exact hgo.elim
  · exact hgo.elim
theorem lc_turn {K : KC} {js : List Nat} {tgt : PV → Option (List PV)} {ft : St → Rs Bool} {fe : St → Rs PV} {xs : List PV} {c1 : Cf} {σ : L2.St} {D : Addr} {P : List PV → St → Prop} {i : Nat} {Hr : Hp} {y : PV} {v : V} {g : TG} (hr : ∀ j ∈ js, B.root j = none)
    (hw : ∀ ws : List V, ws.length = js.length → wipe ((js.zip ws).foldl (fun r q => r.set q.1 (some q.2)) (wipe σ js)) js = wipe σ js)
    (hgt : ∀ (c : Cf) (σ' : L2.St) (ys : List PV) (Q : L2.St → Hp → Prop), Rel K B c σ' → Own K (c.F B.D) c.G c.H y v [] → tgt y = some ys → ∃ ws, Os K (c.F B.D) c.G c.H ys ws ∧ (Q ((js.zip ws).foldl (fun r q => r.set q.1 (some q.2)) σ') (c.R B) → g v σ' (c.R B) Q))
    (hy : xs[i]? = some y) (oy : Own K (c1.F B.D) c1.G c1.H y v []) (I : LcI K B (mt ++ me) js tgt ft fe xs c1 σ D P i Hr) :
    g v (wipe σ js) Hr fun σ2 H2 => wipe σ2 js = wipe σ js ∧ evT K B (fun _ _ => False) mt ft σ2 H2 fun b H3 => if b = true then evF K B (fun _ _ => False) me fe σ2 H3 fun z H4 => ∃ acc, H4 D = some (.lst acc) ∧ acc.length < sizeLine ∧ LcI K B (mt ++ me) js tgt ft fe xs c1 σ D P (i + 1) (upd H4 D (.lst (acc ++ [z]))) else LcI K B (mt ++ me) js tgt ft fe xs c1 σ D P (i + 1) H3 := by
  obtain ⟨c, acc, ws, S, rfl, R, st, eD, os, nD, fD, sm, hgo⟩ := I.ex
  exact lc_turn0 hr hw hgt hy R st eD os nD fD sm hgo (oy.le st.F st.G (fun _ m => by cases m))
/-- its start -/
theorem lc_start {K : KC} {js : List Nat} {tgt : PV → Option (List PV)} {ft : St → Rs Bool} {fe : St → Rs PV} {xs : List PV} {c1 : Cf} {σ : L2.St} {D : Addr} {P : List PV → St → Prop} (R : Rel K B c1 σ) (hr : ∀ j ∈ js, B.root j = none) (ok : okOrig c1.s js = true) (hD : c1.R B D = none) (h : (lcGo js tgt ft fe xs [] (kill js c1.s)).post P (fun _ _ => False)) :
    LcI K B ms js tgt ft fe xs c1 σ D P 0 (upd (c1.R B) D (.lst [])) := by
  obtain ⟨hD, lD⟩ := R.lkNew hD
  obtain ⟨c2, R2, s2, k1, k2, k3⟩ := R.toBlk js hr
  have a := R2.push (ms := []) (A := [D]) (H' := upd c2.H D (.lst [])) (upd_le (by rw [k2]; exact hD)) (fun x m => by cases List.mem_singleton.mp m; rw [k2]; exact hD) (fun x m => by cases List.mem_singleton.mp m; exact ⟨_, upd_same, trivial⟩)
  have st : Step [D] c1 { c2 with H := upd c2.H D (.lst []), T := [D] ++ c2.T } := by
    have := s2.trans a.st
    simpa using this
  refine ⟨_, [], [], [], ?_, a.rel, st, upd_same, .nil, by simp, hD, fun i _ n => (k3 i n).trans ⟨rfl, rfl, fun b m => ?_⟩, by rw [List.drop_zero]; show (lcGo js tgt ft fe xs [] c2.s).post _ _; rw [k1]; exact h⟩
  · show upd (lk B.L c1.H) D _ = lk B.L (upd c2.H D _)
    rw [lk_upd lD, k2]
  · show upd c2.H D _ b = _
    obtain ⟨o, e, _⟩ := R2.cell ⟨i, m⟩
    rw [upd_ne (fun q => by rw [q, k2, hD] at e; cases e)]
/-- its end -/
theorem lc_end {K : KC} {js : List Nat} {tgt : PV → Option (List PV)} {ft : St → Rs Bool} {fe : St → Rs PV} {xs : List PV} {c0 c1 : Cf} {σ : L2.St} {D : Addr} {Hr : Hp} {Q : VK} {mz mi : List Nat} (a1 : Aft K B mi [] c0 σ c1) (hr : ∀ j ∈ js, B.root j = none) (ok : okOrig c1.s js = true) (nd : js.Nodup) (hl : ∀ j ∈ js, j < σ.length)
    (I : LcI K B mz js tgt ft fe xs c1 σ D (fun acc s2 => ∀ v A c', Aft K B (mi ++ (mz ++ js)) A c0 σ c' → c'.s = restore js c1.s s2 → Own K (c'.F B.D) c'.G c'.H (.cell .own .lst acc) v A → Q v (c'.R B)) xs.length Hr) : Q (.ref D) Hr := by
  obtain ⟨c, acc, ws, S, rfl, R, st, eD, os, nD, fD, sm, hgo⟩ := I.ex
  rw [List.drop_length, lcGo] at hgo
  have R1 := a1.rel
  obtain ⟨s', e1, R2⟩ := Rel.unwipes (s0 := c1.s) js R hl hr nd fun j m x e => by
    obtain ⟨v, h1, h2⟩ := R1.own j x e
    have nx : x.nown = true := by
      have := List.all_eq_true.mp ok j m
      rw [e] at this; exact this
    have eA := h2.nown nx
    rw [eA] at h2
    exact ⟨v, h1, h2.le st.F st.G (fun _ m => by cases m)⟩
  have aa : Aft K B (mi ++ (mz ++ js)) (D :: S) c0 σ { c with s := s' } := by
    refine ⟨R2, ?_, fun i n => ?_⟩
    · have := a1.st.trans st
      refine ⟨this.keep, fun b h => this.new b (h.imp_left fun m => by simpa using m), by have := this.T; simpa using this⟩
    · have n1 : i ∉ mi := fun z => n (List.mem_append_left _ z)
      have n2 : i ∉ mz := fun z => n (List.mem_append_right _ (List.mem_append_left _ z))
      have n3 : i ∉ js := fun z => n (List.mem_append_right _ (List.mem_append_right _ z))
      have s := (a1.fr i n1).trans (sm i n2 n3)
      refine s.trans ⟨?_, rfl, fun _ _ => rfl⟩
      show s'[i]? = _
      rw [e1]
      have key : ∀ (js : List Nat) (s : St), i ∉ js → (js.foldl (fun s j => s.set j ((c1.s[j]?).join)) s)[i]? = s[i]? := by
        intro js
        induction js with
        | nil => exact fun _ _ => rfl
        | cons k js ih =>
          intro s nk
          rw [List.foldl_cons, ih _ fun z => nk (List.mem_cons_of_mem _ z), List.getElem?_set_ne fun z => nk (by rw [z]; simp)]
      exact key js c.s n3
  have := hgo (.ref D) (D :: S) { c with s := s' } aa (by rw [show restore js c1.s c.s = s' from e1.symm]) (.cell (t := .lst) (A := [D]) ⟨eD, rfl⟩ os fun b m z => by cases List.mem_singleton.mp m; exact nD z)
  exact this
end
section
variable {X : Cx} {B : Bs} {W : WZ} {mi mt me : List Nat} {elt iter : Expr} {ifs : List Expr} {scope : Scope} {pos px : Pos} {fi fe : St → Rs PV} {ft : St → Rs Bool} {x : Str}
/-- tests of a clause: none or one -/
def VTs (X : Cx) (B : Bs) (W : WZ) (ms : List Nat) (ifs : List Expr) (f : St → Rs Bool) : Prop := PTs X ifs (evT (kc X B) B W ms f)
theorem vts_one {X : Cx} {ms : List Nat} {c : Expr} {f : St → Rs Bool} (h : VT X B W ms c f) : VTs X B W ms [c] f := pts_one h
def tYesF (s : St) : Rs Bool := .ok true s
theorem vts_nil {X : Cx} : VTs X B W [] [] tYesF := ⟨fun pins s σ H Q I ⟨c, e, R, h⟩ => by subst e; exact (pts_nil (X := X)).run pins s σ _ Q I (h c (.refl R) rfl)⟩
theorem lc_imp (j : Nat) (hr : B.root j = none) {σ : L2.St} {H : Hp} {Q : VK} (hh : evF (kc X B) B W (mi ++ ((mt ++ me) ++ [j])) (fLc [j] (fun y => some [y]) fi ft fe) σ H Q) : tLc (iList X.K (evE (kc X B) B W mi fi)) (gName j) (evT (kc X B) B (fun _ _ => False) mt ft) (evF (kc X B) B (fun _ _ => False) me fe) [j] σ H Q := by
  obtain ⟨c, e, R, h⟩ := hh
  subst e
  dsimp only [tLc, iList]
  refine evE_run R (Rs.post_bind h) fun y v c1 a1 v1 p1 => ?_
  split at p1
  · rename_i xs ex
    by_cases n : okOrig c1.s [j] = true
    · rw [if_pos n] at p1
      obtain ⟨a, ws, rfl, os, sq⟩ := v1.items ex
      refine ⟨a, rfl, ⟨_, a1.rel.lkSqL (sq c1 (Le.refl _))⟩, fun D hD => ?_⟩
      have hgo := noEx_post (Rs.post_bind p1)
      have hr' : ∀ k ∈ [j], B.root k = none := fun k m => by cases List.mem_singleton.mp m; exact hr
      refine lc_list (K := X.K) (a := a) (xs := ws) (fun i H => LcI (kc X B) B (mt ++ me) [j] (fun y => some [y]) ft fe xs c1 σ D _ i H) (lc_start a1.rel hr' n hD hgo) (fun i H _ I => ?_) (fun i u H hu I => ?_) fun H I => ?_
      · obtain ⟨c, acc, ws', S, rfl, R', st, _⟩ := I.ex
        exact R'.lkSqL (sq c st.G)
      · have hlt : i < xs.length := by rw [os.length]; exact (List.getElem?_eq_some_iff.mp hu).1
        have hz : xs[i]? = some xs[i] := List.getElem?_eq_getElem hlt
        obtain ⟨u', h1, h2⟩ := os.get hz
        rw [hu] at h1; cases h1
        refine lc_turn hr' (fun ws hl => ?_) (fun c σ' ys Q _ o e => ?_) hz h2 I
        · match ws, hl with
          | [w], _ => simp [wipe]
        · cases e
          exact ⟨[u], .cons o .nil, fun q => q⟩
      · rw [← os.length] at I
        have hl : ∀ k ∈ [j], k < σ.length := fun k m => by
          cases List.mem_singleton.mp m
          rw [a1.rel.len]
          exact okOrig_lt n (by simp)
        exact lc_end a1 hr' n (by simp) hl I
    · rw [if_neg n] at p1; exact p1.elim
  · exact p1.elim
theorem vf_lc (j : Nat) (hc : X.calm = true) (hN : X.N.Nodup) (hi : VE X B W mi iter fi) (ok : BlkOk X.N X.env.scope scope [(x, j)]) (hr : B.root j = none)
    (hg : ∀ (s : Shared) (H : Hp) (C : Addr) (cl : List (Str × Addr)) (fp : List Addr), PG (X.blk s H scope (compEnvC scope cl C X.env) fp) (.Name x px) (gName j))
    (ht : ∀ (s : Shared) (H : Hp) (C : Addr) (cl : List (Str × Addr)) (fp : List Addr), VTs (X.blk s H scope (compEnvC scope cl C X.env) fp) B (fun _ _ => False) mt ifs ft)
    (he : ∀ (s : Shared) (H : Hp) (C : Addr) (cl : List (Str × Addr)) (fp : List Addr), VF (X.blk s H scope (compEnvC scope cl C X.env) fp) B (fun _ _ => False) me elt fe) (hs : ∀ x, foldedSetIterable iter X.env x = pure x := by intro _; rfl) :
    VF X B W (mi ++ ((mt ++ me) ++ [j])) (.ListComp elt [⟨.Name x px, iter, ifs, 0⟩] scope pos) (fLc [j] (fun y => some [y]) fi ft fe) :=
  pe_imp (pe_lc (own := [(x, j)]) (g := gName j) (tt := evT (kc X B) B (fun _ _ => False) mt ft) (te := evF (kc X B) B (fun _ _ => False) me fe) hc hN (pi_list hi) ok hg ht he hs) fun σ H Q h => lc_imp j hr h
end
end Z
namespace Z
open PySem PySem.Spec PyProof.Rows L2
section
variable {X : Cx} {B : Bs} {W : WZ} {mi mt me : List Nat} {elt iter : Expr} {ifs : List Expr} {scope : Scope} {pos px pt p1 p2 : Pos} {fi fe : St → Rs PV} {ft : St → Rs Bool} {x x1 x2 : Str}
theorem lcR_imp (j : Nat) {ga : St → Rs (List PV)} (hr : B.root j = none) {σ : L2.St} {H : Hp} {Q : VK} (hh : evF (kc X B) B W (mi ++ ((mt ++ me) ++ [j])) (fLcR [j] ga ft fe) σ H Q) : tLc (iRng1 (evA (kc X B) B W mi ga)) (gName j) (evT (kc X B) B (fun _ _ => False) mt ft) (evF (kc X B) B (fun _ _ => False) me fe) [j] σ H Q := by
  obtain ⟨c, e, R, h⟩ := hh
  subst e
  dsimp only [tLc, iRng1]
  refine evA_run R (Rs.post_bind h) fun ys vs c1 a1 v1 p1 => ?_
  split at p1
  · rename_i z
    by_cases n : -(2 ^ 62) ≤ z ∧ z < 2 ^ 62 ∧ okOrig c1.s [j] = true
    · rw [if_pos n] at p1
      obtain ⟨v, rfl, r⟩ := v1.one
      refine ⟨z, by rw [r.int], n.1, n.2.1, fun D hD => ?_⟩
      have hgo := noEx_post (Rs.post_bind p1)
      have hr' : ∀ k ∈ [j], B.root k = none := fun k m => by cases List.mem_singleton.mp m; exact hr
      refine lc_range (lo := 0) (n := z.toNat) (fun i H => LcI (kc X B) B (mt ++ me) [j] (fun y => some [y]) ft fe (rangeI 0 z.toNat) c1 σ D _ i H) (lc_start a1.rel hr' n.2.2 hD hgo) (fun i H hi I => ?_) fun H I => ?_
      · refine lc_turn hr' (fun ws hl => ?_) (fun c σ' ys Q _ o e => ?_) (rangeI_get hi) (.int _) I
        · match ws, hl with
          | [w], _ => simp [wipe]
        · cases e
          exact ⟨[.int (0 + (i : Int))], .cons o .nil, fun q => q⟩
      · have hl : ∀ k ∈ [j], k < σ.length := fun k m => by
          cases List.mem_singleton.mp m
          rw [a1.rel.len]
          exact okOrig_lt n.2.2 (by simp)
        exact lc_end a1 hr' n.2.2 (by simp) hl (by rw [rangeI_len]; exact I)
    · rw [if_neg n] at p1; exact p1.elim
  · exact p1.elim
theorem vf_lcR (j : Nat) {a : Expr} {pp pq : Pos} {ga : St → Rs (List PV)} (hc : X.calm = true) (hN : X.N.Nodup) (hm : X.mg "range" = none) (hi : VA X B W mi [a] ga) (ok : BlkOk X.N X.env.scope scope [(x, j)]) (hr : B.root j = none)
    (hg : ∀ (s : Shared) (H : Hp) (C : Addr) (cl : List (Str × Addr)) (fp : List Addr), PG (X.blk s H scope (compEnvC scope cl C X.env) fp) (.Name x px) (gName j))
    (ht : ∀ (s : Shared) (H : Hp) (C : Addr) (cl : List (Str × Addr)) (fp : List Addr), VTs (X.blk s H scope (compEnvC scope cl C X.env) fp) B (fun _ _ => False) mt ifs ft)
    (he : ∀ (s : Shared) (H : Hp) (C : Addr) (cl : List (Str × Addr)) (fp : List Addr), VF (X.blk s H scope (compEnvC scope cl C X.env) fp) B (fun _ _ => False) me elt fe) (hgl : Gl X "range") (hst : starEach [a] X.env = [(false, eval a X.env)] := by rfl) (hs : ∀ x, foldedSetIterable (.Call (.Name "range" pp) [a] [] pq) X.env x = pure x := by intro _; rfl) :
    VF X B W (mi ++ ((mt ++ me) ++ [j])) (.ListComp elt [⟨.Name x px, .Call (.Name "range" pp) [a] [] pq, ifs, 0⟩] scope pos) (fLcR [j] ga ft fe) :=
  pe_imp (pe_lc (own := [(x, j)]) (g := gName j) (tt := evT (kc X B) B (fun _ _ => False) mt ft) (te := evF (kc X B) B (fun _ _ => False) me fe) hc hN (pi_range1 hgl hm hi hst) ok hg ht he hs) fun σ H Q h => lcR_imp j hr h
def tgtTup : PV → Option (List PV)
  | .tup ys => if PV.nowns ys then some ys else none
  | _ => none
theorem tup_os {K : KC} {c : Cf} {σ : L2.St} {y : PV} {v : V} {ys : List PV} (R : Rel K B c σ) (o : Own K (c.F B.D) c.G c.H y v []) (e : tgtTup y = some ys) : ∃ a ws, v = .ref a ∧ SqT K.k (c.R B) a ws ∧ Os K (c.F B.D) c.G c.H ys ws := by
  unfold tgtTup at e
  split at e
  · rename_i zs
    by_cases n : PV.nowns zs = true
    · rw [if_pos n] at e; cases e
      obtain ⟨a, ws, S, rfl, h2, h3, _⟩ := o.viewT F_le G_le
      exact ⟨a, ws, rfl, R.lkSqT h2, h3.os (h3.nown n)⟩
    · rw [if_neg n] at e; cases e
  · cases e
theorem wipe2 {σ : L2.St} {j1 j2 : Nat} {a b : Option V} (h : j1 ≠ j2) : wipe (((wipe σ [j1, j2]).set j1 a).set j2 b) [j1, j2] = wipe σ [j1, j2] := by
  show ((((((σ.set j2 none).set j1 none).set j1 a).set j2 b).set j2 none).set j1 none) = (σ.set j2 none).set j1 none
  rw [List.set_set, List.set_set, List.set_comm a none h, List.set_set, List.set_set]
theorem lc2_imp (j1 j2 : Nat) (hj : j1 ≠ j2) (hr1 : B.root j1 = none) (hr2 : B.root j2 = none) {σ : L2.St} {H : Hp} {Q : VK} (hh : evF (kc X B) B W (mi ++ ((mt ++ me) ++ [j1, j2])) (fLc [j1, j2] tgtTup fi ft fe) σ H Q) : tLc (iList X.K (evE (kc X B) B W mi fi)) (gTup X.K 2 (gCons (gName j1) (gCons (gName j2) gNil))) (evT (kc X B) B (fun _ _ => False) mt ft) (evF (kc X B) B (fun _ _ => False) me fe) [j1, j2] σ H Q := by
  obtain ⟨c, e, R, h⟩ := hh
  subst e
  dsimp only [tLc, iList]
  refine evE_run R (Rs.post_bind h) fun y v c1 a1 v1 p1 => ?_
  split at p1
  · rename_i xs ex
    by_cases n : okOrig c1.s [j1, j2] = true
    · rw [if_pos n] at p1
      obtain ⟨a, ws, rfl, os, sq⟩ := v1.items ex
      refine ⟨a, rfl, ⟨_, a1.rel.lkSqL (sq c1 (Le.refl _))⟩, fun D hD => ?_⟩
      have hgo := noEx_post (Rs.post_bind p1)
      have hr' : ∀ k ∈ [j1, j2], B.root k = none := fun k m => by
        rcases List.mem_cons.mp m with rfl | m
        · exact hr1
        · cases List.mem_singleton.mp m; exact hr2
      refine lc_list (K := X.K) (a := a) (xs := ws) (fun i H => LcI (kc X B) B (mt ++ me) [j1, j2] tgtTup ft fe xs c1 σ D _ i H) (lc_start a1.rel hr' n hD hgo) (fun i H _ I => ?_) (fun i u H hu I => ?_) fun H I => ?_
      · obtain ⟨c, acc, ws', S, rfl, R', st, _⟩ := I.ex
        exact R'.lkSqL (sq c st.G)
      · have hlt : i < xs.length := by rw [os.length]; exact (List.getElem?_eq_some_iff.mp hu).1
        have hz : xs[i]? = some xs[i] := List.getElem?_eq_getElem hlt
        obtain ⟨u', h1, h2⟩ := os.get hz
        rw [hu] at h1; cases h1
        obtain ⟨c, acc, ws', S, e9, R', st, eD, oo, nD, fD, sm, hgo'⟩ := I.ex
        have hlen : ∀ zs, tgtTup xs[i] = some zs → zs.length = 2 := fun zs e => by
          rw [drop_get hz, lcGo, e] at hgo'
          simp only at hgo'
          by_cases q : zs.length = [j1, j2].length ∧ [j1, j2].all (fun j => decide (j < c.s.length)) = true
          · exact q.1
          · rw [if_neg q] at hgo'; exact hgo'.elim
        refine lc_turn hr' (fun ws hl => ?_) (fun c σ' ys Q Rc o e => ?_) hz h2 I
        · match ws, hl with
          | [w1, w2], _ => exact wipe2 hj
        · obtain ⟨a', ws2, rfl, h3, h4⟩ := tup_os Rc o e
          have hl2 : ws2.length = 2 := by rw [← h4.length]; exact hlen ys e
          refine ⟨ws2, h4, fun q => ?_⟩
          match ws2, hl2 with
          | [w1, w2], _ => exact ⟨_, _, rfl, h3, rfl, _, _, rfl, _, _, rfl, rfl, q⟩
      · rw [← os.length] at I
        have hl : ∀ k ∈ [j1, j2], k < σ.length := fun k m => by
          rw [a1.rel.len]
          exact okOrig_lt n m
        exact lc_end a1 hr' n (by simp [hj]) hl I
    · rw [if_neg n] at p1; exact p1.elim
  · exact p1.elim
theorem vf_lc2 (j1 j2 : Nat) {kt : Nat} (hj : j1 ≠ j2) (hc : X.calm = true) (hN : X.N.Nodup) (hi : VE X B W mi iter fi) (ok : BlkOk X.N X.env.scope scope [(x1, j1), (x2, j2)]) (hr1 : B.root j1 = none) (hr2 : B.root j2 = none)
    (hg : ∀ (s : Shared) (H : Hp) (C : Addr) (cl : List (Str × Addr)) (fp : List Addr), PG (X.blk s H scope (compEnvC scope cl C X.env) fp) (.Tuple [.Name x1 p1, .Name x2 p2] kt pt) (gTup X.K 2 (gCons (gName j1) (gCons (gName j2) gNil))))
    (ht : ∀ (s : Shared) (H : Hp) (C : Addr) (cl : List (Str × Addr)) (fp : List Addr), VTs (X.blk s H scope (compEnvC scope cl C X.env) fp) B (fun _ _ => False) mt ifs ft)
    (he : ∀ (s : Shared) (H : Hp) (C : Addr) (cl : List (Str × Addr)) (fp : List Addr), VF (X.blk s H scope (compEnvC scope cl C X.env) fp) B (fun _ _ => False) me elt fe) (hs : ∀ x, foldedSetIterable iter X.env x = pure x := by intro _; rfl) :
    VF X B W (mi ++ ((mt ++ me) ++ [j1, j2])) (.ListComp elt [⟨.Tuple [.Name x1 p1, .Name x2 p2] kt pt, iter, ifs, 0⟩] scope pos) (fLc [j1, j2] tgtTup fi ft fe) :=
  pe_imp (pe_lc (own := [(x1, j1), (x2, j2)]) (g := gTup X.K 2 (gCons (gName j1) (gCons (gName j2) gNil))) (tt := evT (kc X B) B (fun _ _ => False) mt ft) (te := evF (kc X B) B (fun _ _ => False) me fe) hc hN (pi_list hi) ok hg ht he hs) fun σ H Q h => lc2_imp j1 j2 hj hr1 hr2 h
end
/-! ### what the top has: a def, an own error -/
structure DefAt (K : PySem.W.Frag) (mg : Str → Option Value) (x : Str) (st : Stmt) (ps : List Str) : Prop where
  ex : ∃ f fd, Fun K x x st f fd ∧ mg x = some (.ref f) ∧ Binds K fd ps []
structure ExcAt (K : PySem.W.Frag) (mg : Str → Option Value) (x : Str) (C : Addr) : Prop where
  xi : PySem.W.excIn K C [.type "ValueError", .type "Exception", .type "BaseException", .type "object"] "ValueError.__new__" = true
  g : mg x = some (.ref C)
  k : PySem.W.keepIn K (.ref C) = true
  b : PySem.W.subIn K (.ref C) (.type "BaseException") = some true
  t : PySem.W.typeIn K (.ref C) = some (.type "type")
theorem fn_at {P : Program} {w : World} {K : KC} {mg : Str → Option Value} {base : Heap} {x : Str} {st : Stmt} {N ps : List Str} {k : Nat} {mu : List Bool} {fb : Sm} (Df : DefAt K.k mg x st ps) (sc : FnScope N ps (defScope st)) (hn : ps.length = mu.length)
    (hb : ∀ (f : Addr) (cdv : Value) (A : Around) (outer : List Env) (s : Shared) (H : Hp) (E : XK) (B : Bs) (W : WZ), Room k (A.deeper (envOfC x (defScope st) s.heap.objs.size f cdv)) → B.C = K.C →
      Takes (cxOf (L2.CX P w) P w K.k mg base N x (defScope st) f cdv A outer s H E) (WP K B W) → (∀ i, mu[i]? ≠ some true → B.root i = none) →
      VSs (cxOf (L2.CX P w) P w K.k mg base N x (defScope st) f cdv A outer s H E) B W (defBody st) fb) : Fn P w K mg base x (k + 1) mu (runB mu N.length fb) := by
  obtain ⟨f, fd, F, g, b⟩ := Df.ex
  exact fn_mk F g b sc hn (hb f)
/-! ### the law itself -/
theorem start_true {K : KC} {H : Hp} {a : Addr} {ns : List Int} {run : List PV → Fr} {ys : St} (hS : SqL K.k H a (ns.map V.int)) (h : run [.cl (ns.map PV.int)] = .ok (.bl true) ys) : toSp K [false] run [.ref a] H (fun v _ => v = .bl true) fun _ _ _ => False := by
  let B : Bs := ⟨fun _ => False, H, [], fun _ => none, fun _ => none, K.C⟩
  let c : Cf := ⟨[some (.cl (ns.map PV.int))], H, fun _ => [], []⟩
  have nm : ∀ a, ¬ c.mine a := fun a ⟨i, m⟩ => by cases m
  have le : Le H (c.F B.D) := fun a u h => F_eq.mpr ⟨fun z => z, fun z => (nomatch z), nm a, h⟩
  have nU : ∀ a, a ∈ c.T ∨ c.mine a → ¬ B.D a := fun a _ z => z
  have nU2 : ∀ a, a ∈ c.T ∨ B.D a → ∃ o, c.H a = some o ∧ NoT o := fun a h => h.elim (fun z => nomatch z) (fun z => False.elim z)
  have nU3 : ∀ a, a ∈ c.T ∨ c.mine a → a ∈ B.A0 ∨ B.H0 a = none := fun a h => h.elim (fun z => nomatch z) (fun z => (nm a z).elim)
  have lkH : c.R B = H := by funext a; show lk _ _ _ = _; unfold lk; rfl
  refine ⟨rfl, B, c, [.cl (ns.map PV.int)], lkH.symm, rfl, rfl, ⟨rfl, fun i x e => ?_, fun _ _ => rfl, fun _ _ _ m => (nomatch m), fun _ _ m => (nomatch m), fun a h => nU a h, fun a h => nU2 a h, fun _ _ _ h => h, fun a h => nU3 a h, fun _ _ h => (nomatch h), fun _ _ h => (nomatch h)⟩, rfl, rfl, fun a => ⟨fun h => (nomatch h), fun h => (nm a h).elim⟩, fun i => ?_, ?_⟩
  · cases i with
    | zero =>
      cases e
      have sh : ∀ ns : List Int, Shs K .fz (c.F B.D) (ns.map PV.int) (ns.map V.int) := fun ns => by
        induction ns with
        | nil => exact .nil
        | cons n ns ih => exact .cons (.int n) ih
      exact ⟨.ref a, rfl, .fz (.cl (le.sqL hS) (sh ns))⟩
    | succ i => cases e
  · show none = _
    cases i with
    | zero => rfl
    | succ i => simp
  · rw [h]
    intro _ _ v A c' R' st' es o
    exact o.blEq
theorem end_true {P : Program} {w : World} {H : Hp} {s : Shared} {e : Value} {s' : Shared} (h : L2.CX P w [] H s (fun _ _ _ => False) e s') : False := by
  obtain ⟨_, _, _, _, _, _, _, _, _, _, _, _, z⟩ := h
  exact z
theorem walk_Z {l : PySem.W.OpenLaw} {k : Nat} {q : Program} {loose : List Str} {XP : (Str → Option Value) → Heap → Prop} {YP : World → Heap → Prop} {d : DefRec} {K : Params → PySem.W.Frag} {x : Str} (run : List PV → Fr) (hrun : ∀ ns : List Int, ns.length ≤ 63 → ∃ ys, run [.cl (ns.map PV.int)] = .ok (.bl true) ys) (hn : l.most = some 63) (hdf : d.params.defaults = []) (hr : Room k callerA) (hY : ∀ (w : World) (h : Heap), YP w h → (K w.params).In h)
    (F : ∀ (w : World) (mg : Str → Option Value) (fa : Addr) (h : Heap), (K w.params).In h → h.Ns mainGlobals mg → XP mg h → mg d.name = some (.ref fa) →
      ∃ fd : FuncData, (∀ (s : Shared) (u : Value), BindsTo s fd ⟨[u], []⟩ [(x, u)]) ∧ ∃ C : Str → Addr, ∀ base : Heap, (K w.params).In base → base.Ns mainGlobals mg → FnOk l.prog w (K w.params) mg base (L2.CX l.prog w) k fa fd [x] (toSp ⟨K w.params, C⟩ [false] run)) :
    PySem.W.WalkO q loose XP YP l.row.toRowW d [] (fun f vs => PySem.call f vs) := by
  refine Att.attach_call hn hdf fun w s0 s1 mg mb fa o pm cd doc a vs ns Gr Y h1 h2 h3 hmg hobj hints hlen hg => ?_
  have KX := hY w _ Y
  obtain ⟨fd, hb, C, hF⟩ := F w mg fa _ KX Gr.T.g Gr.X hmg
  obtain ⟨ys, hrn⟩ := hrun ns hlen
  exact law_call KX Gr.T.g Gr.T.b Gr.T.builtins Gr.T.nolimit hg hobj hints (Nat.le_trans hlen (by decide)) hr hF hb (fun H _ hS => start_true (K := ⟨K w.params, C⟩) hS hrn) fun H e s' h => end_true h
theorem loose_int {p : Program} {lv : List (Str × PySem.W.WData)} {mg : Str → Option Value} {h : Heap} {x : Str} {i : Int} (X : PySem.W.XL p lv mg h) (m : (x, PySem.W.WData.int i) ∈ lv) : ∃ t, mg x = some (.int i t) := by
  obtain ⟨v, h1, h2⟩ := X.2.val _ m
  cases h2
  exact ⟨_, h1⟩
end Z

namespace Z
open PySem PySem.Spec PyProof.Rows L2
/-- how often a while may turn -/
def FU : Nat := 100000
theorem FU_eq : FU = 100000 := rfl
def TopStrs (K : PySem.W.Frag) (mg : Str → Option Value) (x : Str) (ts : List Str) : Prop := ∃ a, mg x = some (.ref a) ∧ ∃ (o : Obj) (its : Array Value) (n : Nat), K.lookup a = some o ∧ o.cls = .type "list" ∧ o.dict = none ∧ o.data = .seq its n ∧ its.size ≤ sizeLine ∧ Vals (ts.map V.str) its.toList
section
variable {X : Cx} {B : Bs} {W : WZ} {pos : Pos}
theorem Shs.strs {K : KC} {f : Fl} {F : Hp} : ∀ ns : List Str, Shs K f F (ns.map PV.str) (ns.map V.str)
  | [] => .nil
  | n :: ns => .cons (.str n) (Shs.strs ns)
theorem ve_gcl {x : Str} {ts : List Str} (hg : Gl X x) (hm : TopStrs X.K X.mg x ts) (hd : (x == ("__debug__" : Str)) = false := by decide) : VE X B W [] (.Name x pos) (eC (.cl (ts.map PV.str))) := by
  obtain ⟨f, h1, h2⟩ := hm
  exact ve_c (pe_glob (v := .ref f) hg h1 rfl hd) fun F G H => .fz (.cl (.inr h2) (Shs.strs ts))
end
section
variable {K : PySem.W.Frag} {a : Addr} {ws : List V} {σ : L2.St} {H : Hp} {Q : L2.St → Hp → Prop} {i j k l m : Nat}
theorem un_lst2 (h1 : SqL K H a ws) (h2 : ws.length = 2) (q : Q (([i, j].zip ws).foldl (fun r q => r.set q.1 (some q.2)) σ) H) : gLst K 2 (gCons (gName i) (gCons (gName j) gNil)) (.ref a) σ H Q :=
  match ws, h2, h1, q with
  | [w1, w2], _, h1, q => ⟨a, _, rfl, h1, rfl, w1, [w2], rfl, w2, [], rfl, rfl, q⟩
theorem un_lst3 (h1 : SqL K H a ws) (h2 : ws.length = 3) (q : Q (([i, j, k].zip ws).foldl (fun r q => r.set q.1 (some q.2)) σ) H) : gLst K 3 (gCons (gName i) (gCons (gName j) (gCons (gName k) gNil))) (.ref a) σ H Q :=
  match ws, h2, h1, q with
  | [w1, w2, w3], _, h1, q => ⟨a, _, rfl, h1, rfl, w1, [w2, w3], rfl, w2, [w3], rfl, w3, [], rfl, rfl, q⟩
end
/-- a def of which nothing is said -/
theorem fn_zero {P : Program} {w : World} {K : KC} {mg : Str → Option Value} {base : Heap} {x : Str} {st : Stmt} {ps : List Str} {k : Nat} {mu : List Bool} (Df : DefAt K.k mg x st ps) : Fn P w K mg base x k mu (fun _ => .bad) := by
  obtain ⟨f, fd, F, g, b⟩ := Df.ex
  refine ⟨f, fd, ps, g, F.kp, b, ⟨fun vs H Q E h => ?_, fun A outer s H args us vs Q E _ _ _ _ h => ?_⟩⟩
  · obtain ⟨_, _, _, _, _, _, _, _, _, _, _, _, z⟩ := h
    exact z.elim
  · obtain ⟨_, _, _, _, _, _, _, _, _, _, _, _, z⟩ := h
    exact z.elim
/-! ### x = [.. for ..] -/
section
variable {X : Cx} {B : Bs} {W : WZ} {ms mi mt me : List Nat} {elt iter : Expr} {ifs : List Expr} {scope : Scope} {pos px pt p1 p2 py spos : Pos} {fi fe f : St → Rs PV} {ft : St → Rs Bool} {x x1 x2 y : Str} {i : Nat}
theorem evB_imp {K : KC} {σ : L2.St} {H : Hp} {Q : VK} (h : evE K B W ms (eB f) σ H Q) : evF K B W ms f σ H Q := by
  obtain ⟨c, e, R, h⟩ := h
  subst e
  refine evF_run R (Rs.post_bind h) fun x v A c1 a1 o p1 => ?_
  exact p1 v { c1 with T := c.T } a1.drop rfl (.inr (a1.give R o))
theorem evV_imp {K : KC} {σ : L2.St} {H : Hp} {Q : VK} (h : evF K B W ms (fV f) σ H Q) : evE K B W ms f σ H Q := by
  obtain ⟨c, e, R, h⟩ := h
  subst e
  refine evE_run R (Rs.post_bind h) fun x v c1 a1 vl p1 => ?_
  by_cases n : x.nown = true
  · rw [if_pos n] at p1
    rcases vl with ⟨i, rfl, _⟩ | o
    · cases n
    · exact p1 v [] c1 a1 rfl o
  · rw [if_neg n] at p1; exact p1.elim
theorem setF_imp {K : KC} {D : Ends} {σ : L2.St} {H : Hp} (hr : B.root i = none) (h : evS K B W (sSet i f) D σ H) : evF K B W ms f σ H fun v H1 => gName i v σ H1 D.nx := by
  obtain ⟨c, e, R, T0, h⟩ := h
  subst e
  refine evF_run R (Rs.post_bind h) fun x v A c1 a1 o p1 => ?_
  by_cases n : i < c1.s.length
  · rw [if_pos n] at p1
    obtain ⟨c2, R2, s2, e1, e2⟩ := a1.put R o n hr
    have := p1 _ c2 R2 s2 e1
    show D.nx _ (lk B.L c1.H)
    rw [← e2]; exact this
  · rw [if_neg n] at p1; exact p1.elim
/-- what is made is kept as it is, or given up -/
inductive Keep (f : St → Rs PV) : (St → Rs PV) → Prop
  | own : Keep f f
  | val : Keep f (fV (eB f))
theorem Keep.imp {K : KC} {f' : St → Rs PV} {D : Ends} {σ : L2.St} {H : Hp} (k : Keep f f') (hr : B.root i = none) (h : evS K B W (sSet i f') D σ H) : evF K B W ms f σ H fun v H1 => gName i v σ H1 D.nx := by
  cases k with
  | own => exact setF_imp hr h
  | val => exact evB_imp (evV_imp (setF_imp hr h))
theorem vs_setLc (i j : Nat) {f' : St → Rs PV} (k : Keep (fLc [j] (fun y => some [y]) fi ft fe) f') (hc : X.calm = true) (hN : X.N.Nodup) (hi : VE X B W mi iter fi) (ok : BlkOk X.N X.env.scope scope [(x, j)]) (hri : B.root i = none) (hr : B.root j = none)
    (hg : ∀ (s : Shared) (H : Hp) (C : Addr) (cl : List (Str × Addr)) (fp : List Addr), PG (X.blk s H scope (compEnvC scope cl C X.env) fp) (.Name x px) (gName j))
    (ht : ∀ (s : Shared) (H : Hp) (C : Addr) (cl : List (Str × Addr)) (fp : List Addr), VTs (X.blk s H scope (compEnvC scope cl C X.env) fp) B (fun _ _ => False) mt ifs ft)
    (he : ∀ (s : Shared) (H : Hp) (C : Addr) (cl : List (Str × Addr)) (fp : List Addr), VF (X.blk s H scope (compEnvC scope cl C X.env) fp) B (fun _ _ => False) me elt fe) (hy : X.N[i]? = some y) (hyl : X.env.scope.names.lookup y = some .local) (hsw : swapsWith (.ListComp elt [⟨.Name x px, iter, ifs, 0⟩] scope pos) (some (.Name y py)) spos.line X.env = pure true) (hs : ∀ x, foldedSetIterable iter X.env x = pure x := by intro _; rfl) :
    VS X B W (.Assign [.Name y py] (.ListComp elt [⟨.Name x px, iter, ifs, 0⟩] scope pos) spos) (sSet i f') :=
  ps_imp (ps_setLc (own := [(x, j)]) (g := gName j) (tt := evT (kc X B) B (fun _ _ => False) mt ft) (te := evF (kc X B) B (fun _ _ => False) me fe) hc hN hy hyl hsw (pi_list hi) ok hg ht he hs) fun D σ H h => lc_imp j hr (k.imp hri h)
theorem vs_setLcR (i j : Nat) {a : Expr} {pp pq : Pos} {ga : St → Rs (List PV)} {f' : St → Rs PV} (k : Keep (fLcR [j] ga ft fe) f') (hc : X.calm = true) (hN : X.N.Nodup) (hm : X.mg "range" = none) (hi : VA X B W mi [a] ga) (ok : BlkOk X.N X.env.scope scope [(x, j)]) (hri : B.root i = none) (hr : B.root j = none)
    (hg : ∀ (s : Shared) (H : Hp) (C : Addr) (cl : List (Str × Addr)) (fp : List Addr), PG (X.blk s H scope (compEnvC scope cl C X.env) fp) (.Name x px) (gName j))
    (ht : ∀ (s : Shared) (H : Hp) (C : Addr) (cl : List (Str × Addr)) (fp : List Addr), VTs (X.blk s H scope (compEnvC scope cl C X.env) fp) B (fun _ _ => False) mt ifs ft)
    (he : ∀ (s : Shared) (H : Hp) (C : Addr) (cl : List (Str × Addr)) (fp : List Addr), VF (X.blk s H scope (compEnvC scope cl C X.env) fp) B (fun _ _ => False) me elt fe) (hgl : Gl X "range") (hy : X.N[i]? = some y) (hyl : X.env.scope.names.lookup y = some .local) (hsw : swapsWith (.ListComp elt [⟨.Name x px, .Call (.Name "range" pp) [a] [] pq, ifs, 0⟩] scope pos) (some (.Name y py)) spos.line X.env = pure true) (hst : starEach [a] X.env = [(false, eval a X.env)] := by rfl) (hs : ∀ x, foldedSetIterable (.Call (.Name "range" pp) [a] [] pq) X.env x = pure x := by intro _; rfl) :
    VS X B W (.Assign [.Name y py] (.ListComp elt [⟨.Name x px, .Call (.Name "range" pp) [a] [] pq, ifs, 0⟩] scope pos) spos) (sSet i f') :=
  ps_imp (ps_setLc (own := [(x, j)]) (g := gName j) (tt := evT (kc X B) B (fun _ _ => False) mt ft) (te := evF (kc X B) B (fun _ _ => False) me fe) hc hN hy hyl hsw (pi_range1 hgl hm hi hst) ok hg ht he hs) fun D σ H h => lcR_imp j hr (k.imp hri h)
theorem vs_setLc2 (i j1 j2 : Nat) {kt : Nat} {f' : St → Rs PV} (k : Keep (fLc [j1, j2] tgtTup fi ft fe) f') (hj : j1 ≠ j2) (hc : X.calm = true) (hN : X.N.Nodup) (hi : VE X B W mi iter fi) (ok : BlkOk X.N X.env.scope scope [(x1, j1), (x2, j2)]) (hri : B.root i = none) (hr1 : B.root j1 = none) (hr2 : B.root j2 = none)
    (hg : ∀ (s : Shared) (H : Hp) (C : Addr) (cl : List (Str × Addr)) (fp : List Addr), PG (X.blk s H scope (compEnvC scope cl C X.env) fp) (.Tuple [.Name x1 p1, .Name x2 p2] kt pt) (gTup X.K 2 (gCons (gName j1) (gCons (gName j2) gNil))))
    (ht : ∀ (s : Shared) (H : Hp) (C : Addr) (cl : List (Str × Addr)) (fp : List Addr), VTs (X.blk s H scope (compEnvC scope cl C X.env) fp) B (fun _ _ => False) mt ifs ft)
    (he : ∀ (s : Shared) (H : Hp) (C : Addr) (cl : List (Str × Addr)) (fp : List Addr), VF (X.blk s H scope (compEnvC scope cl C X.env) fp) B (fun _ _ => False) me elt fe) (hy : X.N[i]? = some y) (hyl : X.env.scope.names.lookup y = some .local) (hsw : swapsWith (.ListComp elt [⟨.Tuple [.Name x1 p1, .Name x2 p2] kt pt, iter, ifs, 0⟩] scope pos) (some (.Name y py)) spos.line X.env = pure true) (hs : ∀ x, foldedSetIterable iter X.env x = pure x := by intro _; rfl) :
    VS X B W (.Assign [.Name y py] (.ListComp elt [⟨.Tuple [.Name x1 p1, .Name x2 p2] kt pt, iter, ifs, 0⟩] scope pos) spos) (sSet i f') :=
  ps_imp (ps_setLc (own := [(x1, j1), (x2, j2)]) (g := gTup X.K 2 (gCons (gName j1) (gCons (gName j2) gNil))) (tt := evT (kc X B) B (fun _ _ => False) mt ft) (te := evF (kc X B) B (fun _ _ => False) me fe) hc hN hy hyl hsw (pi_list hi) ok hg ht he hs) fun D σ H h => lc2_imp j1 j2 hj hr1 hr2 (k.imp hri h)
end
end Z

namespace Z
open PySem PySem.Spec PyProof.Rows L2
section
variable {X : Cx} {B : Bs} {W : WZ} {ms : List Nat} {iter : Expr} {fa : St → Rs PV} {pos p1 p2 pt : Pos} {f : Sm} {x1 x2 : Str}
/-- over tuples, taken apart -/
def sForT (js : List Nat) (f : Sm) : List PV → Sm
  | [], s => .ok .nx s
  | y :: ys, s => match tgtTup y with
    | some zs => if zs.length = js.length ∧ js.all (fun j => decide (j < s.length)) then (f (setAll js zs s)).bind fun fl s2 => match fl with
        | .nx => sForT js f ys s2
        | .ct => sForT js f ys s2
        | .bk => .ok .nx s2
        | .rt x => .ok (.rt x) s2
      else .bad
    | none => .bad
def sFor2 (js : List Nat) (fi : St → Rs PV) (f : Sm) : Sm := fun s => (fi s).bind fun x s1 => match itemsOf x with
  | some xs => sForT js f xs s1
  | none => .bad
theorem vs_for2 (j1 j2 : Nat) {kt : Nat} {body : List Stmt} (hp : PassesOwn (model X.prog X.w) X.A X.env X.xe) (hc : X.calm = true) (hi : VE X B W ms iter fa) (hb : VSs X B W body f) (hr1 : B.root j1 = none) (hr2 : B.root j2 = none) (hg : PG X (.Tuple [.Name x1 p1, .Name x2 p2] kt pt) (gTup X.K 2 (gCons (gName j1) (gCons (gName j2) gNil))))
    (hs : ∀ y, foldedSetIterable iter X.env y = pure y := by intro _; rfl) :
    VS X B W (.For (.Tuple [.Name x1 p1, .Name x2 p2] kt pt) iter body [] pos) (sFor2 [j1, j2] fa f) := by
  refine ps_imp (ps_for hp hc (pi_list hi) hg hb hs) fun D σ H ⟨c0, e, R, T0, h⟩ => ?_
  subst e
  dsimp only [tFor, iList]
  refine evE_run R (Rs.post_bind h) fun x v c1 a1 v1 p1 => ?_
  split at p1
  · rename_i xs ex
    obtain ⟨a, ws, rfl, os, sq⟩ := v1.items ex
    have sqR : ∀ c' σ', Rel (kc X B) B c' σ' → Step [] c1 c' → SqL X.K (c'.R B) a ws := fun c' σ' R' s' => R'.lkSqL (sq c' s'.G)
    have hr' : ∀ k ∈ [j1, j2], B.root k = none := fun k m => by
      rcases List.mem_cons.mp m with rfl | m
      · exact hr1
      · cases List.mem_singleton.mp m; exact hr2
    refine ⟨a, rfl, ⟨_, sqR c1 σ a1.rel .refl⟩, for_list (xs := ws) (fun i σ' H' => ∃ c', H' = c'.R B ∧ Rel (kc X B) B c' σ' ∧ Step [] c1 c' ∧ (sForT [j1, j2] f (xs.drop i) c'.s).post (fwd (kc X B) B c0 D) W) ⟨c1, rfl, a1.rel, .refl, p1⟩ (fun i σ' H' _ ⟨c', e, R', s', _⟩ => by subst e; exact sqR c' σ' R' s') (fun i y σ' H' hy ⟨c', e, R', s', hw⟩ => ?_) fun σ' H' ⟨c', e, R', s', hw⟩ => ?_⟩
    · subst e
      have hlt : i < xs.length := by rw [os.length]; exact (List.getElem?_eq_some_iff.mp hy).1
      have hz : xs[i]? = some xs[i] := List.getElem?_eq_getElem hlt
      obtain ⟨y', h1, h2⟩ := os.get hz
      rw [hy] at h1; cases h1
      rw [drop_get hz, sForT] at hw
      split at hw
      · rename_i zs ez
        by_cases n : zs.length = [j1, j2].length ∧ [j1, j2].all (fun j => decide (j < c'.s.length)) = true
        · rw [if_pos n] at hw
          have h2' : Own (kc X B) (c'.F B.D) c'.G c'.H xs[i] y [] := h2.le s'.F s'.G (fun _ m => by cases m)
          obtain ⟨q, us, rfl, sqt, ou⟩ := tup_os R' h2' ez
          obtain ⟨c2, R2, e1, e2, e3, e4, e5⟩ := Rel.putAll (T := c'.T) (S := []) [j1, j2] R' rfl (fun _ m => by cases m) ou.owns n.1 (fun j m => by simpa using List.all_eq_true.mp n.2 j m) hr'
          have s2 : Step [] c' c2 := ⟨fun a o _ h => by rw [e2]; exact h, fun a h => h.elim (fun z => by cases z) fun h => .inl ((e4 a h).elim (fun z => by cases z) id), e3⟩
          have s12 := s'.trans0 s2
          have hw' := Rs.post_bind hw
          have es : c2.s = setAll [j1, j2] zs c'.s := e1
          rw [← es] at hw'
          refine un_tup2 sqt (by rw [← ou.length]; exact n.1) ?_
          show evS (kc X B) B W f _ _ (lk B.L c'.H)
          rw [← e2]
          refine evS_run R2 ((a1.st.trans0 s12).T.trans T0) hw' fun fl s3 p3 => ?_
          cases fl with
          | nx => exact fun σ3 c3 R3 s3' e3 => ⟨c3, rfl, R3, s12.trans0 s3', by rw [e3]; exact p3⟩
          | ct => exact fun σ3 c3 R3 s3' e3 => ⟨c3, rfl, R3, s12.trans0 s3', by rw [e3]; exact p3⟩
          | bk => exact fun σ3 c3 R3 s3' e3 => p3 σ3 c3 R3 ((a1.st.trans0 s12).trans0 s3') e3
          | rt x => exact fun v A σ3 c3 R3 s3' e3 o => p3 v A σ3 c3 R3 ((a1.st.trans0 s12).trans0 s3') e3 o
        · rw [if_neg n] at hw; exact hw.elim
      · exact hw.elim
    · subst e
      rw [← os.length, List.drop_length, sForT] at hw
      exact hw σ' c' R' (a1.st.trans0 s') rfl
  · exact p1.elim
end
end Z

/-! Dicts. -/
namespace Z
open PySem PySem.Spec PyProof.Rows L2
def keyOf : PV → Option Key
  | .int i => some (.inl i)
  | .str x => some (.inr x)
  | _ => none
def valA {β : Type} (kvs : List (Key × β)) (k : Key) : Option β := (kvs.find? fun kv => decide (kv.1 = k)).map (·.2)
theorem Vl.key {K : KC} {B : Bs} {c : Cf} {σ : L2.St} {y : PV} {v : V} {k : Key} (h : Vl K B c σ y v) (e : keyOf y = some k) : v = kV k := by
  rcases h with ⟨i, rfl, _⟩ | h
  · cases e
  · cases y with
    | int i => cases e; exact h.intEq
    | str x => cases e; exact h.strEq
    | _ => cases e
theorem Os.val {K : KC} {F G H : Hp} {k : Key} : ∀ {ks : List Key} {xs : List PV} {ws : List V}, ks.length = ws.length → Os K F G H xs ws →
    (∀ z, valA (ks.zip xs) k = some z → ∃ u, valV (ks.zip ws) k = some u ∧ Own K F G H z u []) ∧ (valA (ks.zip xs) k = none → valV (ks.zip ws) k = none)
  | [], xs, ws, _, _ => ⟨fun z e => (by simp [valA] at e), fun _ => (by simp [valV])⟩
  | k' :: ks, _, _, h, r => by
    cases r with
    | nil => simp at h
    | @cons x v xs vs a b =>
      have ih := Os.val (k := k) (ks := ks) (by simpa using h) b
      by_cases e : k' = k
      · subst e
        refine ⟨fun z hz => ?_, fun hz => ?_⟩
        · simp [valA] at hz; subst hz; exact ⟨_, by simp [valV], a⟩
        · simp [valA] at hz
      · refine ⟨fun z hz => ?_, fun hz => ?_⟩
        · have : valA (ks.zip xs) k = some z := by simpa [valA, e] using hz
          obtain ⟨u, h1, h2⟩ := ih.1 z this
          exact ⟨u, by rw [← h1]; simp [valV, e], h2⟩
        · have : valA (ks.zip xs) k = none := by simpa [valA, e] using hz
          rw [← ih.2 this]; simp [valV, e]
theorem Rel.dctOf {K : KC} {B : Bs} {c : Cf} {σ : L2.St} {x : PV} {v : V} (R : Rel K B c σ) (h : Vl K B c σ x v) {f : Fl} {ks : List Key} {xs : List PV} (e : Z.look c.s x = .cell f (.dK ks) xs) (n : PV.nowns xs = true) : ∃ a ws, v = .ref a ∧ c.H a = some (.dK (ks.zip ws)) ∧ ks.length = ws.length ∧ Os K (c.F B.D) c.G c.H xs ws := by
  obtain ⟨a, ws, A0, S, h1, h2, h3⟩ := R.cellOf h e
  exact ⟨a, ws, h1, h2.1, h2.2.1, h3.os (h3.nown n)⟩
theorem lk_rd {L : Addr → Option Obj} {H : Hp} {a : Addr} {o : HO} (h : H a = some o) : Rd (lk L H) a o := by
  cases e : L a with
  | none => exact .inl (by unfold lk; rw [e, h])
  | some ob => exact .inr ⟨ob, by unfold lk; rw [e, h]⟩
section
variable {X : Cx} {B : Bs} {W : WZ} {a b : Expr} {fa fb : St → Rs PV} {ma mb : List Nat} {pos : Pos}
/-- d[k] -/
def rDGet : R2 := fun x y H Q => ∃ a v, x = .ref a ∧ DGet H a y (some v) ∧ Q v H
def gDGet : G2 := fun s x y => match look s x, keyOf y with
  | .cell _ (.dK ks) xs, some k => if PV.nowns xs then valA (ks.zip xs) k else none
  | _, _ => none
theorem pop_dget : POp X B rDGet gDGet := by
  intro c σ x y z v w Q R hx hy g k
  unfold gDGet at g
  split at g
  · rename_i f ks xs k' e1 e2
    by_cases n : PV.nowns xs = true
    · rw [if_pos n] at g
      obtain ⟨a, ws, rfl, h1, h2, r⟩ := R.dctOf hx e1 n
      obtain ⟨u, h3, o⟩ := (r.val (k := k') h2).1 z g
      exact ⟨a, u, rfl, .inl ⟨_, k', lk_rd h1, hy.key e2, h3.symm⟩, k u c.H (Le.refl _) o⟩
    · rw [if_neg n] at g; cases g
  · cases g
theorem ve_dget {k : Nat} (hr : Room k X.A) (ha : VE X B W ma a fa) (hb : VE X B W mb b fb) (hs : NoSl b := by exact fun _ _ => rfl) : VE X B W (ma ++ mb) (.Subscript a b pos) (e2 gDGet fa fb) := bin2 pop_dget (pe_dget (by have := hr.un; omega) ha hb hs)
/-- k in d -/
def rDIn (f : Bool → Bool) : R2 := fun y x H Q => ∃ a o, x = .ref a ∧ DGet H a y o ∧ Q (.bl (f o.isSome)) H
def gDIn (f : Bool → Bool) : G2 := fun s y x => match look s x, keyOf y with
  | .cell _ (.dK ks) xs, some k => if PV.nowns xs then some (.bl (f (valA (ks.zip xs) k).isSome)) else none
  | _, _ => none
theorem pop_din (f : Bool → Bool) : POp X B (rDIn f) (gDIn f) := by
  intro c σ y x z w v Q R hy hx g k
  unfold gDIn at g
  split at g
  · rename_i fl ks xs k' e1 e2
    by_cases n : PV.nowns xs = true
    · rw [if_pos n] at g
      cases g
      obtain ⟨a, ws, rfl, h1, h2, r⟩ := R.dctOf hx e1 n
      refine ⟨a, _, rfl, .inl ⟨_, k', lk_rd h1, hy.key e2, rfl⟩, ?_⟩
      have hv : (valV (ks.zip ws) k').isSome = (valA (ks.zip xs) k').isSome := by
        cases q : valA (ks.zip xs) k' with
        | none => rw [(r.val h2).2 q]; rfl
        | some z => obtain ⟨u, h3, _⟩ := (r.val h2).1 z q; rw [h3]; rfl
      rw [hv]
      exact k _ c.H (Le.refl _) (.bl _)
    · rw [if_neg n] at g; cases g
  · cases g
theorem ve_din {k : Nat} (hr : Room k X.A) (ha : VE X B W ma a fa) (hb : VE X B W mb b fb) (hm : behindInMarks .In b = false := by rfl) : VE X B W (ma ++ mb) (.Compare a [.In] [b] pos) (e2 (gDIn id) fa fb) := bin2 (pop_din id) (pe_cmp (pc_din (by have := hr.un; omega) ha hb) hm)
theorem ve_dnotin {k : Nat} (hr : Room k X.A) (ha : VE X B W ma a fa) (hb : VE X B W mb b fb) (hm : behindInMarks .NotIn b = false := by rfl) : VE X B W (ma ++ mb) (.Compare a [.NotIn] [b] pos) (e2 (gDIn not) fa fb) := bin2 (pop_din not) (pe_cmp (pc_dnotin (by have := hr.un; omega) ha hb) hm)
/-- d.get(k, x) -/
def isDK (x : PV) : Bool := match x with
  | .cell _ (.dK _) xs => PV.nowns xs
  | _ => false
def dGet2 (s : St) (x y z : PV) : Option PV := match look s x, keyOf y with
  | .cell _ (.dK ks) xs, some k => if PV.nowns xs then some ((valA (ks.zip xs) k).getD z) else none
  | _, _ => none
def eDGet2 (fo fk fd : St → Rs PV) (s : St) : Rs PV := (fo s).bind fun x s1 => if isDK (look s1 x) then (fk s1).bind fun y s2 => (fd s2).bind fun z s3 => ofO (dGet2 s3 x y z) s3 else .bad
theorem ve_dget2 {k : Nat} {o e f : Expr} {fo fk fd : St → Rs PV} {mo mk md : List Nat} {apos cpos : Pos} (hr : Room k X.A) (ho : VE X B W mo o fo) (he : VE X B W mk e fk) (hf : VE X B W md f fd) (m : M2 X o "get" apos e f cpos) : VE X B W (mo ++ (mk ++ md)) (.Call (.Attribute o "get" apos) [e, f] [] cpos) (eDGet2 fo fk fd) := by
  refine pe_imp (pe_dget2 (by have := hr.un; omega) ho he hf m) fun σ H Q ⟨c, ec, R, h⟩ => ?_
  subst ec
  refine evE_run R (Rs.post_bind h) fun x v c1 a1 v1 p1 => ?_
  by_cases hd : isDK (look c1.s x) = true
  · rw [if_pos hd] at p1
    cases hl : look c1.s x with
    | cell fl t xs =>
      rw [hl] at hd
      cases t with
      | dK ks =>
        obtain ⟨a, ws, rfl, h1, h2, r⟩ := a1.rel.dctOf v1 hl hd
        refine ⟨a, rfl, .inl ⟨_, lk_rd h1⟩, ?_⟩
        refine evE_run a1.rel (Rs.post_bind p1) fun y w c2 a2 v2 p2 => ?_
        refine evE_run a2.rel (Rs.post_bind p2) fun z u c3 a3 v3 p3 => ?_
        obtain ⟨z', hz, p4⟩ := ofO_post p3
        have v1' := (v1.step a2.st).step a3.st
        have v2' := v2.step a3.st
        unfold dGet2 at hz
        split at hz
        · rename_i fl' ks' xs' k' e1 e2'
          by_cases n : PV.nowns xs' = true
          · rw [if_pos n] at hz
            cases hz
            obtain ⟨a', ws', ea, h1', h2', r'⟩ := a3.rel.dctOf v1' e1 n
            cases ea
            refine ⟨_, .inl ⟨_, k', lk_rd h1', v2'.key e2', rfl⟩, ?_⟩
            have aa := a1.trans (a2.trans a3)
            cases q : valA (ks'.zip xs') k' with
            | none =>
              rw [q] at p4
              rw [(r'.val h2').2 q]
              exact p4 u c3 aa rfl v3
            | some z0 =>
              rw [q] at p4
              obtain ⟨u', h3, o'⟩ := (r'.val h2').1 z0 q
              rw [h3]
              exact p4 u' c3 aa rfl (.inr o')
          · rw [if_neg n] at hz; cases hz
        · cases hz
      | _ => cases hd
    | _ => rw [hl] at hd; cases hd
  · rw [if_neg hd] at p1; exact p1.elim
/-- {} -/
def fDNew (s : St) : Rs PV := .ok (.cell .own (.dK []) []) s
theorem vf_dnew : VF X B W [] (.Dict [] [] pos) fDNew := by
  refine pe_imp pe_dnewK fun σ H Q ⟨c, e, R, h⟩ => ?_
  subst e
  intro t ht
  obtain ⟨ht, hl⟩ := R.lkNew ht
  have a2 := R.push (ms := []) (A := [t]) (H' := upd c.H t (.dK [])) (upd_le ht) (fun x m => by cases List.mem_singleton.mp m; exact ht) (fun x m => by cases List.mem_singleton.mp m; exact ⟨_, upd_same, trivial⟩)
  have := h (.ref t) ([t] ++ []) { c with H := upd c.H t (.dK []), T := [t] ++ c.T } (by simpa using a2) rfl (.cell (t := .dK []) (ws := []) ⟨upd_same, rfl, List.nodup_nil, rfl⟩ .nil fun b m z => by cases z)
  rw [lk_upd hl]; exact this
end
end Z

/-! Places within places; what stands there read; d[k] = v. -/
namespace Z
open PySem PySem.Spec PyProof.Rows L2
theorem pe_or {X : Cx} {e : Expr} {t1 t2 : TE} (h1 : PE X e t1) (h2 : PE X e t2) : PE X e (fun σ H Q => t1 σ H Q ∨ t2 σ H Q) := ⟨fun pins s σ H Q I h => h.elim (fun h => h1.run pins s σ H Q I h) fun h => h2.run pins s σ H Q I h⟩
theorem ps_or {X : Cx} {e : Stmt} {t1 t2 : TS} (h1 : PS X e t1) (h2 : PS X e t2) : PS X e (fun D σ H => t1 D σ H ∨ t2 D σ H) := ⟨fun pins s σ H D I h => h.elim (fun h => h1.run pins s σ H D I h) fun h => h2.run pins s σ H D I h⟩
theorem Aft.s_eq {K : KC} {B : Bs} {A : List Addr} {c c' : Cf} {σ : L2.St} (a : Aft K B [] A c σ c') : c'.s = c.s := List.ext_getElem? fun i => (a.fr i (by simp)).s
def keyIx (ks : List Key) (k : Key) : Option Nat := ks.findIdx? fun k' => decide (k' = k)
/-- which one of a thing's parts -/
def idxOf (x y : PV) : Option Nat := match x, y with
  | .cell .own .lst xs, .int z => ixN xs.length z
  | .cell .own (.dK ks) _, y => (keyOf y).bind (keyIx ks)
  | .tup xs, .int z => if PV.nowns xs then none else ixN xs.length z
  | _, _ => none
def getS (s : St) (i : Nat) (q : List Nat) : Option PV := match s[i]? with
  | some (some x) => getP x q
  | _ => none
theorem getS_ok {s : St} {i : Nat} {q : List Nat} {y : PV} (h : getS s i q = some y) : ∃ x, s[i]? = some (some x) ∧ getP x q = some y := by
  unfold getS at h
  split at h
  · rename_i x e; exact ⟨x, e, h⟩
  · cases h
def lIx (i : Nat) (fl : St → Option (List Nat)) (fb : St → Rs PV) (s : St) : Option (List Nat) := match fl s with
  | some q => match getS s i q, fb s with
    | some c, .ok y _ => (idxOf c y).map fun n => q ++ [n]
    | _, _ => none
  | none => none
theorem atP_snoc (H : Hp) (n : Nat) : ∀ (q : List Nat) (u : V), atP H u (q ++ [n]) = (atP H u q).bind fun w => atP H w [n]
  | [], u => by rw [atP]; rfl
  | m :: q, .ref a => by
    rw [List.cons_append, atP, atP]
    cases H a with
    | none => rfl
    | some o =>
      show (kidO o m).bind _ = ((kidO o m).bind _).bind _
      cases kidO o m with
      | none => rfl
      | some w => exact atP_snoc H n q w
  | m :: q, .non => rfl
  | m :: q, .bl _ => rfl
  | m :: q, .int _ => rfl
  | m :: q, .str _ => rfl
  | m :: q, .byt _ => rfl
  | m :: q, .flt _ => rfl
  | m :: q, .ty _ => rfl
theorem atP_one {H : Hp} {a : Addr} {o : HO} {n : Nat} {w : V} (h : H a = some o) (k : kidO o n = some w) : atP H (.ref a) [n] = some w := by
  rw [atP, h]
  show (kidO o n).bind _ = _
  rw [k]
  show atP H w [] = _
  rw [atP]
theorem keyIx_val {k : Key} : ∀ {ks : List Key} {ws : List V} {n : Nat}, keyIx ks k = some n → ks.length = ws.length → ∃ w, ws[n]? = some w ∧ valV (ks.zip ws) k = some w
  | [], _, n, h, _ => by simp [keyIx] at h
  | k' :: ks, [], n, h, l => by simp at l
  | k' :: ks, w :: ws, n, h, l => by
    unfold keyIx at h
    rw [List.findIdx?_cons] at h
    by_cases e : k' = k
    · rw [if_pos (decide_eq_true e)] at h
      cases h
      exact ⟨w, rfl, by rw [List.zip_cons_cons, valV_pos e]⟩
    · rw [if_neg (by simp [e])] at h
      cases q : ks.findIdx? (fun k' => decide (k' = k)) with
      | none => rw [q] at h; cases h
      | some m =>
        rw [q] at h; cases h
        obtain ⟨w', h1, h2⟩ := keyIx_val (ks := ks) (ws := ws) q (by simpa using l)
        exact ⟨w', by simpa using h1, by rw [List.zip_cons_cons, valV_neg e]; exact h2⟩
theorem Owns.nownsOf {K : KC} {F G H : Hp} : ∀ {xs : List PV} {ws : List V}, Owns K F G H xs ws [] → PV.nowns xs = true := by
  intro xs ws h
  have key : ∀ {xs : List PV} {ws : List V} {S : List Addr}, Owns K F G H xs ws S → S = [] → PV.nowns xs = true := by
    intro xs
    induction xs with
    | nil => intro _ _ _ _; rfl
    | cons x xs ih =>
      intro ws S h e
      cases h with
      | cons a b d =>
        have e := List.append_eq_nil_iff.mp e
        rw [PV.nowns, a.nownOf e.1, ih b e.2]; rfl
  exact key h rfl
section
variable {X : Cx} {B : Bs} {W : WZ} {ms ma mb mc : List Nat} {a b d e o : Expr} {es : List Expr} {fa fb fc : St → Rs PV} {pos p p2 apos cpos : Pos} {ga : St → Rs (List PV)} {i : Nat} {fl : St → Option (List Nat)}
/-- what stands at a place -/
theorem Rel.atPl {K : KC} {c : Cf} {σ : L2.St} {q : List Nat} {u v : V} {y : PV} (R : Rel K B c σ) (h : getS c.s i q = some y) (hu : σ[i]? = some (some u)) (hv : atP c.H u q = some v) : ∃ A, Own K (c.F B.D) c.G c.H y v A ∧ ∀ b ∈ A, b ∈ c.As i := by
  obtain ⟨x, hx, hg⟩ := getS_ok h
  obtain ⟨u', h1, o⟩ := R.own i x hx
  rw [hu] at h1; cases h1
  obtain ⟨v', A1, A2, h2, h3, h4, _⟩ := o.path q hg F_le
  rw [hv] at h2; cases h2
  exact ⟨A1, h3, fun b m => (h4 b).mpr (.inl m)⟩
theorem stay0 {K : KC} {c c1 : Cf} {σ : L2.St} {A : List Addr} {q : List Nat} {u v : V} {y : PV} (R : Rel K B c σ) (a : Aft K B [] A c σ c1) (hu : σ[i]? = some (some u)) (hv : atP c.H u q = some v) (h : getS c.s i q = some y) : atP c1.H u q = some v := by
  obtain ⟨x, hx, hg⟩ := getS_ok h
  exact stay R a (.inr (by simp)) hu hv (by rw [a.s_eq]; exact hx) hg
theorem vl_ix {k : Nat} (hr : Room k X.A) (ho : VL X B W i o fl) (hb : VE X B W [] b fb) (hs : PlainIx b := by exact fun _ _ => rfl) : VL X B W i (.Subscript o b pos) (lIx i fl fb) := by
  refine pe_imp (pe_or (pe_ix ix_seq ho hb hs) (pe_dget (by have := hr.un; omega) ho hb hs)) fun σ H Q ⟨c, e, R, q, hq, h⟩ => ?_
  subst e
  unfold lIx at hq
  split at hq
  · rename_i q0 hq0
    split at hq
    · rename_i cc y s' hg hy
      cases hn : idxOf cc y with
      | none => rw [hn] at hq; cases hq
      | some n =>
        rw [hn] at hq
        cases hq
        have run : ∀ (P : V → V → Hp → Prop), (∀ v w c2 u, Aft (kc X B) B [] [] c σ c2 → σ[i]? = some (some u) → atP c2.H u q0 = some v → Vl (kc X B) B c2 σ y w → P v w (c2.R B)) → evL (kc X B) B W i fl σ (c.R B) fun v H1 => evE (kc X B) B W [] fb σ H1 fun w H2 => P v w H2 := by
          intro P k
          refine evL_run R hq0 fun v u c1 a1 e1 hu hv => ?_
          refine evE_run (P := fun y' _ => y' = y) a1.rel (by rw [e1, hy]; exact rfl) fun y' w c2 a2 v2 p2 => ?_
          subst p2
          have hv2 := stay0 a1.rel a2 hu hv (by rw [e1]; exact hg)
          exact k v w c2 u (by simpa using a1.trans a2) hu hv2 v2
        have fin : ∀ {v w u : V} {c2 : Cf} {a : Addr} {o : HO}, Aft (kc X B) B [] [] c σ c2 → σ[i]? = some (some u) → atP c2.H u q0 = some (.ref a) → c2.H a = some o → kidO o n = some w → Q w (c2.R B) := fun {v w u c2 a o} aa hu hv ho hk => by
          refine h w c2 aa aa.s_eq ⟨u, hu, ?_⟩
          rw [atP_snoc, hv]
          exact atP_one ho hk
        unfold idxOf at hn
        split at hn
        · rename_i xs z
          refine .inl (run _ fun v w c2 u aa hu hv vy => ?_)
          obtain ⟨A, oc, _⟩ := aa.rel.atPl (by rw [aa.s_eq]; exact hg) hu hv
          obtain ⟨p, ws, A0, S, rfl, io, os, _⟩ := oc.view F_le G_le
          have hl := os.length
          have hn' := hn
          rw [hl] at hn'
          have hlt : n < ws.length := (ixN_seq hn').2.1
          refine .inl ⟨p, ws, z, ws[n], rfl, vy.int, aa.rel.lkSqL (.inl (.inl io.1)), ?_, fin (v := .ref p) aa hu hv io.1 (show ws[n]? = _ from List.getElem?_eq_getElem hlt)⟩
          unfold atI; rw [hn']; exact List.getElem?_eq_getElem hlt
        · rename_i ks xs
          refine .inr (run (fun x y H2 => ∃ a v, x = .ref a ∧ DGet H2 a y (some v) ∧ Q v H2) fun v w c2 u aa hu hv vy => ?_)
          obtain ⟨A, oc, _⟩ := aa.rel.atPl (by rw [aa.s_eq]; exact hg) hu hv
          obtain ⟨p, ws, A0, S, rfl, io, os, _⟩ := oc.view F_le G_le
          cases hk : keyOf y with
          | none => rw [hk] at hn; cases hn
          | some k =>
            rw [hk] at hn
            obtain ⟨w1, h1, h2⟩ := keyIx_val (ws := ws) hn io.2.1
            exact ⟨p, w1, rfl, .inl ⟨_, k, lk_rd io.1, vy.key hk, h2.symm⟩, fin (v := .ref p) aa hu hv io.1 (show ((ks.zip ws)[n]?).map (·.2) = _ by rw [zip_snd io.2.1]; exact h1)⟩
        · rename_i xs z
          by_cases nn : PV.nowns xs = true
          · rw [if_pos nn] at hn; cases hn
          · rw [if_neg nn] at hn
            refine .inl (run _ fun v w c2 u aa hu hv vy => ?_)
            obtain ⟨A, oc, _⟩ := aa.rel.atPl (by rw [aa.s_eq]; exact hg) hu hv
            cases oc with
            | fz hh => cases hh with
              | tup aa' bb => exact (nn (bb.osF (G := c2.G) (H := c2.H)).owns.nownsOf).elim
            | bw hh => cases hh with
              | tup aa' bb => exact (nn (bb.osB (F := c2.F B.D) (H := c2.H)).owns.nownsOf).elim
            | tup hF os =>
              rename_i p ws
              have hl := os.length
              have hn' := hn
              rw [hl] at hn'
              have hlt : n < ws.length := (ixN_seq hn').2.1
              have hH := F_le _ _ hF
              refine .inr (.inl ⟨p, ws, z, ws[n], rfl, vy.int, aa.rel.lkSqT (.inl (.inl hH)), ?_, fin (v := .ref p) aa hu hv hH (show ws[n]? = _ from List.getElem?_eq_getElem hlt)⟩)
              unfold atI; rw [hn']; exact List.getElem?_eq_getElem hlt
        · cases hn
    · cases hq
  · cases hq
/-- what stands there, read -/
def eRdL (i : Nat) (fl : St → Option (List Nat)) (s : St) : Rs PV := match fl s with
  | some q => match getS s i q with
    | some y => if y.nown then .ok y s else .bad
    | none => .bad
  | none => .bad
theorem ve_rdL (ho : VL X B W i o fl) : VE X B W [] o (eRdL i fl) := by
  refine pe_imp ho fun σ H Q ⟨c, e, R, h⟩ => ?_
  subst e
  unfold eRdL at h
  split at h
  · rename_i q hq
    split at h
    · rename_i y hy
      by_cases n : y.nown = true
      · rw [if_pos n] at h
        refine ⟨c, rfl, R, q, hq, fun v c' aa e1 ⟨u, hu, hv⟩ => ?_⟩
        obtain ⟨A, o, _⟩ := aa.rel.atPl (by rw [e1]; exact hy) hu hv
        have eA := o.nown n
        rw [eA] at o
        exact h v c' aa e1 (.inr o)
      · rw [if_neg n] at h; exact h.elim
    · exact h.elim
  · exact h.elim
theorem stb_n (h : i ∉ ms := by simp) : Stb fl i ms := .inr h
/-! d[k] = v -/
def dctAt (s : St) (i : Nat) (q : List Nat) : Option (PV × List Key × List PV) := match s[i]? with
  | some (some x) => match getP x q with
    | some (.cell .own (.dK ks) xs) => some (x, ks, xs)
    | _ => none
  | _ => none
theorem dctAt_ok {s : St} {q : List Nat} {x : PV} {ks : List Key} {xs : List PV} (h : dctAt s i q = some (x, ks, xs)) : s[i]? = some (some x) ∧ getP x q = some (.cell .own (.dK ks) xs) := by
  unfold dctAt at h
  split at h
  · rename_i x' e
    split at h
    · rename_i ks' xs' e2; cases h; exact ⟨e, e2⟩
    · cases h
  · cases h
def putD (ks : List Key) (xs : List PV) (k : Key) (y : PV) : PV := match keyIx ks k with
  | some n => .cell .own (.dK ks) (xs.set n y)
  | none => .cell .own (.dK (ks ++ [k])) (xs ++ [y])
def sDPut (i : Nat) (fe : St → Rs PV) (fl : St → Option (List Nat)) (fk : St → Rs PV) : Sm := fun s => (fe s).bind fun y s1 => match fl s1 with
  | some q => match dctAt s1 i q with
    | some _ => (fk s1).bind fun k s2 => match keyOf k, dctAt s2 i q with
      | some kk, some (x, ks, xs) => if xs.length < sizeLine then .ok .nx (s2.set i (some (setP x q (putD ks xs kk y)))) else .bad
      | _, _ => .bad
    | none => .bad
  | none => .bad
theorem keyIx_none {k : Key} : ∀ {ks : List Key}, keyIx ks k = none → k ∉ ks
  | [], _, m => by cases m
  | k' :: ks, h, m => by
    unfold keyIx at h
    rw [List.findIdx?_cons] at h
    by_cases e : k' = k
    · rw [if_pos (decide_eq_true e)] at h; cases h
    · rw [if_neg (by simp [e])] at h
      rcases List.mem_cons.mp m with rfl | m
      · exact e rfl
      · exact keyIx_none (ks := ks) (by unfold keyIx; simpa using h) m
theorem keyIx_lt {k : Key} : ∀ {ks : List Key} {n : Nat}, keyIx ks k = some n → ks[n]? = some k
  | [], n, h => by simp [keyIx] at h
  | k' :: ks, n, h => by
    unfold keyIx at h
    rw [List.findIdx?_cons] at h
    by_cases e : k' = k
    · rw [if_pos (decide_eq_true e)] at h; cases h; rw [e]; rfl
    · rw [if_neg (by simp [e])] at h
      cases q : ks.findIdx? (fun k' => decide (k' = k)) with
      | none => rw [q] at h; cases h
      | some m => rw [q] at h; cases h; exact keyIx_lt (ks := ks) q
theorem putK_set {k : Key} {v : V} : ∀ {ks : List Key} {ws : List V} {n : Nat}, keyIx ks k = some n → ks.length = ws.length → ks.Nodup → (ks.zip ws).map (fun kv => if kv.1 = k then (kv.1, v) else kv) = ks.zip (ws.set n v)
  | [], _, n, h, _, _ => by simp [keyIx] at h
  | k' :: ks, [], n, h, l, _ => by simp at l
  | k' :: ks, w :: ws, n, h, l, nd => by
    have hnd := List.nodup_cons.mp nd
    unfold keyIx at h
    rw [List.findIdx?_cons] at h
    by_cases e : k' = k
    · rw [if_pos (decide_eq_true e)] at h
      cases h
      subst e
      rw [List.zip_cons_cons, List.map_cons, if_pos rfl, List.set_cons_zero, List.zip_cons_cons]
      congr 1
      have : ∀ kv ∈ ks.zip ws, (if kv.1 = k' then (kv.1, v) else kv) = kv := fun kv m => if_neg fun z => hnd.1 (by rw [← z]; exact (List.of_mem_zip m).1)
      exact (List.map_congr_left this).trans (List.map_id _)
    · rw [if_neg (by simp [e])] at h
      cases q : ks.findIdx? (fun k' => decide (k' = k)) with
      | none => rw [q] at h; cases h
      | some m =>
        rw [q] at h; cases h
        rw [List.zip_cons_cons, List.map_cons, if_neg e, List.set_cons_succ, List.zip_cons_cons, putK_set (ks := ks) q (by simpa using l) hnd.2]
theorem putK_some {k : Key} {v : V} {ks : List Key} {ws : List V} {n : Nat} (h : keyIx ks k = some n) (l : ks.length = ws.length) (nd : ks.Nodup) : putK (ks.zip ws) k v = ks.zip (ws.set n v) := by
  unfold putK
  have : ((ks.zip ws).any fun kv => decide (kv.1 = k)) = true := by
    obtain ⟨w, _, h2⟩ := keyIx_val h l
    rw [valV_any, h2]; rfl
  rw [if_pos this, putK_set h l nd]
theorem putK_none {k : Key} {v : V} {ks : List Key} {ws : List V} (h : keyIx ks k = none) (l : ks.length = ws.length) : putK (ks.zip ws) k v = (ks ++ [k]).zip (ws ++ [v]) := by
  unfold putK
  have : ¬ ((ks.zip ws).any fun kv => decide (kv.1 = k)) = true := by
    intro z
    obtain ⟨kv, m, e⟩ := List.any_eq_true.mp z
    exact keyIx_none h (by rw [← of_decide_eq_true e]; exact (List.of_mem_zip m).1)
  rw [if_neg this, List.zip_append l]; rfl
theorem vs_dput {k : Nat} {tg : Pos} (hr : Room k X.A) (he : VF X B W ms e fa) (ho : VL X B W i o fl) (hi : VE X B W [] b fb) (hs : swapsWith e (some (.Subscript o b tg)) pos.line X.env = pure false := by rfl) : VS X B W (.Assign [.Subscript o b tg] e pos) (sDPut i fa fl fb) := by
  refine ps_imp (ps_dput (by have := hr.un; omega) ho hi he hs) fun D σ H ⟨c, e, R, T0, h⟩ => ?_
  subst e
  refine evF_run R (Rs.post_bind h) fun y w A c1 a1 oy p1 => ?_
  split at p1
  · rename_i q hq
    split at p1
    · rename_i q0 h0
      refine evL_run a1.rel hq fun v u c2 a2 e2 hu hv => ?_
      rw [← e2] at p1
      refine evE_run a2.rel (Rs.post_bind p1) fun k kv c3 a3 v3 p3 => ?_
      split at p3
      · rename_i kk x ks xs hk h3
        obtain ⟨hx3, hg3⟩ := dctAt_ok h3
        by_cases n : xs.length < sizeLine
        · rw [if_pos n] at p3
          have hv3 := stay a2.rel a3 (.inr (by simp)) hu hv hx3 hg3
          have a13 : Aft (kc X B) B ms A c σ c3 := by
            have := (a1.trans a2).trans a3
            simpa using this
          have oy3 : Own (kc X B) (c3.F B.D) c3.G c3.H y w A := (oy.le a2.st.F a2.st.G fun b m o h => a2.st.keep b o (a1.heldM b m) h).le a3.st.F a3.st.G fun b m o h => a3.st.keep b o (fun ⟨j, mj⟩ => by
            have s := a2.fr j (by simp)
            rw [s.As] at mj
            exact a1.heldM b m ⟨j, mj⟩) h
          obtain ⟨p0, ws, A0, S, rfl, io, os, m0, dA, up⟩ := cellUp R a13 hx3 hu hg3 hv3
          have l0 := a3.rel.lkOwn m0
          obtain ⟨ioH, ioL, ioN, ioA⟩ := io
          have hwl : (ks.zip ws).length < sizeLine := by
            have := os.length
            rw [List.length_zip, ioL, Nat.min_self]; omega
          refine ⟨p0, _, rfl, .inl ⟨_, kk, l0.1.trans ioH, v3.key hk, hwl, rfl⟩, ?_⟩
          unfold putD at p3
          cases hn : keyIx ks kk with
          | some m =>
            rw [hn] at p3
            have hml : m < xs.length := by
              have := (List.getElem?_eq_some_iff.mp (keyIx_lt hn)).1
              rw [os.length, ← ioL]; exact this
            obtain ⟨w0, S1, S2, k1, k2, k3, k4, k5⟩ := os.pick (List.getElem?_eq_getElem hml)
            have dA2 : ∀ b ∈ A, b ∉ S2 := fun b m z => dA b m ((k3 b).mpr (.inr z))
            obtain ⟨S', s1, s2⟩ := k5 (c3.F B.D) c3.G c3.H y w A (Le.refl _) (Le.refl _) (fun _ _ _ h => h) oy3 dA2
            rw [putK_some hn ioL ioN]
            obtain ⟨c', a', e1, e2', _⟩ := up (.dK ks) (xs.set m y) (ws.set m w) S' (.dK (ks.zip (ws.set m w))) ⟨upd_same, by simpa using ioL, ioN, ioA⟩ (fun b m => ((s2 b).mp m).elim .inr fun m => .inl ((k3 b).mpr (.inr m))) fun F' G' lf lg k => s1.le lf lg k
            have := p3 σ c' a'.rel a'.st e1
            rw [l0.2, ← e2']; exact this
          | none =>
            rw [hn] at p3
            rw [putK_none hn ioL]
            obtain ⟨c', a', e1, e2', _⟩ := up (.dK (ks ++ [kk])) (xs ++ [y]) (ws ++ [w]) (S ++ A) (.dK ((ks ++ [kk]).zip (ws ++ [w]))) ⟨upd_same, by simp [ioL], List.nodup_append.mpr ⟨ioN, by simp, fun a m b mb => by cases List.mem_singleton.mp mb; exact fun z => keyIx_none hn (z ▸ m)⟩, ioA⟩ (fun b m => List.mem_append.mp m) fun F' G' lf lg k => (os.le lf lg fun b m o h => k b (List.mem_append_left _ m) o h).append ((oy3.le lf lg fun b m o h => k b (List.mem_append_right _ m) o h).single) fun b m z => dA b z m
            have := p3 σ c' a'.rel a'.st e1
            rw [l0.2, ← e2']; exact this
        · rw [if_neg n] at p3; exact p3.elim
      · exact p3.elim
    · exact p1.elim
  · exact p1.elim
end
end Z

/-! Places as values that are only looked at. -/
namespace Z
open PySem PySem.Spec PyProof.Rows L2
def erQ (s : St) : PV → Option PV
  | .loc i p => (getS s i p).map PV.er
  | x => some x
def ersQ (s : St) : List PV → Option (List PV)
  | [] => some []
  | x :: xs => match erQ s x, ersQ s xs with
    | some y, some ys => some (y :: ys)
    | _, _ => none
/-- a plain thing -/
def PV.sc : PV → Bool
  | .non => true
  | .bl _ => true
  | .int _ => true
  | .str _ => true
  | _ => false
def PV.flat : PV → Bool
  | .cell .own .lst xs => xs.all PV.sc
  | x => x.sc
theorem Own.sc {K : KC} {F G H F' G' H' : Hp} {z : PV} {u : V} {S : List Addr} (h : z.sc = true) (o : Own K F G H z u S) : Own K F' G' H' z u [] := by
  cases z with
  | non => cases o.nonEq; exact .non
  | bl b => cases o.blEq; exact .bl b
  | int b => cases o.intEq; exact .int b
  | str b => cases o.strEq; exact .str b
  | _ => cases h
theorem Owns.sc {K : KC} {F G H F' G' H' : Hp} : ∀ {zs : List PV} {us : List V} {S : List Addr}, zs.all PV.sc = true → Owns K F G H zs us S → Os K F' G' H' zs us
  | [], _, _, _, h => by cases h; exact .nil
  | z :: zs, _, _, e, h => by
    rw [List.all_cons, Bool.and_eq_true] at e
    cases h with
    | cons a b d => exact .cons (a.sc e.1) (Owns.sc e.2 b)
theorem ersQ_len {s : St} : ∀ {xs ys : List PV}, ersQ s xs = some ys → xs.length = ys.length
  | [], ys, h => by cases h; rfl
  | x :: xs, ys, h => by
    unfold ersQ at h
    split at h
    · rename_i y ys' h1 h2; cases h; simp [ersQ_len h2]
    · cases h
section
variable {K : KC} {B : Bs} {c c1 : Cf} {σ : L2.St} {x : PV} {v : V}
theorem Vp.stay (R : Rel K B c σ) (a : Aft K B [] [] c σ c1) (h : Vp K B c σ x v) (q : (erQ c.s x).isSome = true) : Vp K B c1 σ x v := by
  rcases h with ⟨i, p, u, rfl, hu, hv⟩ | o
  · have q : ((getS c.s i p).map PV.er).isSome = true := q
    cases e : getS c.s i p with
    | none => rw [e] at q; cases q
    | some y => exact .inl ⟨i, p, u, rfl, hu, stay0 R a hu hv e⟩
  · exact .inr (o.le a.st.F a.st.G fun _ m => by cases m)
/-- what is looked at is lent for the while -/
theorem Rel.toQ (R : Rel K B c σ) {xs ys : List PV} {vs : List V} (hv : Vps K B c σ xs vs) (he : ersQ c.s xs = some ys) : ∃ c', Rel K B c' σ ∧ Step [] c c' ∧ c'.s = Z.kill (locSlots xs) c.s ∧ c'.H = c.H ∧ (∀ j, j ∉ locSlots xs → Same j c c') ∧ Vls K B c' σ ys vs := by
  obtain ⟨c', R', st, es, eH, same⟩ := Rel.kills (locSlots xs) R
  refine ⟨c', R', st, es, eH, same, ?_⟩
  have dead : ∀ i ∈ locSlots xs, c'.As i = [] := fun i m => R'.dead i fun x z => by rw [es] at z; exact kill_none m x z
  have one : ∀ {x y : PV} {v : V}, (∀ i p, x = .loc i p → i ∈ locSlots xs) → Vp K B c σ x v → erQ c.s x = some y → Vl K B c' σ y v := by
    intro x y v hm h e
    rcases h with ⟨i, p, u, rfl, hu, hv⟩ | o
    · have hi := hm i p rfl
      have e : (getS c.s i p).map PV.er = some y := e
      cases q : getS c.s i p with
      | none => rw [q] at e; cases e
      | some z =>
        rw [q] at e; cases e
        obtain ⟨A, o, sub⟩ := R.atPl q hu hv
        refine .inr (.bw (o.sh (FG_le.trans st.G) st.G fun b mb ob hb => G_eq.mpr ⟨?_, ?_, by rw [eH]; exact hb⟩))
        · rw [st.T]; exact R.nT i b (sub b mb)
        · rintro ⟨j, mj⟩
          by_cases z : j ∈ locSlots xs
          · rw [dead j z] at mj; cases mj
          · rw [(same j z).As] at mj
            exact z (R.dis j i b mj (sub b mb) ▸ hi)
    · have : erQ c.s x = some x := by
        cases x with
        | loc i p => exact (not_loc o).elim
        | _ => rfl
      rw [this] at e; cases e
      exact .inr (o.le st.F st.G fun _ m => by cases m)
  have all : ∀ {xs' ys' : List PV} {vs' : List V}, (∀ i ∈ locSlots xs', i ∈ locSlots xs) → Vps K B c σ xs' vs' → ersQ c.s xs' = some ys' → Vls K B c' σ ys' vs' := by
    intro xs'
    induction xs' with
    | nil => intro ys' vs' _ h e; cases h; cases e; exact .nil
    | cons x xs' ih =>
      intro ys' vs' hs h e
      unfold ersQ at e
      split at e
      · rename_i y ys h1 h2
        cases e
        cases h with
        | cons a b =>
          refine .cons (one (fun i p z => hs i ?_) a h1) (ih (fun i m => hs i ?_) b h2)
          · subst z; simp [locSlots]
          · cases x <;> simp [locSlots, m]
      · cases e
  exact all (fun _ m => m) hv he
end
section
variable (K : KC) (B : Bs) (W : WZ)
def evP (f : St → Rs PV) : TE := fun σ Hr Q => ∃ c, Hr = c.R B ∧ Rel K B c σ ∧ (f c.s).post (fun x s' => ∀ v c', Aft K B [] [] c σ c' → c'.s = s' → Vp K B c' σ x v → Q v (c'.R B)) W
def evPA (f : St → Rs (List PV)) : TA := fun σ Hr Q => ∃ c, Hr = c.R B ∧ Rel K B c σ ∧ (f c.s).post (fun xs s' => ∀ vs c', Aft K B [] [] c σ c' → c'.s = s' → Vps K B c' σ xs vs → Q vs (c'.R B)) W
end
def VP (X : Cx) (B : Bs) (W : WZ) (e : Expr) (f : St → Rs PV) : Prop := PE X e (evP (kc X B) B W f)
def VPA (X : Cx) (B : Bs) (W : WZ) (es : List Expr) (f : St → Rs (List PV)) : Prop := PA X es (evPA (kc X B) B W f)
theorem evP_run {K : KC} {B : Bs} {W : WZ} {c : Cf} {σ : L2.St} {f : St → Rs PV} {P : PV → St → Prop} {Q : VK} (R : Rel K B c σ) (h : (f c.s).post P W) (k : ∀ x v c', Aft K B [] [] c σ c' → Vp K B c' σ x v → P x c'.s → Q v (c'.R B)) : evP K B W f σ (c.R B) Q :=
  ⟨c, rfl, R, Rs.post_imp h fun x s' p v c' a e vl => k x v c' a vl (by rw [e]; exact p)⟩
theorem evPA_run {K : KC} {B : Bs} {W : WZ} {c : Cf} {σ : L2.St} {f : St → Rs (List PV)} {P : List PV → St → Prop} {Q : List V → Hp → Prop} (R : Rel K B c σ) (h : (f c.s).post P W) (k : ∀ xs vs c', Aft K B [] [] c σ c' → Vps K B c' σ xs vs → P xs c'.s → Q vs (c'.R B)) : evPA K B W f σ (c.R B) Q :=
  ⟨c, rfl, R, Rs.post_imp h fun x s' p v c' a e vl => k x v c' a vl (by rw [e]; exact p)⟩
section
variable {X : Cx} {B : Bs} {W : WZ} {ms ma mb mc : List Nat} {a b d e o : Expr} {es : List Expr} {fa fb fc : St → Rs PV} {pos p p2 apos cpos : Pos} {ga : St → Rs (List PV)} {i : Nat} {fl : St → Option (List Nat)}
theorem VE.vp (h : VE X B W [] e fa) : VP X B W e fa := by
  refine pe_imp h fun σ H Q ⟨c, e, R, h⟩ => ?_
  subst e
  exact evE_run R h fun x v c1 a1 v1 p1 => p1 v c1 a1 rfl v1.vp
def pLoc (i : Nat) (fl : St → Option (List Nat)) (s : St) : Rs PV := match fl s with
  | some q => match getS s i q with
    | some y => if y.nown then .ok y s else .ok (.loc i q) s
    | none => .bad
  | none => .bad
theorem VL.vp (ho : VL X B W i o fl) : VP X B W o (pLoc i fl) := by
  refine pe_imp ho fun σ H Q ⟨c, e, R, h⟩ => ?_
  subst e
  unfold pLoc at h
  split at h
  · rename_i q hq
    split at h
    · rename_i y hy
      refine ⟨c, rfl, R, q, hq, fun v c' aa e1 ⟨u, hu, hv⟩ => ?_⟩
      by_cases n : y.nown = true
      · rw [if_pos n] at h
        obtain ⟨A, o, _⟩ := aa.rel.atPl (by rw [e1]; exact hy) hu hv
        have eA := o.nown n
        rw [eA] at o
        exact h v c' aa e1 (.inr o)
      · rw [if_neg n] at h
        exact h v c' aa e1 (.inl ⟨i, q, u, rfl, hu, hv⟩)
    · exact h.elim
  · exact h.elim
theorem vpa_nil : VPA X B W [] aNil := pa_imp pa_nil fun σ H Q ⟨c, e, R, h⟩ => by subst e; exact h [] c (.refl R) rfl .nil
def aConsP (f : St → Rs PV) (g : St → Rs (List PV)) (s : St) : Rs (List PV) := (f s).bind fun x s1 => if (erQ s1 x).isSome then (g s1).bind fun xs s2 => .ok (x :: xs) s2 else .bad
theorem vpa_cons {g : St → Rs (List PV)} (h : VP X B W e fa) (hs : VPA X B W es g) (hst : starEach (e :: es) X.env = (false, eval e X.env) :: starEach es X.env := by rfl) : VPA X B W (e :: es) (aConsP fa g) := by
  refine pa_imp (pa_cons h hs hst) fun σ H Q ⟨c, e, R, h⟩ => ?_
  subst e
  refine evP_run R (Rs.post_bind h) fun x v c1 a1 v1 p1 => ?_
  by_cases n : (erQ c1.s x).isSome = true
  · rw [if_pos n] at p1
    refine evPA_run a1.rel (Rs.post_bind p1) fun xs vs c2 a2 v2 p2 => ?_
    exact p2 (v :: vs) c2 (by simpa using a1.trans a2) rfl (.cons (v1.stay a1.rel a2 n) v2)
  · rw [if_neg n] at p1; exact p1.elim
/-! calls -/
def eClP (g : GC) (f : St → Rs (List PV)) (s : St) : Rs PV := (f s).bind fun xs s1 => match ersQ s1 xs with
  | some ys => match g (kill (locSlots xs) s1) ys with
    | some z => if z.sc then .ok z s1 else .bad
    | none => .bad
  | none => .bad
theorem call_runP {r : List V → Hp → VK → Prop} {g : GC} (hp : PCall X B r g) (h : PE X e (fun σ H Q => evPA (kc X B) B W ga σ H fun vs H1 => r vs H1 Q)) : VE X B W [] e (eClP g ga) := by
  refine pe_imp h fun σ H Q ⟨c, e, R, h⟩ => ?_
  subst e
  refine evPA_run R (Rs.post_bind h) fun xs vs c1 a1 hv p1 => ?_
  split at p1
  · rename_i ys he
    split at p1
    · rename_i z hz
      by_cases n : z.sc = true
      · rw [if_pos n] at p1
        obtain ⟨ck, Rk, stk, es, eH, same, vl⟩ := a1.rel.toQ hv he
        have e1 : c1.R B = ck.R B := by unfold Cf.R; rw [eH]
        rw [e1]
        exact hp ck σ ys vs z Q Rk vl (by rw [es]; exact hz) fun u H' le o => p1 u { c1 with H := H' } (a1.grow (by rw [← eH]; exact le)) rfl (.inr (o.sc n))
      · rw [if_neg n] at p1; exact p1.elim
    · exact p1.elim
  · exact p1.elim
def fClP (g : GC) (f : St → Rs (List PV)) (s : St) : Rs PV := (f s).bind fun xs s1 => match ersQ s1 xs with
  | some ys => match g (kill (locSlots xs) s1) ys with
    | some (.cell .own .lst zs) => if zs.all PV.sc then .ok (.cell .own .lst zs) s1 else .bad
    | _ => .bad
  | none => .bad
theorem call_runFP {r : List V → Hp → VK → Prop} {g : GC} (hp : FCall X B r g) (h : PE X e (fun σ H Q => evPA (kc X B) B W ga σ H fun vs H1 => r vs H1 Q)) : VF X B W [] e (fClP g ga) := by
  refine pe_imp h fun σ H Q ⟨c, e, R, h⟩ => ?_
  subst e
  refine evPA_run R (Rs.post_bind h) fun xs vs c1 a1 hv p1 => ?_
  split at p1
  · rename_i ys he
    split at p1
    · rename_i zs hz
      by_cases n : zs.all PV.sc = true
      · rw [if_pos n] at p1
        obtain ⟨ck, Rk, stk, es, eH, same, vl⟩ := a1.rel.toQ hv he
        have e1 : c1.R B = ck.R B := by unfold Cf.R; rw [eH]
        rw [e1]
        refine hp [] ck ck σ ys vs _ Q (.refl Rk) vl (by rw [es]; exact hz) fun u A c' a' es' o => ?_
        have le : Le c1.H c'.H := fun x ob hx => by
          by_cases m : ck.mine x
          · obtain ⟨j, mj⟩ := m
            rw [(a'.fr j (by simp)).H x mj, eH]; exact hx
          · exact a'.st.keep x ob m (by rw [eH]; exact hx)
        have fr : ∀ x ∈ A, c1.H x = none := fun x m => by
          rcases a'.st.new x (.inl m) with ⟨j, mj⟩ | z
          · exact (a'.heldM x m ⟨j, by rw [(a'.fr j (by simp)).As]; exact mj⟩).elim
          · rw [← eH]; exact z
        have lA : ∀ x ∈ A, ∃ ob, c'.H x = some ob ∧ NoT ob := fun x m => a'.rel.live x (.inl (by rw [a'.st.T]; exact List.mem_append_left _ m))
        have a2 := a1.rel.push (ms := []) le fr lA
        have a12 : Aft (kc X B) B [] A c σ { c1 with H := c'.H, T := A ++ c1.T } := by simpa using a1.trans a2
        refine p1 u A { c1 with H := c'.H, T := A ++ c1.T } a12 rfl ?_
        cases o with
        | fz hh => cases hh
        | bw hh => cases hh
        | cell io os dd =>
          rename_i p0 ws A0 S
          have os' := os.sc (F' := Cf.F { c1 with H := c'.H, T := (A0 ++ S) ++ c1.T } B.D) (G' := Cf.G { c1 with H := c'.H, T := (A0 ++ S) ++ c1.T }) (H' := c'.H) n
          have eS : S = [] := os.nown (by
            have : ∀ l : List PV, l.all PV.sc = true → PV.nowns l = true := by
              intro l
              induction l with
              | nil => intro _; rfl
              | cons y l ih =>
                intro hh
                rw [List.all_cons, Bool.and_eq_true] at hh
                rw [PV.nowns, ih hh.2]
                cases y <;> first | rfl | exact (Bool.noConfusion hh.1)
            exact this zs n)
          subst eS
          exact .cell io os'.owns fun b m z => by cases z
      · rw [if_neg n] at p1; exact p1.elim
    · exact p1.elim
  · exact p1.elim
section
variable {r : List V → Hp → VK → Prop} {x : Str} {id T : String} {g : GC}
theorem ve_callBP (hc : CallR X (.builtin id) r) (hp : PCall X B r g) (hm : X.mg x = none) (ha : VPA X B W (e :: es) ga) (hg : Gl X x) (hv : bootBuiltins x = some (.builtin id) := by decide +kernel) (hn : x ≠ "__name__" := by decide) (hdb : (x == ("__debug__" : Str)) = false := by decide)
    (he : starEach (e :: es) X.env = (false, eval e X.env) :: starEach es X.env := by rfl) (hpl : (backTo pos (starEach es X.env)).any (·.1) = false := by rfl) : VE X B W [] (.Call (.Name x p) (e :: es) [] pos) (eClP g ga) :=
  call_runP hp (pe_callB hc hg hm hv ha hn hdb he hpl)
theorem vf_callTyP (hc : CallR X (.type T) r) (hp : FCall X B r g) (hm : X.mg x = none) (ha : VPA X B W (e :: es) ga) (hg : Gl X x) (hv : bootBuiltins x = some (.type T) := by decide +kernel) (hn : x ≠ "__name__" := by decide) (hdb : (x == ("__debug__" : Str)) = false := by decide)
    (he : starEach (e :: es) X.env = (false, eval e X.env) :: starEach es X.env := by rfl) (hpl : (backTo pos (starEach es X.env)).any (·.1) = false := by rfl) : VF X B W [] (.Call (.Name x p) (e :: es) [] pos) (fClP g ga) :=
  call_runFP hp (pe_callTy hc hg hm hv ha hn hdb he hpl)
theorem vf_callBP (hc : CallR X (.builtin id) r) (hp : FCall X B r g) (hm : X.mg x = none) (ha : VPA X B W (e :: es) ga) (hg : Gl X x) (hv : bootBuiltins x = some (.builtin id) := by decide +kernel) (hn : x ≠ "__name__" := by decide) (hdb : (x == ("__debug__" : Str)) = false := by decide)
    (he : starEach (e :: es) X.env = (false, eval e X.env) :: starEach es X.env := by rfl) (hpl : (backTo pos (starEach es X.env)).any (·.1) = false := by rfl) : VF X B W [] (.Call (.Name x p) (e :: es) [] pos) (fClP g ga) :=
  call_runFP hp (pe_callB hc hg hm hv ha hn hdb he hpl)
end
/-! two values -/
def e2P (g : G2) (fa fb : St → Rs PV) (s : St) : Rs PV := (fa s).bind fun x s1 => if (erQ s1 x).isSome then (fb s1).bind fun y s2 => match ersQ s2 [x, y] with
  | some [x', y'] => match g (kill (locSlots [x, y]) s2) x' y' with
    | some z => if z.sc then .ok z s2 else .bad
    | none => .bad
  | _ => .bad else .bad
theorem run2P {r : R2} {g : G2} (hp : POp X B r g) {σ : L2.St} {c : Cf} {Q : VK} (R : Rel (kc X B) B c σ) (h : (e2P g fa fb c.s).post (fun z s' => ∀ v c', Aft (kc X B) B [] [] c σ c' → c'.s = s' → Vl (kc X B) B c' σ z v → Q v (c'.R B)) W) : tOp r (evP (kc X B) B W fa) (evP (kc X B) B W fb) σ (c.R B) Q := by
  refine evP_run R (Rs.post_bind h) fun x v c1 a1 v1 p1 => ?_
  by_cases n : (erQ c1.s x).isSome = true
  · rw [if_pos n] at p1
    refine evP_run a1.rel (Rs.post_bind p1) fun y w c2 a2 v2 p2 => ?_
    have v1' := v1.stay a1.rel a2 n
    split at p2
    · rename_i x' y' he
      split at p2
      · rename_i z hz
        by_cases n : z.sc = true
        · rw [if_pos n] at p2
          obtain ⟨ck, Rk, stk, es, eH, same, vl⟩ := a2.rel.toQ (.cons v1' (.cons v2 .nil)) he
          obtain ⟨v', w', e', vx, vy⟩ := vl.two
          cases e'
          have e1 : c2.R B = ck.R B := by unfold Cf.R; rw [eH]
          rw [e1]
          exact hp ck σ x' y' z v w Q Rk vx vy (by rw [es]; exact hz) fun u H' le o => p2 u { c2 with H := H' } (by simpa using (a1.trans a2).grow (by rw [← eH]; exact le)) rfl (.inr (o.sc n))
        · rw [if_neg n] at p2; exact p2.elim
      · exact p2.elim
    · exact p2.elim
  · rw [if_neg n] at p1; exact p1.elim
theorem ve_cmpP {op : CmpOp} {r : R2} {g : G2} (ho : OpR X (compareOp op) r) (hp : POp X B r g) (ha : VP X B W a fa) (hb : VP X B W b fb) (hm : behindInMarks op b = false) : VE X B W [] (.Compare a [op] [b] pos) (e2P g fa fb) := by
  refine pe_imp (pe_cmpR ho ha hb hm) fun σ H Q ⟨c, e, R, h⟩ => ?_
  subst e
  exact run2P hp R h
theorem vt_cmpP {op : CmpOp} {r : R2} {g : G2} (ho : OpR X (compareOp op) r) (hp : POp X B r g) (ha : VP X B W a fa) (hb : VP X B W b fb) (hm : behindInMarks op b = false) : VT X B W [] (.Compare a [op] [b] pos) (tB (e2P g fa fb)) := by
  refine pt_imp (pt_cmpR ho ha hb hm) fun σ H Q ⟨c, e, R, h⟩ => ?_
  subst e
  refine run2P (Q := fun u H' => ∃ k, u = .bl k ∧ Q k H') hp R (Rs.post_imp (Rs.post_bind h) fun z s' p v c' aa es vl => ?_)
  cases z with
  | bl b => exact ⟨b, vl.bl, p c' aa es⟩
  | _ => exact p.elim
theorem ve_eqP {k : Nat} (hr : Room k X.A) (ha : VP X B W a fa) (hb : VP X B W b fb) : VE X B W [] (.Compare a [.Eq] [b] pos) (e2P (gEq id) fa fb) := ve_cmpP (op_eqD hr.units) pop_eq ha hb (nomark _)
theorem ve_neP {k : Nat} (hr : Room k X.A) (ha : VP X B W a fa) (hb : VP X B W b fb) : VE X B W [] (.Compare a [.NotEq] [b] pos) (e2P (gEq not) fa fb) := ve_cmpP (op_neD hr.units) pop_ne ha hb (nomark _)
theorem vt_eqP {k : Nat} (hr : Room k X.A) (ha : VP X B W a fa) (hb : VP X B W b fb) : VT X B W [] (.Compare a [.Eq] [b] pos) (tB (e2P (gEq id) fa fb)) := vt_cmpP (op_eqD hr.units) pop_eq ha hb (nomark _)
theorem vt_neP {k : Nat} (hr : Room k X.A) (ha : VP X B W a fa) (hb : VP X B W b fb) : VT X B W [] (.Compare a [.NotEq] [b] pos) (tB (e2P (gEq not) fa fb)) := vt_cmpP (op_neD hr.units) pop_ne ha hb (nomark _)
/-! o.index(e) -/
def ixD (d : PyData) : List PyData → Nat → Option Nat
  | [], _ => none
  | z :: ds, n => if PyData.eqv z d then some n else ixD d ds (n + 1)
theorem ixD_ok {d : PyData} : ∀ {ds : List PyData} {n j : Nat}, ixD d ds n = some j → ∃ k z, j = n + k ∧ ds[k]? = some z ∧ PyData.eqv z d = true ∧ ∀ (m : Nat) (z' : PyData), m < k → ds[m]? = some z' → PyData.eqv z' d = false
  | [], n, j, h => by cases h
  | z :: ds, n, j, h => by
    unfold ixD at h
    by_cases e : PyData.eqv z d = true
    · rw [if_pos e] at h; cases h
      exact ⟨0, z, rfl, rfl, e, fun m _ hm => by omega⟩
    · rw [if_neg e] at h
      obtain ⟨k, z1, h1, h2, h3, h4⟩ := ixD_ok h
      refine ⟨k + 1, z1, by omega, by simpa using h2, h3, fun m z' hm hz => ?_⟩
      cases m with
      | zero => simp at hz; subst hz; simpa using e
      | succ m => exact h4 m z' (by omega) (by simpa using hz)
def cIndex : GC := fun s xs => match xs with
  | [x, y] => match (look s x), (look s y).toD with
    | .cell _ .lst zs, some d => match (PV.cell .fz .lst zs).toD with
      | some (.list ds) => if SeqAt.shaped (.list ds) && SeqAt.shaped d then (ixD d ds 0).map fun j => .int (j : Nat) else none
      | _ => none
    | _, _ => none
  | _ => none
theorem pc_index : PCall X B (fun vs H Q => match vs with | x :: xs => rIndexD X.K x xs H Q | [] => False) cIndex := by
  intro c σ xs vs z Q R hv g k
  unfold cIndex at g
  split at g
  · rename_i x y
    obtain ⟨v, w, rfl, vx, vy⟩ := hv.two
    split at g
    · rename_i f zs d hx hy
      split at g
      · rename_i ds hd
        by_cases n : (SeqAt.shaped (.list ds) && SeqAt.shaped d) = true
        · rw [if_pos n] at g
          have n := Bool.and_eq_true_iff.mp n
          cases q : ixD d ds 0 with
          | none => rw [q] at g; cases g
          | some j =>
            rw [q] at g; cases g
            obtain ⟨k', z1, h1, h2, h3, h4⟩ := ixD_ok q
            have hdx : (look c.s x).toD = some (.list ds) := by rw [hx]; exact hd
            have dx := R.dp vx hdx
            obtain ⟨a, ws, A0, S, rfl, _⟩ := R.cellOf vx hx
            refine ⟨a, w, d, ds, j, z1, rfl, rfl, dx, R.dp vy hy, n.1, n.2, ?_, h3, ?_, k _ c.H (Le.refl _) (.int _)⟩
            · rw [h1]; simpa using h2
            · intro m z' hm; exact h4 m z' (by omega)
        · rw [if_neg n] at g; cases g
      · cases g
    · cases g
  · cases g
def isLs : PV → Bool
  | .cell _ .lst _ => true
  | _ => false
def eIndexP (fa fb : St → Rs PV) (s : St) : Rs PV := (fa s).bind fun x s1 => match erQ s1 x with
  | some y0 => if isLs y0 then (fb s1).bind fun y s2 => match ersQ s2 [x, y] with
    | some ys => match cIndex (kill (locSlots [x, y]) s2) ys with
      | some z => if z.sc then .ok z s2 else .bad
      | none => .bad
    | none => .bad
    else .bad
  | none => .bad
theorem ve_index {k : Nat} (hr : Room k X.A) (ho : VP X B W o fa) (he : VP X B W e fb) (hbase : attributeBase o "index" X.env (eval o X.env) = eval o X.env := by rfl)
    (hfew : ((backTo cpos (starEach (e :: []) X.env)).all (fun x => !x.1) && (backToKw cpos (keywordEach [] X.env)).all (fun x => x.1.isSome) && decide ((e :: []).length + ([] : List Keyword).length + (if ([] : List Keyword).isEmpty then 0 else 1) < 30)) = true := by rfl)
    (hline : (apos.endLine == cpos.line) = true := by rfl) (hs : starEach (e :: []) X.env = (false, eval e X.env) :: starEach [] X.env := by rfl) (hplain : (backTo cpos (starEach [] X.env)).any (·.1) = false := by rfl) :
    VE X B W [] (.Call (.Attribute o "index" apos) [e] [] cpos) (eIndexP fa fb) := by
  refine pe_imp (pe_bm PySem.F.plainAttrs_list PySem.F.slot_list_index PySem.F.type_list_index (mt_indexD (hu65 hr)) ho (pa_cons he pa_nil hs) hbase hfew hline hs hplain) fun σ H Q ⟨c, e, R, h⟩ => ?_
  subst e
  refine evP_run R (Rs.post_bind h) fun x v c1 a1 v1 p1 => ?_
  split at p1
  · rename_i y0 hy0
    by_cases n : isLs y0 = true
    · rw [if_pos n] at p1
      refine ⟨?_, ?_⟩
      · obtain ⟨ck, Rk, stk, es, eH, same, vl⟩ := a1.rel.toQ (xs := [x]) (ys := [y0]) (.cons v1 .nil) (by unfold ersQ; rw [hy0]; rfl)
        obtain ⟨v', e', vx⟩ := vl.one
        cases e'
        have e1 : c1.R B = ck.R B := by unfold Cf.R; rw [eH]
        cases y0 with
        | cell f t zs =>
          cases t with
          | lst =>
            obtain ⟨a, ws, A0, S, rfl, io, _⟩ := Rk.cellOf (x := .cell f .lst zs) vx rfl
            refine .inl ⟨rfl, ws, ?_⟩
            rw [e1]
            exact Rk.lkSqL (.inl (.inl io.1))
          | _ => cases n
        | _ => cases n
      · show evP (kc X B) B W fb σ (c1.R B) _
        refine evP_run a1.rel (Rs.post_bind p1) fun y w c2 a2 v2 p2 => ?_
        have v1' := v1.stay a1.rel a2 (by rw [hy0]; rfl)
        split at p2
        · rename_i ys he
          split at p2
          · rename_i z hz
            by_cases n : z.sc = true
            · rw [if_pos n] at p2
              obtain ⟨ck, Rk, stk, es, eH, same, vl⟩ := a2.rel.toQ (.cons v1' (.cons v2 .nil)) he
              have e1 : c2.R B = ck.R B := by unfold Cf.R; rw [eH]
              rw [e1]
              exact pc_index ck σ ys [v, w] z Q Rk vl (by rw [es]; exact hz) fun u H' le o => p2 u { c2 with H := H' } (by simpa using (a1.trans a2).grow (by rw [← eH]; exact le)) rfl (.inr (o.sc n))
            · rw [if_neg n] at p2; exact p2.elim
          · exact p2.elim
        · exact p2.elim
    · rw [if_neg n] at p1; exact p1.elim
  · exact p1.elim
end
end Z

/-! try .. except X as e: the exception is kept as a value; isinstance. -/
namespace Z
open PySem PySem.Spec PyProof.Rows L2
/-- the state behind a catch, the exception's object tracked -/
theorem landK {X : Cx} {pn0 : List (Addr × Obj)} {τ : L2.St} {M : Hp} {s1 s2 : Shared} {Gd : Heap} {a : Addr} {cls : Value} {oe : Obj} {vs : Array Value} (J : Inv X pn0 τ M s1) (hg : ∀ b o, s1.heap.get? b = some o → b ∉ frs X.stack → Gd.get? b = some o) (st : Gd.StaysIn s2.heap) (up : s1.heap.UpToSlots s2.heap) (os : s2.os = s1.os) (ag : AllBare s2.gens)
    (na : M a = none) (nG : Gd.get? a = none) (nF : a ∉ frs X.stack) (he : s2.heap.get? a = some oe) (hz : Zc cls none oe) (hd : oe.data = .fields vs) : Inv X pn0 τ (upd M a (XO cls a)) s2 := by
  have n1 : s1.heap.get? a = none := by
    cases e : s1.heap.get? a with
    | none => rfl
    | some o => have := hg a o e nF; rw [nG] at this; cases this
  have ne : ∀ b o, s1.heap.get? b = some o → b ≠ a := fun b o e z => by rw [z, n1] at e; cases e
  have fr : ∀ b ∈ frs X.stack, ∀ o, s1.heap.get? b = some o → ∃ sl, s2.heap.get? b = some { o with slots := sl } := fun b hb o e => by
    obtain ⟨_, o', e', hdd⟩ := J.stack.mem hb
    rw [e] at e'; cases e'
    exact up b o e hdd
  have hok : HOk X.prog X.w (upd M a (XO cls a)) s2.heap := by
    intro b u e
    by_cases hb : b = a
    · subst hb
      rw [upd_same] at e; cases e
      exact ⟨⟨oe, vs, he, hz, hd⟩, ⟨oe, he⟩, fun _ _ ⟨o, v, q, r⟩ k => ⟨o, v, k o q, r⟩⟩
    · rw [upd_ne hb] at e
      exact ((J.inGround hg).kept st b u e).stay (fun _ _ _ q => q) (fun c q => by rw [upd_ne (ne_of_none q na)]; exact q) fun c xs q => by rw [upd_ne (ne_of_none q na)]; exact q
  have hun : Un (frs X.stack) [] M (upd M a (XO cls a)) s1.heap s2.heap := by
    refine ⟨fun b o e _ hb _ => st b o (hg b o e hb), fun b o e _ hb _ => fr b hb o e, fun b o e n _ => by rw [upd_ne (ne b o e)]; exact n, fun b o e _ => ?_, fun b xs e => by rw [upd_ne (ne_of_none e na)]; exact e, fun b o u e => by rw [upd_ne (ne_of_none e na)]; exact e, fun b ps e => ⟨#[], by rw [upd_ne (ne_of_none e na), e]; simp⟩⟩
    by_cases hb : b ∈ frs X.stack
    · obtain ⟨sl, q⟩ := fr b hb o e
      exact ⟨_, q⟩
    · exact ⟨o, st b o (hg b o e hb)⟩
  exact J.call' os hun hok ag fun _ z => nomatch z
/-- the context of an except suite, nothing pinned -/
theorem okSu {X : Cx} (ok : X.Ok) (a : Addr) (pn : List (Addr × Obj)) : (X.suite a pn).Ok := ok.suite a pn
theorem inSu {X : Cx} {pn0 : List (Addr × Obj)} {τ : L2.St} {M : Hp} {s : Shared} (J : Inv X pn0 τ M s) (a : Addr) : Inv (X.suite a (X.pn ++ pn0)) [] τ M s :=
  ⟨okSu J.ok _ _, J.os, J.bare, J.base, J.loc, J.cell, J.free, J.freeC, fun p hp => J.pin p (by rw [List.append_nil] at hp; exact hp), J.hok, J.len⟩
theorem outSu {X : Cx} {pn0 pn1 : List (Addr × Obj)} {τ : L2.St} {M : Hp} {s : Shared} {a : Addr} (J : Inv (X.suite a (X.pn ++ pn0)) pn1 τ M s) (ok : X.Ok) : Inv X pn0 τ M s :=
  ⟨ok, J.os, J.bare, J.base, J.loc, J.cell, J.free, J.freeC, fun p hp => J.pin p (List.mem_append_left _ hp), J.hok, J.len⟩
/-- what the clause wishes -/
def wKp (K : PySem.W.Frag) (c : Value) (i : Nat) (ts : Addr → TS) (Wout : WX) (D : Ends) : WX := fun cls d τ M =>
  ∃ b, PySem.W.exmOne K cls c = some b ∧ (b = true → d = none ∧ ∀ a, M a = none → ts a ⟨fun τ' M' => D.nx (τ'.set i none) M', D.rt, fun τ' M' => D.bk (τ'.set i none) M', fun τ' M' => D.ct (τ'.set i none) M'⟩ (τ.set i (some (.ref a))) (upd M a (XO cls a))) ∧ (b = false → Wout cls d τ M)
theorem ps_tryK {X : Cx} {x n : Str} {c : Value} {i : Nat} {body rest : List Stmt} {st0 : Stmt} {np pos pos' : Pos} {tb : WX → TS} {ts : Addr → TS} {Wout : WX} (hs : X.stack = X.env :: X.outer) (hf : X.env.frame = some X.env.locals) (hN : X.N.Nodup) (hi : X.N[i]? = some n) (hln : X.env.kindOf n = some .local) (hc : Names X x c) (tk : Takes X Wout)
    (hb : ∀ (W : WX) (pn : List (Addr × Obj)) (xe : Value → Shared → Prop), Takes (X.tr pn xe) W → PassesOwn (model X.prog X.w) X.A X.env xe → PSs (X.tr pn xe) body (tb W))
    (hsu : ∀ (a : Addr) (pn : List (Addr × Obj)), PSs (X.suite a pn) (st0 :: rest) (ts a)) :
    PS X (.Try body [.ExceptHandler (some (.Name x np)) (some n) (st0 :: rest) pos'] [] [] pos) (fun D τ M => tb (wKp X.K c i ts Wout D) D τ M) := by
  constructor
  intro pn0 s τ M D J hw
  have ok := J.ok
  have frames : X.A.frames = some (X.env :: X.outer) := by rw [ok.frames, hs]
  apply wpAny_Try_except
  have run := (hb (wKp X.K c i ts Wout D) (X.pn ++ pn0) (fun e u1 => wpAny (model X.prog X.w) X.A (noteFrame e X.env) (fun _ u2 => wpAny (model X.prog X.w) X.A (setFlight e none) (fun _ u3 => wpAny (model X.prog X.w) X.A (handleBy e X.env [.ExceptHandler (some (.Name x np)) (some n) (st0 :: rest) pos']) (SP X pn0 D) X.xe u3) X.xe u2) X.xe u1) (by
    rintro u s' ⟨a, Gd, sI, pn1, τ', M', cls, d, rfl, J', hg, up, sky, na, os, ag, b, hb1, hyes, hno⟩
    have J1 : Inv X pn0 τ' M' sI := J'.ofTry ok
    rw [show (X.tr (X.pn ++ pn0) _).stack = X.env :: X.outer from hs] at sky
    show wpAny (model X.prog X.w) X.A (noteFrame (.ref a) X.env) _ _ _
    apply Sky.land Zc.steady frames hf sky
    intro h3 fl3 up3
    have J3 : Inv X pn0 τ' M' { s' with heap := h3 } := J1.landed hg fl3.1 (up.trans up3) os ag
    obtain ⟨oe3, vs3, he3, hz3, hd3⟩ : ∃ oe vs, h3.get? a = some oe ∧ Zc cls d oe ∧ oe.data = .fields vs := by
      obtain ⟨_, _, _, oe, vs, _, _, _, q1, q2, q3, _⟩ := fl3
      exact ⟨oe, vs, q1, q2, q3⟩
    have nfr : a ∉ frs (X.env :: X.outer) := fun hm => by
      obtain ⟨_, o', e', hnf⟩ := fl3.2.2.1.mem hm
      rw [he3] at e'; cases e'
      exact hnf _ hd3
    have LT : PySem.W.Looks (model X.prog X.w) h3 (typeOf (.ref a)) cls := fun A' Q' E' s'' k q => wpAny_typeOf_ref (k _ _ he3) (by rw [hz3.1]; exact q)
    have LM := PySem.W.exm_one (M := model X.prog X.w) J3.kIn LT hb1
    apply wpAny_handleBy_cons (codeAny_handlers_test ?_) (by intro q; cases q)
    have look : ∀ {Q E : Value → Shared → Prop}, Q c { s' with heap := h3 } → wpAny (model X.prog X.w) (X.A.mark (some (.ref a))) (eval (.Name x np) X.env) Q E { s' with heap := h3 } := by
      intro Q E q
      have S := inSu J3 a
      obtain ⟨hgl, hdb, hm | ⟨hm, hv, hnn⟩⟩ := hc
      · exact ld_glob S hgl hm q hdb
      · exact ld_blt S hgl hm hv q hnn hdb
    apply look
    apply LM.here
    cases b with
    | true =>
      obtain ⟨dn, hy2⟩ := hyes rfl
      subst dn
      apply codeAny_handlers_suite_as
      apply HandSPX.lands_againZ fl3
      intro h4 fl4 up4
      obtain ⟨oe4, vs4, he4, hz4, hd4⟩ : ∃ oe vs, h4.get? a = some oe ∧ Zc cls none oe ∧ oe.data = .fields vs := by
        obtain ⟨_, _, _, oe, vs, _, _, _, q1, q2, q3, _⟩ := fl4
        exact ⟨oe, vs, q1, q2, q3⟩
      have J4 : Inv X pn0 τ' (upd M' a (XO cls a)) { s' with heap := h4 } := landK J1 hg fl4.1 ((up.trans up3).trans up4) os ag na fl4.2.1 (by rw [hs]; exact nfr) he4 hz4 hd4
      apply store_ok (X := X.suite a (X.pn ++ pn0)) (v := .ref a) (inSu J4 a) hN hi (.inl hln) rfl ?_ (.inr hln)
      intro s5 S5
      have r5 := (hsu a (X.pn ++ pn0)).run [] s5 _ _ _ S5 (hy2 a na)
      refine wpAny_mono r5 (fun fw s6 hsp => ?_) (fun _ _ z => z.elim)
      cases fw with
      | next =>
        obtain ⟨τ6, M6, S6, q6⟩ := hsp
        exact gone_ok (outSu S6 ok) hN hi hln fun s7 J7 => ⟨_, _, J7, q6⟩
      | brk =>
        obtain ⟨τ6, M6, S6, q6⟩ := hsp
        exact gone_ok (outSu S6 ok) hN hi hln fun s7 J7 => ⟨_, _, J7, q6⟩
      | cont =>
        obtain ⟨τ6, M6, S6, q6⟩ := hsp
        exact gone_ok (outSu S6 ok) hN hi hln fun s7 J7 => ⟨_, _, J7, q6⟩
      | ret u =>
        obtain ⟨v6, τ6, M6, S6, r6, q6⟩ := hsp
        exact gone_ok (outSu S6 ok) hN hi hln fun s7 J7 => ⟨_, _, _, J7, r6, q6⟩
    | false =>
      show wpAny _ X.A (handleBy (.ref a) X.env []) _ _ _
      apply wpAny_handleBy_nil
      have keep := fl3
      obtain ⟨_, _, _, oe, vs, T, oT, ts', q1, q2, q3, q4, _⟩ := keep
      unfold PySem.passOn
      apply wpAny_bind
      apply wpAny_field q1 q3 q4
      rw [if_neg (show ¬ ((Value.ref T == Value.none) = true) from by simp)]
      have last : wpAny (model X.prog X.w) X.A (setFlight (.ref a) X.env.frame) (fun _ u4 => wpAny (model X.prog X.w) X.A (throw (.ref a) : Sem Flow) (SP X pn0 D) X.xe u4) X.xe { s' with heap := h3 } := by
        rw [hf]
        apply HandSPX.setFlight_upZ fl3
        intro h4 hh4 up4
        apply wpAny_throw
        apply tk
        exact ⟨a, Gd, sI, pn0, τ', M', cls, d, rfl, J1, hg, (up.trans up3).trans up4, .inr (.inr (by rw [hs]; exact hh4)), na, os, ag, hno rfl⟩
      first
        | exact wpAny_bind (wpAny_pure (wpAny_bind last))
        | exact wpAny_bind last) PassesOwn.looking).run [] s τ M D (J.toTry _) hw
  refine wpAny_mono run (fun fw s1 hsp => ?_) (fun e s1 he => he)
  cases fw with
  | next => obtain ⟨τ', M', J', q⟩ := hsp; exact wpAny_execs_nil ⟨τ', M', J'.ofTry ok, q⟩
  | brk => obtain ⟨τ', M', J', q⟩ := hsp; exact ⟨τ', M', J'.ofTry ok, q⟩
  | cont => obtain ⟨τ', M', J', q⟩ := hsp; exact ⟨τ', M', J'.ofTry ok, q⟩
  | ret u => obtain ⟨v, τ', M', J', r, q⟩ := hsp; exact ⟨v, τ', M', J'.ofTry ok, r, q⟩
/-! ### the same, in plain -/
def Bs.at (B : Bs) (h : Hp) (l : List Addr) : Bs := { B with H0 := h, A0 := l }
def Cf.mineL (c : Cf) : List Addr := (List.range c.s.length).flatMap c.As
section
variable {K : KC} {B : Bs} {c c' : Cf} {σ σ' : L2.St}
theorem Rel.mineL (R : Rel K B c σ) (a : Addr) : a ∈ c.mineL ↔ c.mine a := by
  unfold Cf.mineL
  rw [List.mem_flatMap]
  constructor
  · rintro ⟨i, _, m⟩; exact ⟨i, m⟩
  · rintro ⟨i, m⟩
    by_cases h : i < c.s.length
    · exact ⟨i, List.mem_range.mpr h, m⟩
    · rw [R.dead i fun x z => h (List.getElem?_eq_some_iff.mp z).1] at m; cases m
theorem Rel.at (R : Rel K B c σ) (hT : c.T = []) : Rel K (B.at c.H c.mineL) c σ :=
  ⟨R.len, R.own, R.dead, R.dis, R.nT, R.nD, R.live, fun _ _ _ h => h, fun a h => .inl ((R.mineL a).mpr (h.elim (fun z => by rw [hT] at z; cases z) id)), R.root, R.lkd⟩
theorem Rel.unat (R : Rel K B c σ) (R' : Rel K (B.at c.H c.mineL) c' σ') : Rel K B c' σ' := by
  refine ⟨R'.len, R'.own, R'.dead, R'.dis, R'.nT, R'.nD, R'.live, fun a o n h => ?_, fun a h => ?_, R'.root, R'.lkd⟩
  · have e := R.keep a o n h
    refine R'.keep a o (fun m => ?_) e
    rcases R.new a (.inr ((R.mineL a).mp m)) with z | z
    · exact n z
    · rw [h] at z; cases z
  · rcases R'.new a h with m | m
    · exact R.new a (.inr ((R.mineL a).mp m))
    · by_cases n : a ∈ B.A0
      · exact .inl n
      · refine .inr ?_
        cases e : B.H0 a with
        | none => rfl
        | some o => have := R.keep a o n e; rw [show c.H a = none from m] at this; cases this
theorem Rel.unkill (R : Rel K B c σ) (i : Nat) (hr : B.root i = none) : ∃ c', Rel K B c' (σ.set i none) ∧ Step [] c c' ∧ c'.s = c.s.set i none ∧ c'.H = c.H := by
  obtain ⟨R1, s1⟩ := R.kill i
  have R2 := R1.wipe1 i hr (fun x e => by
    by_cases hi : i < c.s.length
    · simp only [List.getElem?_set_self hi] at e; cases e
    · have : (c.s.set i none)[i]? = none := List.getElem?_eq_none (by simp; omega)
      simp only [this] at e; cases e)
  refine ⟨_, R2, ⟨s1.keep, s1.new, s1.T⟩, ?_, rfl⟩
  simp
end
def sTry (cat : Str → Option Bool) (i : Nat) (f g : Sm) : Sm := fun s => match f s with
  | .ok fl s1 => .ok fl s1
  | .ex n s1 => match cat n with
    | some true => if i < s1.length then (noEx (g (s1.set i (some (.exc n))))).bind fun fl s2 => .ok fl (s2.set i none) else .bad
    | some false => .ex n s1
    | none => .bad
  | .bad => .bad
theorem vs_try {X : Cx} {B : Bs} {W : WZ} (i : Nat) {x n : Str} {c : Value} {body rest : List Stmt} {st0 : Stmt} {np pos pos' : Pos} {f g : Sm} (cat : Str → Option Bool) (hcat : ∀ m b, cat m = some b → PySem.W.exmOne X.K (.ref (B.C m)) c = some b)
    (hs : X.stack = X.env :: X.outer) (hf : X.env.frame = some X.env.locals) (hN : X.N.Nodup) (hr : B.root i = none) (tk : Takes X (WP (kc X B) B W)) (hc : Names X x c)
    (hb : ∀ (h : Hp) (l : List Addr) (W' : WZ) (pn : List (Addr × Obj)) (xe : Value → Shared → Prop), Takes (X.tr pn xe) (WP (kc X B) (B.at h l) W') → PassesOwn (model X.prog X.w) X.A X.env xe → VSs (X.tr pn xe) (B.at h l) W' body f)
    (hsu : ∀ (a : Addr) (pn : List (Addr × Obj)), VSs (X.suite a pn) B (fun _ _ => False) (st0 :: rest) g) (hi : X.N[i]? = some n) (hln : X.env.kindOf n = some .local) :
    VS X B W (.Try body [.ExceptHandler (some (.Name x np)) (some n) (st0 :: rest) pos'] [] [] pos) (sTry cat i f g) := by
  refine ⟨fun pn0 s σ H D I ⟨c0, e, R, T0, h⟩ => ?_⟩
  subst e
  let W' : WZ := fun n s' => match cat n with
    | some true => i < s'.length ∧ ((noEx (g (s'.set i (some (.exc n))))).bind fun fl s2 => .ok fl (s2.set i none)).post (fwd (kc X B) B c0 D) W
    | some false => W n s'
    | none => False
  have step : ∀ {c' : Cf} {σ' : L2.St}, Rel (kc X B) (B.at c0.H c0.mineL) c' σ' → Rel (kc X B) B { c' with T := [] } σ' ∧ Step [] c0 { c' with T := [] } := fun {c' σ'} R' => by
    have R2 : Rel (kc X B) (B.at c0.H c0.mineL) { c' with T := [] } σ' := R'.drop (A := c'.T) (by simp)
    exact ⟨R.unat R2, R2.stepOf (c := c0) rfl (fun a => R.mineL a) (by simp [T0]) T0⟩
  refine (ps_tryK (tb := fun W1 D1 σ1 H1 => ∃ Wz : WZ, (∀ cls d τ M, WP (kc X B) (B.at c0.H c0.mineL) Wz cls d τ M → W1 cls d τ M) ∧ evS (kc X B) (B.at c0.H c0.mineL) Wz f D1 σ1 H1) (ts := fun a => evS (kc X B) B (fun _ _ => False) g) (c := c) (i := i) hs hf hN hi hln hc tk (fun W1 pn xe t1 p1 => ?_) (fun a pn => hsu a pn)).run pn0 s σ (c0.R B) D I ⟨W', ?_, c0, rfl, R.at T0, T0, ?_⟩
  · refine ⟨fun pins' s' σ' H' D' I' ⟨Wz, hw, ev⟩ => ?_⟩
    exact (hb c0.H c0.mineL Wz pn xe (t1.imp hw) p1).run pins' s' σ' H' D' I' ev
  · intro cls d τ M hw
    obtain ⟨rfl, m, c', rfl, rfl, R', hw⟩ := hw
    show wKp X.K c i _ (WP (kc X B) B W) D (.ref (B.C m)) none τ (c'.R B)
    have hw : (match cat m with
      | some true => i < c'.s.length ∧ ((noEx (g (c'.s.set i (some (.exc m))))).bind fun fl s2 => .ok fl (s2.set i none)).post (fwd (kc X B) B c0 D) W
      | some false => W m c'.s
      | none => False) := hw
    cases q : cat m with
    | none => rw [q] at hw; exact hw.elim
    | some b =>
      rw [q] at hw
      refine ⟨b, hcat m b q, fun eb => ?_, fun eb => ?_⟩
      · subst eb
        obtain ⟨hlt, hw⟩ := hw
        refine ⟨rfl, fun a na => ?_⟩
        obtain ⟨R1, st1⟩ := step R'
        obtain ⟨na, hl⟩ := R1.lkNew (p := a) na
        have gr := R1.grow (ms := []) (upd_le na : Le c'.H (upd c'.H a (XO (.ref (B.C m)) a)))
        have R2 := gr.rel
        have oe : Own (kc X B) (Cf.F { c' with H := upd c'.H a (XO (.ref (B.C m)) a), T := [] } B.D) (Cf.G { c' with H := upd c'.H a (XO (.ref (B.C m)) a), T := [] }) (upd c'.H a (XO (.ref (B.C m)) a)) (.exc m) (.ref a) [] := by
          refine .fz (.exc (F_eq.mpr ⟨fun z => ?_, by simp, fun z => ?_, upd_same⟩))
          · obtain ⟨o, e, _⟩ := R1.live a (.inr z)
            rw [show c'.H a = none from na] at e; cases e
          · obtain ⟨o, e, _⟩ := R1.cell z
            rw [show c'.H a = none from na] at e; cases e
        obtain ⟨c2, R3, st2, e1, e2⟩ := (Aft.refl (ms := []) R2).put R2 oe (show i < c'.s.length from hlt) hr
        have s02 : Step [] c0 c2 := (st1.trans0 gr.st).trans0 st2
        have hg := noEx_post (Rs.post_bind hw)
        show evS (kc X B) B (fun _ _ => False) g _ _ (upd (lk B.L c'.H) a _)
        rw [lk_upd hl]
        have e1' : c2.s = c'.s.set i (some (.exc m)) := e1
        rw [← e1'] at hg
        have e2' : c2.H = upd c'.H a (XO (.ref (B.C m)) a) := e2
        rw [← e2']
        refine evS_run R3 (s02.T.trans T0) hg fun fl s2 p => ?_
        cases fl with
        | nx =>
          intro σ3 c3 R4 st3 e3
          obtain ⟨c4, R5, st4, e4, e5⟩ := R4.unkill i hr
          have := p _ c4 R5 ((s02.trans0 st3).trans0 st4) (by rw [e4, e3])
          show D.nx _ (lk B.L c3.H)
          rw [← e5]; exact this
        | bk =>
          intro σ3 c3 R4 st3 e3
          obtain ⟨c4, R5, st4, e4, e5⟩ := R4.unkill i hr
          have := p _ c4 R5 ((s02.trans0 st3).trans0 st4) (by rw [e4, e3])
          show D.bk _ (lk B.L c3.H)
          rw [← e5]; exact this
        | ct =>
          intro σ3 c3 R4 st3 e3
          obtain ⟨c4, R5, st4, e4, e5⟩ := R4.unkill i hr
          have := p _ c4 R5 ((s02.trans0 st3).trans0 st4) (by rw [e4, e3])
          show D.ct _ (lk B.L c3.H)
          rw [← e5]; exact this
        | rt y =>
          intro v A σ3 c3 R4 st3 e3 o
          obtain ⟨R5, st4⟩ := R4.kill i
          have := p v A σ3 ⟨c3.s.set i none, c3.H, fun j => if j = i then [] else c3.As j, c3.T⟩ R5 ((s02.trans0 st3).trans st4) (by rw [← e3]) (o.le st4.F st4.G fun _ _ _ h => h)
          exact this
      · subst eb
        exact ⟨rfl, m, c', rfl, rfl, R.unat R', hw⟩
  · unfold sTry at h
    cases q : f c0.s with
    | bad => rw [q] at h; exact h
    | ex m s1 =>
      rw [q] at h
      show W' m s1
      show (match cat m with
        | some true => i < s1.length ∧ ((noEx (g (s1.set i (some (.exc m))))).bind fun fl s2 => .ok fl (s2.set i none)).post (fwd (kc X B) B c0 D) W
        | some false => W m s1
        | none => False)
      simp only at h
      cases q2 : cat m with
      | none => rw [q2] at h; exact h
      | some b =>
        rw [q2] at h
        cases b with
        | true =>
          simp only at h ⊢
          by_cases hl : i < s1.length
          · rw [if_pos hl] at h; exact ⟨hl, h⟩
          · rw [if_neg hl] at h; exact h.elim
        | false => exact h
    | ok fl s1 =>
      rw [q] at h
      show fwd (kc X B) (B.at c0.H c0.mineL) c0 D fl s1
      cases fl with
      | nx => exact fun σ' c' R' st' e' => h σ' c' (R.unat R') st' e'
      | bk => exact fun σ' c' R' st' e' => h σ' c' (R.unat R') st' e'
      | ct => exact fun σ' c' R' st' e' => h σ' c' (R.unat R') st' e'
      | rt y => exact fun v A σ' c' R' st' e' o => h v A σ' c' (R.unat R') st' e' o
end Z

/-! isinstance. -/
namespace Z
open PySem PySem.Spec PyProof.Rows L2
/-- a class: a built-in type, or one of the text's own -/
inductive CT where
  | ty (n : String) | own (n : Str)
  deriving DecidableEq
def CT.val (C : Str → Addr) : CT → Value
  | .ty n => .type n
  | .own n => .ref (C n)
def CT.v (C : Str → Addr) : CT → V
  | .ty n => .ty n
  | .own n => .ref (C n)
theorem CT.cls (C : Str → Addr) : ∀ c : CT, ClsV (c.v C) (c.val C)
  | .ty n => .ty n
  | .own n => .own _
def tyP : PV → Option CT
  | .non => some (.ty "NoneType")
  | .bl _ => some (.ty "bool")
  | .int _ => some (.ty "int")
  | .str _ => some (.ty "str")
  | .cell _ .lst _ => some (.ty "list")
  | .cell _ (.dK _) _ => some (.ty "dict")
  | .tup _ => some (.ty "tuple")
  | .exc c => some (.own c)
  | _ => none
def isiAny (tab : CT → CT → Option Bool) (t : CT) : List CT → Option Bool
  | [] => some false
  | c :: r => match tab t c with
    | some true => some true
    | some false => isiAny tab t r
    | none => none
/-- the table of answers is right -/
structure IT (K : PySem.W.Frag) (C : Str → Addr) (tab : CT → CT → Option Bool) : Prop where
  one : ∀ t c b, tab t c = some b → PySem.W.kitOne K (t.val C) (c.val C) = some b
  exc : ∀ n c b, tab (.own n) c = some b → ExcC K (C n)
theorem IT.any {K : PySem.W.Frag} {C : Str → Addr} {tab : CT → CT → Option Bool} (h : IT K C tab) {t : CT} : ∀ {cs : List CT} {b : Bool}, isiAny tab t cs = some b → PySem.W.kitAny K (t.val C) (cs.map (CT.val C)) = some b
  | [], b, e => by cases e; rfl
  | c :: cs, b, e => by
    unfold isiAny at e
    rw [List.map_cons]
    split at e
    · rename_i q; cases e; exact kitAny_cons (h.one t c _ q) (fun z => nomatch z) fun _ => rfl
    · rename_i q; exact kitAny_cons (h.one t c _ q) (fun _ => h.any e) fun z => nomatch z
    · cases e
/-- a value's type, exceptions too -/
inductive TyZ (K : KC) (H : Hp) : V → Value → Prop where
  | base {x : V} {t : Value} : TyX K.k H x t → TyZ K H x t
  | exc {a : Addr} {n : Str} : H a = some (XO (.ref (K.C n)) a) → ExcC K.k (K.C n) → TyZ K H (.ref a) (.ref (K.C n))
theorem kit_ofZ {X : Cx} {K : KC} (hK : K.k = X.K) {pn0 : List (Addr × Obj)} {τ : L2.St} {M : Hp} {s : Shared} {x : V} {u t : Value} (J : Inv X pn0 τ M s) (rx : RelV x u) (ty : TyZ K M x t) : ∃ P : Heap → Prop, PySem.W.KitX X.K u t P ∧ P s.heap ∧ u ≠ .builtin "__main__.__loader__#opaque" := by
  cases ty with
  | base b => rw [hK] at b; exact kit_of J rx b
  | @exc a n e C =>
    rw [hK] at C
    cases (show u = Value.ref a from rx)
    obtain ⟨⟨oe, vs, hget, hz, hv⟩, _, _⟩ := J.hok a _ e
    refine ⟨_, PySem.W.handS_kitx_exc (ox := oe) C.hg C.hk C.hs C.hd C.ha C.hn C.ht C.hm, ?_, fun z => nomatch z⟩
    obtain ⟨oc, od, oda, osl⟩ := oe
    obtain ⟨h1, h2⟩ := hz
    dsimp only at h1 h2 hv
    subst h1 h2 hv
    exact ⟨hget, rfl, rfl, trivial⟩
/-- isinstance(x, c) -/
def rIz (K : KC) : List V → Hp → VK → Prop := fun xs H Q => ∃ (x c : V) (t u : Value) (b : Bool), xs = [x, c] ∧ ClsV c u ∧ TyZ K H x t ∧ PySem.W.kitOne K.k t u = some b ∧ Q (.bl b) H
def rIzT (K : KC) : List V → Hp → VK → Prop := fun xs H Q => ∃ (x : V) (tp : Addr) (cs : List V) (t : Value) (us : List Value) (b : Bool), xs = [x, .ref tp] ∧ H tp = some (.tup cs) ∧ Paired ClsV cs us ∧ TyZ K H x t ∧ PySem.W.kitAny K.k t us = some b ∧ Q (.bl b) H
theorem call_iz {X : Cx} {K : KC} (hK : K.k = X.K) : CallR X (.builtin "isinstance") (rIz K) := by
  rintro pn0 s τ M xs us Q J r ⟨x, c, t, u, b, rfl, k, ty, e, q⟩
  rw [hK] at e
  obtain ⟨u1, u2, rfl, r1, r2⟩ := vals2 r
  cases k.eq r2
  obtain ⟨P, Z, p, hx⟩ := kit_ofZ hK J r1 ty
  exact PySem.W.kia_one Z J.kIn p e hx fun tk => ⟨.bl b, M, J.tok tk, rfl, q⟩
theorem call_izT {X : Cx} {K : KC} (hK : K.k = X.K) : CallR X (.builtin "isinstance") (rIzT K) := by
  rintro pn0 s τ M xs us Q J r ⟨x, tp, cs, t, ws, b, rfl, hT, k, ty, e, q⟩
  rw [hK] at e
  obtain ⟨u1, u2, rfl, r1, r2⟩ := vals2 r
  cases (show u2 = Value.ref tp from r2)
  obtain ⟨P, Z, p, hx⟩ := kit_ofZ hK J r1 ty
  have hob : ObjOk X.prog X.w M s.heap tp (.tup cs) := J.hok tp _ hT
  obtain ⟨_, its, rv, ⟨oc, od, dt, sl⟩, h1, h2, n, h3⟩ := hob
  have e3 := ClsV.all k rv
  dsimp only at h2 h3
  subst e3 h2 h3
  exact PySem.W.kia_tup Z J.kIn p h1 e hx fun tk => ⟨.bl b, M, J.tok tk, rfl, q⟩
section
variable {X : Cx} {B : Bs} {W : WZ} {e ce : Expr} {fa : St → Rs PV} {pos p p2 : Pos}
theorem Rel.ty {K : KC} {c : Cf} {σ : L2.St} {x : PV} {v : V} {t : CT} (R : Rel K B c σ) (hC : B.C = K.C) (h : Vl K B c σ x v) (e : tyP x = some t) (hx : ∀ n, t = .own n → ExcC K.k (K.C n)) : TyZ K (c.R B) v (t.val K.C) := by
  cases x with
  | non => cases e; cases h.non; exact .base (.base .non)
  | bl b => cases e; cases h.bl; exact .base (.base (.bl b))
  | int b => cases e; cases h.int; exact .base (.base (.int b))
  | str b => cases e; cases h.str; exact .base (.base (.str b))
  | cell f tg xs =>
    cases tg with
    | lst =>
      cases e
      obtain ⟨a, ws, A0, S, rfl, io, _⟩ := R.cellOf (x := .cell f .lst xs) h rfl
      exact .base (.base (.lst (R.lkGet io.1 fun z => z)))
    | dK ks =>
      cases e
      obtain ⟨a, ws, A0, S, rfl, io, _⟩ := R.cellOf (x := .cell f (.dK ks) xs) h rfl
      rcases lk_rd (L := B.L) io.1 with q | ⟨o, q⟩
      · exact .base (.base (.dK q))
      · exact .base (.fDict q)
    | _ => cases e
  | tup xs =>
    cases e
    obtain ⟨A, o⟩ := R.look (x := .tup xs) h rfl (fun _ _ z => nomatch z)
    obtain ⟨a, ws, S, rfl, sq, _⟩ := o.viewT F_le G_le
    rcases R.lkSqT sq with (q | ⟨o, q⟩) | ⟨o, its, n, q, q2, _⟩
    · exact .base (.base (.tup q))
    · exact .base (.fTuple q)
    · exact .base (.kTuple q q2)
  | exc n =>
    cases e
    obtain ⟨A, o⟩ := R.look (x := .exc n) h rfl (fun _ _ z => nomatch z)
    have key : ∃ a, v = .ref a ∧ c.H a = some (XO (.ref (K.C n)) a) := by
      cases o with
      | fz h => cases h with
        | exc q => exact ⟨_, rfl, F_le _ _ q⟩
      | bw h => cases h with
        | exc q => exact ⟨_, rfl, G_le _ _ q⟩
    obtain ⟨a, rfl, q⟩ := key
    exact .exc (R.lkGet q fun z => z) (hx n rfl)
  | _ => cases e
def eIsi (tab : CT → CT → Option Bool) (cs : List CT) (fx : St → Rs PV) (s : St) : Rs PV := (fx s).bind fun x s1 => match erQ s1 x with
  | some y => match tyP y with
    | some t => match isiAny tab t cs with
      | some b => .ok (.bl b) s1
      | none => .bad
    | none => .bad
  | none => .bad
theorem isiAny_exc {K : PySem.W.Frag} {C : Str → Addr} {tab : CT → CT → Option Bool} (it : IT K C tab) {n : Str} {d : CT} {cs : List CT} {b : Bool} (hb : isiAny tab (.own n) (d :: cs) = some b) : ExcC K (C n) := by
  unfold isiAny at hb
  split at hb
  · rename_i q; exact it.exc n d _ q
  · rename_i q; exact it.exc n d _ q
  · cases hb
/-- a class by its name -/
theorem pcl_ty (C : Str → Addr) {x : Str} {T : String} (hm : X.mg x = none) (hg : Gl X x) (hv : bootBuiltins x = some (.type T)) (hn : x ≠ "__name__" := by decide) (hd : (x == ("__debug__" : Str)) = false := by decide) : PE X (.Name x pos) (tC ((CT.ty T).v C)) := pe_bltn hg hm hv rfl hn hd
theorem pcl_own {C : Str → Addr} {x n : Str} (hm : X.mg x = some (.ref (C n))) (hg : Gl X x) (hd : (x == ("__debug__" : Str)) = false := by decide) : PE X (.Name x pos) (tC ((CT.own n).v C)) := pe_glob hg hm rfl hd
def tCs (C : Str → Addr) (cs : List CT) : TA := fun _ H Q => Q (cs.map (CT.v C)) H
theorem pcs_nil {C : Str → Addr} : PA X [] (tCs C []) := pa_imp pa_nil fun σ H Q h => h
theorem pcs_cons {C : Str → Addr} {c : CT} {cs : List CT} {es : List Expr} (h : PE X ce (tC (c.v C))) (hs : PA X es (tCs C cs)) (hst : starEach (ce :: es) X.env = (false, eval ce X.env) :: starEach es X.env := by rfl) : PA X (ce :: es) (tCs C (c :: cs)) := pa_imp (pa_cons h hs hst) fun σ H Q h => h
theorem TyZ.le {K : KC} {H H' : Hp} {v : V} {t : Value} (l : Le H H') (h : TyZ K H v t) : TyZ K H' v t := by
  cases h with
  | base h =>
    refine .base ?_
    cases h with
    | base h =>
      refine .base ?_
      cases h with
      | non => exact .non
      | bl b => exact .bl b
      | int b => exact .int b
      | str b => exact .str b
      | flt b => exact .flt b
      | lst e => exact .lst (l _ _ e)
      | frz e => exact .frz (l _ _ e)
      | tup e => exact .tup (l _ _ e)
      | dK e => exact .dK (l _ _ e)
      | dT e => exact .dT (l _ _ e)
      | ins e c1 c2 c3 c4 c5 => exact .ins (l _ _ e) c1 c2 c3 c4 c5
    | byt b => exact .byt b
    | set e => exact .set (l _ _ e)
    | kList e c => exact .kList e c
    | kTuple e c => exact .kTuple e c
    | kDict e c => exact .kDict e c
    | fTuple e => exact .fTuple (l _ _ e)
    | fDict e => exact .fDict (l _ _ e)
  | exc e c => exact .exc (l _ _ e) c
theorem isi_step {tab : CT → CT → Option Bool} {d : CT} {cs : List CT} {c : Cf} {σ : L2.St} {Q : V → Hp → Prop} (it : IT X.K B.C tab) (R : Rel (kc X B) B c σ) (h : (eIsi tab (d :: cs) fa c.s).post (fun x s' => ∀ v c', Aft (kc X B) B [] [] c σ c' → c'.s = s' → Vl (kc X B) B c' σ x v → Q v (c'.R B)) W) {P : V → Hp → Prop}
    (k : ∀ v c1 t b, Aft (kc X B) B [] [] c σ c1 → TyZ (kc X B) (c1.R B) v (t.val B.C) → isiAny tab t (d :: cs) = some b → (∀ H', Le c1.H H' → Q (.bl b) (lk B.L H')) → P v (c1.R B)) : evP (kc X B) B W fa σ (c.R B) P := by
  refine evP_run R (Rs.post_bind h) fun x v c1 a1 v1 p1 => ?_
  split at p1
  · rename_i y hy
    split at p1
    · rename_i t ht
      split at p1
      · rename_i b hb
        obtain ⟨ck, Rk, stk, es, eH, same, vl⟩ := a1.rel.toQ (xs := [x]) (ys := [y]) (.cons v1 .nil) (by unfold ersQ; rw [hy]; rfl)
        obtain ⟨v', e', vx⟩ := vl.one
        cases e'
        have e1 : c1.R B = ck.R B := by unfold Cf.R; rw [eH]
        have ty := Rk.ty (K := kc X B) rfl vx ht (fun n e => by subst e; exact isiAny_exc it hb)
        rw [← e1] at ty
        exact k v c1 t b a1 ty hb fun H' le => p1 (.bl b) { c1 with H := H' } (a1.grow le) rfl (.inr (.bl b))
      · exact p1.elim
    · exact p1.elim
  · exact p1.elim
theorem ve_isi {tab : CT → CT → Option Bool} {c : CT} (it : IT X.K B.C tab) (hm : X.mg "isinstance" = none) (hx : VP X B W e fa) (hc : PE X ce (tC (c.v B.C))) (hg : Gl X "isinstance") (he : starEach [e, ce] X.env = (false, eval e X.env) :: starEach [ce] X.env := by rfl) (he2 : starEach [ce] X.env = (false, eval ce X.env) :: starEach [] X.env := by rfl) (hpl : (backTo pos (starEach [ce] X.env)).any (·.1) = false := by rfl) :
    VE X B W [] (.Call (.Name "isinstance" p) [e, ce] [] pos) (eIsi tab [c] fa) := by
  refine pe_imp (pe_callB (call_iz (K := kc X B) rfl) hg hm (by decide +kernel) (pa_cons hx (pa_cons hc pa_nil he2) he) (by decide) (by decide) he hpl) fun σ H Q ⟨c0, e, R, h⟩ => ?_
  subst e
  refine isi_step it R h fun v c1 t b a1 ty hb q => ?_
  refine ⟨v, c.v B.C, t.val B.C, c.val B.C, b, rfl, c.cls B.C, ty, ?_, q c1.H (Le.refl _)⟩
  have : tab t c = some b := by
    unfold isiAny at hb
    split at hb
    · rename_i z; cases hb; exact z
    · rename_i z; cases hb; exact z
    · cases hb
  exact it.one t c b this
theorem ve_isiT {tab : CT → CT → Option Bool} {d : CT} {cs : List CT} {es : List Expr} {j : Nat} (it : IT X.K B.C tab) (hm : X.mg "isinstance" = none) (hx : VP X B W e fa) (hc : PA X es (tCs B.C (d :: cs))) (hg : Gl X "isinstance") (hl : (d :: cs).length ≤ 1000 := by decide) (he : starEach [e, .Tuple es j p2] X.env = (false, eval e X.env) :: starEach [.Tuple es j p2] X.env := by rfl) (he2 : starEach [.Tuple es j p2] X.env = (false, eval (.Tuple es j p2) X.env) :: starEach [] X.env := by rfl) (hpl : (backTo pos (starEach [.Tuple es j p2] X.env)).any (·.1) = false := by rfl) :
    VE X B W [] (.Call (.Name "isinstance" p) [e, .Tuple es j p2] [] pos) (eIsi tab (d :: cs) fa) := by
  refine pe_imp (pe_callB (call_izT (K := kc X B) rfl) hg hm (by decide +kernel) (pa_cons hx (pa_cons (pe_tup hc) pa_nil he2) he) (by decide) (by decide) he hpl) fun σ H Q ⟨c0, e, R, h⟩ => ?_
  subst e
  show evP (kc X B) B W fa σ (c0.R B) fun v H1 => tTup (tCs B.C (d :: cs)) σ H1 fun w H2 => rIzT (kc X B) [v, w] H2 Q
  refine isi_step it R h fun v c1 t b a1 ty hb q => ?_
  show ((d :: cs).map (CT.v B.C)).length ≤ sizeLine ∧ _
  refine ⟨by rw [List.length_map]; exact Nat.le_trans hl (by decide), fun tp htp => ?_⟩
  obtain ⟨htp', hlk⟩ := a1.rel.lkNew htp
  have le : Le (c1.R B) (upd (c1.R B) tp (.tup ((d :: cs).map (CT.v B.C)))) := upd_le htp
  have pr : ∀ cs : List CT, Paired ClsV (cs.map (CT.v B.C)) (cs.map (CT.val B.C)) := fun cs => by
    induction cs with
    | nil => exact .nil
    | cons c cs ih => exact .cons (c.cls B.C) ih
  refine ⟨v, tp, (d :: cs).map (CT.v B.C), t.val B.C, (d :: cs).map (CT.val B.C), b, rfl, upd_same, pr _, ty.le le, it.any hb, ?_⟩
  have := q (upd c1.H tp (.tup ((d :: cs).map (CT.v B.C)))) (upd_le htp')
  show Q (.bl b) (upd (lk B.L c1.H) tp _)
  rw [lk_upd hlk]; exact this
end
end Z

/-! Walks of any kind; a dict is locked while it is walked. -/
namespace Z
open PySem PySem.Spec PyProof.Rows L2
/-- what is walked gives these values -/
structure Src (K : KC) (B : Bs) (J : It) (c1 : Cf) (xs : List PV) : Prop where
  ex : ∃ (G : Hp → Prop) (Y : Nat → Hp → V → Hp → Prop), Walk J xs.length G Y ∧ (∀ c σ', Rel K B c σ' → (∃ A, Step A c1 c) → G (c.R B)) ∧
    ∀ i c σ' v H', Rel K B c σ' → (∃ A, Step A c1 c) → i < xs.length → Y i (c.R B) v H' → ∃ Hc y, H' = lk B.L Hc ∧ Le c.H Hc ∧ xs[i]? = some y ∧ Own K (Cf.F { c with H := Hc } B.D) (Cf.G { c with H := Hc }) Hc y v []
def evI (K : KC) (B : Bs) (W : WZ) (ms : List Nat) (f : St → Rs (List PV)) : TI := fun σ Hr R => ∃ c, Hr = c.R B ∧ Rel K B c σ ∧ (f c.s).post (fun xs s' => ∀ J c', Aft K B ms [] c σ c' → c'.s = s' → Src K B J c' xs → R J (c'.R B)) W
def VI (X : Cx) (B : Bs) (W : WZ) (ms : List Nat) (tg iter : Expr) (f : St → Rs (List PV)) : Prop := PI X tg iter (evI (kc X B) B W ms f)
/-- a target takes a value -/
structure Tk (K : KC) (B : Bs) (js : List Nat) (tgt : PV → Option (List PV)) (g : TG) : Prop where
  nd : js.Nodup
  gt : ∀ (y : PV) (v : V) (c : Cf) (σ' : L2.St) (ys : List PV) (Q : L2.St → Hp → Prop), Rel K B c σ' → Own K (c.F B.D) c.G c.H y v [] → tgt y = some ys → ∃ ws, Os K (c.F B.D) c.G c.H ys ws ∧ (ys.length = js.length → Q ((js.zip ws).foldl (fun r q => r.set q.1 (some q.2)) σ') (c.R B) → g v σ' (c.R B) Q)
  wp : ∀ (σ : L2.St) (ws : List V), ws.length = js.length → wipe ((js.zip ws).foldl (fun r q => r.set q.1 (some q.2)) (wipe σ js)) js = wipe σ js
def tgt1 : PV → Option (List PV) := fun y => some [y]
theorem tk_name {K : KC} {B : Bs} (j : Nat) : Tk K B [j] tgt1 (gName j) :=
  ⟨by simp, fun y v c σ' ys Q R o e => by cases e; exact ⟨[v], .cons o .nil, fun _ q => q⟩, fun σ ws hl => by
    match ws, hl with
    | [w], _ => simp [wipe]⟩
theorem tk_tup2 {K : KC} {B : Bs} (j1 j2 : Nat) (h : j1 ≠ j2) : Tk K B [j1, j2] tgtTup (gTup K.k 2 (gCons (gName j1) (gCons (gName j2) gNil))) := by
  refine ⟨by simp [h], fun y v c σ' ys Q R o e => ?_, fun σ ws hl => ?_⟩
  · obtain ⟨a, ws, rfl, sq, os⟩ := tup_os R o e
    exact ⟨ws, os, fun hl q => un_tup2 sq (by rw [← os.length]; exact hl) q⟩
  · match ws, hl with
    | [w1, w2], _ => exact wipe2 h
def sForG (js : List Nat) (tgt : PV → Option (List PV)) (f : Sm) : List PV → Sm
  | [], s => .ok .nx s
  | y :: ys, s => match tgt y with
    | some zs => if zs.length = js.length ∧ js.all (fun j => decide (j < s.length)) = true then (f (setAll js zs s)).bind fun fl s2 => match fl with
        | .nx => sForG js tgt f ys s2
        | .ct => sForG js tgt f ys s2
        | .bk => .ok .nx s2
        | .rt x => .ok (.rt x) s2
      else .bad
    | none => .bad
theorem forG_core {K : KC} {B : Bs} {W : WZ} {J : It} {js : List Nat} {tgt : PV → Option (List PV)} {g : TG} {f : Sm} {xs : List PV} {D : Ends} {c0 c1 : Cf} {σ : L2.St} (R1 : Rel K B c1 σ) (T0 : c0.T = []) (s01 : Step [] c0 c1) (src : Src K B J c1 xs) (tk : Tk K B js tgt g) (hr : ∀ j ∈ js, B.root j = none) (p1 : (sForG js tgt f xs c1.s).post (fwd K B c0 D) W) :
    ∃ Wv : Nat → Nat → L2.St → Hp → Prop, (∃ m, Wv 0 m σ (c1.R B)) ∧ ∀ i m σ H, Wv i m σ H →
      (J.stop i H ∧ D.nx σ H) ∨ (J.go i H ∧ ∃ N : L2.St → Hp → Prop, (∀ σ' H', N σ' H' → ∃ m', m' < m ∧ Wv (i + 1) m' σ' H') ∧ ∀ x H', J.yld i H x H' → g x σ H' fun σ2 H2 => evS K B W f { D with nx := N, ct := N, bk := D.nx } σ2 H2) := by
  obtain ⟨G, Y, w, hG, hY⟩ := src.ex
  refine for_it w (fun i σ' H' => ∃ c', H' = c'.R B ∧ Rel K B c' σ' ∧ Step [] c1 c' ∧ (sForG js tgt f (xs.drop i) c'.s).post (fwd K B c0 D) W) ⟨c1, rfl, R1, .refl, p1⟩ (fun i σ' H' _ ⟨c', e, R', s', _⟩ => by subst e; exact hG c' σ' R' ⟨_, s'⟩) (fun i v σ' H' H2 hi ⟨c', e, R', s', hw⟩ y => ?_) fun σ' H' ⟨c', e, R', s', hw⟩ => ?_
  · subst e
    obtain ⟨Hc, z, rfl, le, hz, oz⟩ := hY i c' σ' v H2 R' ⟨_, s'⟩ hi y
    have gr := R'.grow (ms := []) le
    rw [drop_get hz, sForG] at hw
    split at hw
    · rename_i zs ez
      by_cases n : zs.length = js.length ∧ js.all (fun j => decide (j < c'.s.length)) = true
      · rw [if_pos n] at hw
        obtain ⟨us, ou, hg⟩ := tk.gt z v { c' with H := Hc } σ' zs (fun σ2 H2 => evS K B W f ⟨fun σ' H' => ∃ c', H' = c'.R B ∧ Rel K B c' σ' ∧ Step [] c1 c' ∧ (sForG js tgt f (xs.drop (i + 1)) c'.s).post (fwd K B c0 D) W, D.rt, D.nx, fun σ' H' => ∃ c', H' = c'.R B ∧ Rel K B c' σ' ∧ Step [] c1 c' ∧ (sForG js tgt f (xs.drop (i + 1)) c'.s).post (fwd K B c0 D) W⟩ σ2 H2) gr.rel oz ez
        refine hg n.1 ?_
        obtain ⟨c2, R2, e1, e2, e3, e4, e5⟩ := Rel.putAll (T := c'.T) (S := []) js gr.rel rfl (fun _ m => by cases m) ou.owns n.1 (fun j m => by simpa using List.all_eq_true.mp n.2 j m) hr
        have s2 : Step [] { c' with H := Hc } c2 := ⟨fun a o _ h => by rw [e2]; exact h, fun a h => h.elim (fun z => by cases z) fun h => .inl ((e4 a h).elim (fun z => by cases z) id), e3⟩
        have s12 := (s'.trans0 gr.st).trans0 s2
        have hw' := Rs.post_bind hw
        have es : c2.s = setAll js zs c'.s := e1
        rw [← es] at hw'
        show evS K B W f _ _ (lk B.L Hc)
        rw [show Hc = c2.H from e2.symm]
        refine evS_run R2 ((s01.trans0 s12).T.trans T0) hw' fun fl s3 p3 => ?_
        cases fl with
        | nx => exact fun σ3 c3 R3 s3' e3 => ⟨c3, rfl, R3, s12.trans0 s3', by rw [e3]; exact p3⟩
        | ct => exact fun σ3 c3 R3 s3' e3 => ⟨c3, rfl, R3, s12.trans0 s3', by rw [e3]; exact p3⟩
        | bk => exact fun σ3 c3 R3 s3' e3 => p3 σ3 c3 R3 ((s01.trans0 s12).trans0 s3') e3
        | rt x => exact fun v A σ3 c3 R3 s3' e3 o => p3 v A σ3 c3 R3 ((s01.trans0 s12).trans0 s3') e3 o
      · rw [if_neg n] at hw; exact hw.elim
    · exact hw.elim
  · subst e
    rw [List.drop_length, sForG] at hw
    exact hw σ' c' R' (s01.trans0 s') rfl
/-- the end of a comprehension's walk -/
theorem lcG_core {K : KC} {B : Bs} {J : It} {js : List Nat} {tgt : PV → Option (List PV)} {g : TG} {ft : St → Rs Bool} {fe : St → Rs PV} {xs : List PV} {c0 c1 : Cf} {σ : L2.St} {D : Addr} {Q : VK} {mi mt me : List Nat} (a1 : Aft K B mi [] c0 σ c1) (src : Src K B J c1 xs) (tk : Tk K B js tgt g) (hr : ∀ j ∈ js, B.root j = none) (ok : okOrig c1.s js = true) (hD : c1.R B D = none)
    (h : (lcGo js tgt ft fe xs [] (kill js c1.s)).post (fun acc s2 => ∀ v A c', Aft K B (mi ++ ((mt ++ me) ++ js)) A c0 σ c' → c'.s = restore js c1.s s2 → Own K (c'.F B.D) c'.G c'.H (.cell .own .lst acc) v A → Q v (c'.R B)) (fun _ _ => False)) :
    ∃ Wv : Nat → Nat → Hp → Prop, (∃ m, Wv 0 m (upd (c1.R B) D (.lst []))) ∧ ∀ i m H, Wv i m H → (J.stop i H ∧ Q (.ref D) H) ∨ (J.go i H ∧ ∃ Nx : Hp → Prop, (∀ H', Nx H' → ∃ m', m' < m ∧ Wv (i + 1) m' H') ∧ ∀ x H', J.yld i H x H' → g x (wipe σ js) H' fun σ2 H2 => wipe σ2 js = wipe σ js ∧ evT K B (fun _ _ => False) mt ft σ2 H2 fun b H3 =>
      if b = true then evF K B (fun _ _ => False) me fe σ2 H3 fun y H4 => ∃ acc, H4 D = some (.lst acc) ∧ acc.length < sizeLine ∧ Nx (upd H4 D (.lst (acc ++ [y]))) else Nx H3) := by
  obtain ⟨G, Y, w, hG, hY⟩ := src.ex
  refine lc_it w (fun i H => LcI K B (mt ++ me) js tgt ft fe xs c1 σ D _ i H) (lc_start a1.rel hr ok hD h) (fun i H _ I => ?_) (fun i v H H2 hi I y => ?_) fun H I => ?_
  · obtain ⟨c, acc, ws', S, rfl, R', st, _⟩ := I.ex
    exact hG c _ R' ⟨_, st⟩
  · obtain ⟨c, acc, ws, S, rfl, R, st, eD, os, nD, fD, sm, hgo⟩ := I.ex
    obtain ⟨Hc, z, rfl, le, hz, oz⟩ := hY i c _ v H2 R ⟨_, st⟩ hi y
    have gr := R.grow (ms := []) le
    have st2 : Step (D :: S) c1 { c with H := Hc } := by
      have := st.trans gr.st
      simpa using this
    by_cases hn : ∃ ys, tgt z = some ys ∧ ys.length = js.length
    · obtain ⟨ys, hys, hyl⟩ := hn
      exact lc_turn0 (c := { c with H := Hc }) hr (tk.wp σ) (fun c' σ' ys' Q' R' o' e' => by
        obtain ⟨us, h1, h2⟩ := tk.gt z v c' σ' ys' Q' R' o' e'
        rw [hys] at e'; cases e'
        exact ⟨us, h1, h2 hyl⟩) hz gr.rel st2 (le _ _ eD) (os.le gr.st.F gr.st.G fun _ _ o h => le _ o h) nD fD (fun i n1 n2 => (sm i n1 n2).trans (gr.fr i (by simp))) hgo oz
    · rw [drop_get hz, lcGo] at hgo
      split at hgo
      · rename_i zs ez
        rw [if_neg fun q => hn ⟨zs, ez, q.1⟩] at hgo
        exact hgo.elim
      · exact hgo.elim
  · have hl : ∀ k ∈ js, k < σ.length := fun k m => by
      rw [a1.rel.len]
      exact okOrig_lt ok m
    exact lc_end a1 hr ok tk.nd hl I
section
variable {X : Cx} {B : Bs} {W : WZ} {ms mi mt me : List Nat} {tg iter elt : Expr} {ifs : List Expr} {scope : Scope} {body : List Stmt} {f : Sm} {fi : St → Rs (List PV)} {fe : St → Rs PV} {ft : St → Rs Bool} {pos : Pos} {js : List Nat} {tgt : PV → Option (List PV)} {g : TG}
theorem evI_run {K : KC} {c : Cf} {σ : L2.St} {P : List PV → St → Prop} {R : It → Hp → Prop} (Rl : Rel K B c σ) (h : (fi c.s).post P W) (k : ∀ J xs c', Aft K B ms [] c σ c' → Src K B J c' xs → P xs c'.s → R J (c'.R B)) : evI K B W ms fi σ (c.R B) R :=
  ⟨c, rfl, Rl, Rs.post_imp h fun xs s' p J c' a e src => k J xs c' a src (by rw [e]; exact p)⟩
def sForI (js : List Nat) (tgt : PV → Option (List PV)) (fi : St → Rs (List PV)) (f : Sm) : Sm := fun s => (fi s).bind fun xs s1 => sForG js tgt f xs s1
theorem vs_forI (hp : PassesOwn (model X.prog X.w) X.A X.env X.xe) (hc : X.calm = true) (hi : VI X B W ms tg iter fi) (tk : Tk (kc X B) B js tgt g) (hg : PG X tg g) (hb : VSs X B W body f) (hr : ∀ j ∈ js, B.root j = none) (hs : ∀ y, foldedSetIterable iter X.env y = pure y := by intro _; rfl) :
    VS X B W (.For tg iter body [] pos) (sForI js tgt fi f) := by
  refine ps_imp (ps_for hp hc hi hg hb hs) fun D σ H ⟨c0, e, R, T0, h⟩ => ?_
  subst e
  exact evI_run R (Rs.post_bind h) fun J xs c1 a1 src p1 => forG_core a1.rel T0 a1.st src tk hr p1
def fLcI (js : List Nat) (tgt : PV → Option (List PV)) (fi : St → Rs (List PV)) (ft : St → Rs Bool) (fe : St → Rs PV) (s : St) : Rs PV := (fi s).bind fun xs s1 => if okOrig s1 js then lcEnd js s1 (lcGo js tgt ft fe xs [] (kill js s1)) else .bad
theorem lcI_imp (tk : Tk (kc X B) B js tgt g) (hr : ∀ j ∈ js, B.root j = none) {σ : L2.St} {H : Hp} {Q : VK} (hh : evF (kc X B) B W (mi ++ ((mt ++ me) ++ js)) (fLcI js tgt fi ft fe) σ H Q) : tLc (evI (kc X B) B W mi fi) g (evT (kc X B) B (fun _ _ => False) mt ft) (evF (kc X B) B (fun _ _ => False) me fe) js σ H Q := by
  obtain ⟨c, e, R, h⟩ := hh
  subst e
  refine evI_run R (Rs.post_bind h) fun J xs c1 a1 src p1 => ?_
  intro D hD
  by_cases n : okOrig c1.s js = true
  · rw [if_pos n] at p1
    exact lcG_core a1 src tk hr n hD (noEx_post (Rs.post_bind p1))
  · rw [if_neg n] at p1; exact p1.elim
theorem vf_lcI {own : List (Str × Nat)} (ej : own.map (·.2) = js) (hc : X.calm = true) (hN : X.N.Nodup) (hi : VI X B W mi tg iter fi) (tk : Tk (kc X B) B js tgt g) (ok : BlkOk X.N X.env.scope scope own) (hr : ∀ j ∈ js, B.root j = none)
    (hg : ∀ (s : Shared) (H : Hp) (C : Addr) (cl : List (Str × Addr)) (fp : List Addr), PG (X.blk s H scope (compEnvC scope cl C X.env) fp) tg g)
    (ht : ∀ (s : Shared) (H : Hp) (C : Addr) (cl : List (Str × Addr)) (fp : List Addr), VTs (X.blk s H scope (compEnvC scope cl C X.env) fp) B (fun _ _ => False) mt ifs ft)
    (he : ∀ (s : Shared) (H : Hp) (C : Addr) (cl : List (Str × Addr)) (fp : List Addr), VF (X.blk s H scope (compEnvC scope cl C X.env) fp) B (fun _ _ => False) me elt fe) (hs : ∀ x, foldedSetIterable iter X.env x = pure x := by intro _; rfl) :
    VF X B W (mi ++ ((mt ++ me) ++ js)) (.ListComp elt [⟨tg, iter, ifs, 0⟩] scope pos) (fLcI js tgt fi ft fe) := by
  subst ej
  exact pe_imp (pe_lc (own := own) (g := g) (tt := evT (kc X B) B (fun _ _ => False) mt ft) (te := evF (kc X B) B (fun _ _ => False) me fe) hc hN hi ok hg ht he hs) fun σ H Q h => lcI_imp tk hr h
theorem vs_setLcI (i : Nat) {own : List (Str × Nat)} {y : Str} {py spos : Pos} {f' : St → Rs PV} (k : Keep (fLcI js tgt fi ft fe) f') (ej : own.map (·.2) = js) (hc : X.calm = true) (hN : X.N.Nodup) (hi : VI X B W mi tg iter fi) (tk : Tk (kc X B) B js tgt g) (ok : BlkOk X.N X.env.scope scope own) (hri : B.root i = none) (hr : ∀ j ∈ js, B.root j = none)
    (hg : ∀ (s : Shared) (H : Hp) (C : Addr) (cl : List (Str × Addr)) (fp : List Addr), PG (X.blk s H scope (compEnvC scope cl C X.env) fp) tg g)
    (ht : ∀ (s : Shared) (H : Hp) (C : Addr) (cl : List (Str × Addr)) (fp : List Addr), VTs (X.blk s H scope (compEnvC scope cl C X.env) fp) B (fun _ _ => False) mt ifs ft)
    (he : ∀ (s : Shared) (H : Hp) (C : Addr) (cl : List (Str × Addr)) (fp : List Addr), VF (X.blk s H scope (compEnvC scope cl C X.env) fp) B (fun _ _ => False) me elt fe) (hy : X.N[i]? = some y) (hyl : X.env.scope.names.lookup y = some .local) (hsw : swapsWith (.ListComp elt [⟨tg, iter, ifs, 0⟩] scope pos) (some (.Name y py)) spos.line X.env = pure true) (hs : ∀ x, foldedSetIterable iter X.env x = pure x := by intro _; rfl) :
    VS X B W (.Assign [.Name y py] (.ListComp elt [⟨tg, iter, ifs, 0⟩] scope pos) spos) (sSet i f') := by
  subst ej
  exact ps_imp (ps_setLc (own := own) (g := g) (tt := evT (kc X B) B (fun _ _ => False) mt ft) (te := evF (kc X B) B (fun _ _ => False) me fe) hc hN hy hyl hsw hi ok hg ht he hs) fun D σ H h => lcI_imp tk hr (k.imp hri h)
end
end Z

/-! Walks over a dict's keys; enumerate; zip. -/
namespace Z
open PySem PySem.Spec PyProof.Rows L2
def Bs.lock (B : Bs) (d : Addr) (od : Obj) : Bs := { B with L := fun a => if a = d then some od else B.L a }
theorem ps_lockZ {X : Cx} {st : Stmt} {t : Addr → Obj → TS} (h : ∀ d od, PS X st (t d od)) : PS X st (fun D σ H => ∃ d u, H d = some u ∧ Mut (some u) ∧ ∀ od, t d od ⟨fun σ' H' => H' d = some (.frz od u) ∧ D.nx σ' (upd H' d u), fun v H' => H' d = some (.frz od u) ∧ D.rt v (upd H' d u), fun σ' H' => H' d = some (.frz od u) ∧ D.bk σ' (upd H' d u), fun σ' H' => H' d = some (.frz od u) ∧ D.ct σ' (upd H' d u)⟩ σ (upd H d (.frz od u))) := by
  constructor
  rintro pn0 s τ M D J ⟨d, u, hd, mu, hw⟩
  obtain ⟨od, J1⟩ := J.lock hd mu
  have nf := J.nofrz hd mu
  refine thn ((h d od).run pn0 s τ _ _ J1 (hw od)) fun fw s1 q => ?_
  cases fw with
  | next => obtain ⟨τ', M', J2, e, q⟩ := q; exact ⟨τ', _, J2.unlock e nf, q⟩
  | brk => obtain ⟨τ', M', J2, e, q⟩ := q; exact ⟨τ', _, J2.unlock e nf, q⟩
  | cont => obtain ⟨τ', M', J2, e, q⟩ := q; exact ⟨τ', _, J2.unlock e nf, q⟩
  | ret v => obtain ⟨x, τ', M', J2, r, e, q⟩ := q; exact ⟨x, τ', _, J2.unlock e nf, r, q⟩
theorem pe_lockZ {X : Cx} {e : Expr} {t : Addr → Obj → TE} (h : ∀ d od, PE X e (t d od)) : PE X e (fun σ H Q => ∃ d u, H d = some u ∧ Mut (some u) ∧ ∀ od, t d od σ (upd H d (.frz od u)) fun v H' => H' d = some (.frz od u) ∧ Q v (upd H' d u)) := by
  constructor
  rintro pn0 s τ M Q J ⟨d, u, hd, mu, hw⟩
  obtain ⟨od, J1⟩ := J.lock hd mu
  have nf := J.nofrz hd mu
  refine thn ((h d od).run pn0 s τ _ _ J1 (hw od)) fun v s1 q => ?_
  obtain ⟨x, M', J2, r, e2, q⟩ := q
  exact ⟨x, _, J2.unlock e2 nf, r, q⟩
section
variable {K : KC} {B : Bs} {c : Cf} {σ : L2.St} {d : Addr} {od : Obj} {u : HO}
theorem lockR (hl : B.L d = none) (hd : c.H d = some u) : upd (c.R B) d (.frz od u) = c.R (B.lock d od) := by
  funext b
  by_cases e : b = d
  · subst e
    rw [upd_same]
    show _ = lk _ c.H b
    unfold lk Bs.lock
    simp [hd]
  · rw [upd_ne e]
    show lk B.L c.H b = lk _ c.H b
    unfold lk Bs.lock
    simp [e]
theorem lockAt (hd : c.H d = some u) : c.R (B.lock d od) d = some (.frz od u) := by
  show lk _ c.H d = _
  unfold lk Bs.lock
  simp [hd]
theorem unlockR (hl : B.L d = none) (hd : c.H d = some u) : upd (c.R (B.lock d od)) d u = c.R B := by
  rw [← lockR (u := u) hl hd, upd_upd]
  funext b
  by_cases e : b = d
  · subst e
    rw [upd_same]
    show _ = lk B.L c.H b
    rw [lk_none hl, hd]
  · rw [upd_ne e]
theorem Rel.lock (R : Rel K B c σ) (h : d ∉ c.T ∧ ¬ c.mine d ∧ IsD (c.H d)) : Rel K (B.lock d od) c σ := by
  refine ⟨R.len, R.own, R.dead, R.dis, R.nT, R.nD, R.live, R.keep, R.new, R.root, fun a ob e => ?_⟩
  by_cases q : a = d
  · rw [q]; exact h
  · have e : (if a = d then some od else B.L a) = some ob := e
    rw [if_neg q] at e
    exact R.lkd a ob e
theorem Rel.unlock (R : Rel K (B.lock d od) c σ) (hl : B.L d = none) : Rel K B c σ := by
  refine ⟨R.len, R.own, R.dead, R.dis, R.nT, R.nD, R.live, R.keep, R.new, R.root, fun a ob e => ?_⟩
  have q : a ≠ d := fun q => by rw [q, hl] at e; cases e
  refine R.lkd a ob ?_
  show (if a = d then some od else B.L a) = some ob
  rw [if_neg q]; exact e
end
def keyP : Key → PV
  | .inl i => .int i
  | .inr x => .str x
theorem Own.keyP {K : KC} {F G H : Hp} (k : Key) : Own K F G H (keyP k) (kV k) [] := by
  cases k with
  | inl i => exact .int i
  | inr x => exact .str x
theorem src_keys {K : KC} {B : Bs} {c1 : Cf} {d : Addr} {od : Obj} {ks : List Key} {ws : List V} (hL : B.L d = some od) (nm : ¬ c1.mine d) (hd : c1.H d = some (.dK (ks.zip ws))) (hl : ks.length = ws.length) : Src K B (Itk d od (ks.zip ws)) c1 (ks.map keyP) := by
  have hlen : (ks.map keyP).length = (ks.zip ws).length := by simp [hl]
  refine ⟨fun H => H d = some (.frz od (.dK (ks.zip ws))), fun i H x H' => H' = H ∧ ∃ k v, (ks.zip ws)[i]? = some (k, v) ∧ x = kV k, by rw [hlen]; exact walk_keys, fun c σ' R ⟨A, st⟩ => ?_, fun i c σ' v H' R st hi ⟨e, k, w, h1, h2⟩ => ?_⟩
  · show lk B.L c.H d = _
    unfold lk
    rw [hL, st.keep d _ nm hd]
  · subst e h2
    refine ⟨c.H, keyP k, rfl, Le.refl _, ?_, Own.keyP k⟩
    rw [List.getElem?_map]
    have := List.getElem?_zip_eq_some.mp h1
    rw [this.1]; rfl
def dKeys (i : Nat) (s : St) : Rs (List PV) := match s[i]? with
  | some (some (.cell (.sh _) (.dK ks) _)) => .ok (ks.map keyP) s
  | _ => .bad
theorem dKeys_ok {i : Nat} {s : St} {P : List PV → St → Prop} {W : WZ} (h : (dKeys i s).post P W) : ∃ b ks xs, s[i]? = some (some (.cell (.sh b) (.dK ks) xs)) ∧ P (ks.map keyP) s := by
  unfold dKeys at h
  split at h
  · rename_i b ks xs e; exact ⟨b, ks, xs, e, h⟩
  · exact h.elim
theorem Rel.shD {K : KC} {B : Bs} {c : Cf} {σ : L2.St} {i : Nat} {b : Bool} {ks : List Key} {xs : List PV} (R : Rel K B c σ) (h : c.s[i]? = some (some (.cell (.sh b) (.dK ks) xs))) : ∃ d ws, σ[i]? = some (some (.ref d)) ∧ c.H d = some (.dK (ks.zip ws)) ∧ ks.length = ws.length ∧ d ∉ c.T ∧ ¬ c.mine d := by
  obtain ⟨v, h1, o⟩ := R.own i _ h
  generalize c.As i = A at o
  cases o with
  | fz hh =>
    cases hh with
    | cell a b => obtain ⟨g1, g2, g3, g4⟩ := F_eq.mp a.1; exact ⟨_, _, h1, g4, a.2.1, g2, g3⟩
  | bw hh =>
    cases hh with
    | cell a b => obtain ⟨g2, g3, g4⟩ := G_eq.mp a.1; exact ⟨_, _, h1, g4, a.2.1, g2, g3⟩
section
variable {X : Cx} {B : Bs} {W : WZ} {i j : Nat} {mt me : List Nat} {elt : Expr} {ifs : List Expr} {scope : Scope} {body : List Stmt} {f : Sm} {fe : St → Rs PV} {ft : St → Rs Bool} {x dn : Str} {px pd pos : Pos}
/-- for k in d -/
def sForD (j i : Nat) (f : Sm) : Sm := fun s => (dKeys i s).bind fun xs s1 => noEx (sForG [j] tgt1 f xs s1)
theorem vs_forD (j i : Nat) (hN : X.N.Nodup) (hp : PassesOwn (model X.prog X.w) X.A X.env X.xe) (hc : X.calm = true) (hb : ∀ L, VSs X { B with L := L } (fun _ _ => False) body f) (hr : B.root j = none) (hj : X.N[j]? = some x) (hx : Loc X.env.scope x) (hi : X.N[i]? = some dn := by rfl)
    (hv : Vis X.env.scope dn := by first | exact Or.inl rfl | exact Or.inr (Or.inl rfl) | exact Or.inr (Or.inr rfl)) (hd : (dn == ("__debug__" : Str)) = false := by decide) (hcd : (dn == ("__classdict__" : Str)) = false := by decide)
    (hf : X.fn x = true ∨ X.env.scope.names.lookup x = some .local := by first | exact .inl rfl | exact .inr rfl | assumption) (hs : ∀ y, foldedSetIterable (.Name dn pd) X.env y = pure y := by intro _; rfl) :
    VS X B W (.For (.Name x px) (.Name dn pd) body [] pos) (sForD j i f) := by
  refine ps_imp (ps_or (ps_lockZ fun d od => ps_for hp hc (pi_keys (pe_var hi hv hd hcd)) (pg_name hN hj hx hf) (hb (B.lock d od).L) hs) (ps_for hp hc (pi_keys (pe_var hi hv hd hcd)) (pg_name hN hj hx hf) (hb B.L) hs)) fun D σ H ⟨c, e, R, T0, h⟩ => ?_
  subst e
  obtain ⟨b, ks, xs, hsl, p⟩ := dKeys_ok (Rs.post_bind h)
  have p := noEx_post p
  obtain ⟨d, ws, h1, h2, h3, h4, h5⟩ := R.shD hsl
  have hr' : ∀ k ∈ [j], B.root k = none := fun k m => by cases List.mem_singleton.mp m; exact hr
  cases hl : B.L d with
  | some od =>
    refine .inr ⟨.ref d, h1, d, od, rfl, .inl ⟨_, ?_, forG_core R T0 .refl (src_keys hl h5 h2 h3) (tk_name j) hr' p⟩⟩
    show lk B.L c.H d = _
    unfold lk; rw [hl, h2]
  | none =>
    refine .inl ⟨d, .dK (ks.zip ws), (lk_none hl).trans h2, trivial, fun od => ?_⟩
    rw [lockR hl h2]
    have R2 : Rel (kc X B) (B.lock d od) c σ := R.lock ⟨h4, h5, by rw [h2]; trivial⟩
    have hL : (B.lock d od).L d = some od := by show (if d = d then some od else B.L d) = _; rw [if_pos rfl]
    refine ⟨.ref d, h1, d, od, rfl, .inl ⟨_, lockAt h2, forG_core (B := B.lock d od) R2 T0 .refl (src_keys hL h5 h2 h3) (tk_name j) hr' (Rs.post_imp p fun fl s' q => ?_)⟩⟩
    cases fl with
    | nx =>
      intro σ' c' R' st' e'
      have k2 := st'.keep d _ h5 h2
      refine ⟨lockAt k2, ?_⟩
      rw [unlockR hl k2]
      exact q σ' c' (R'.unlock hl) st' e'
    | bk =>
      intro σ' c' R' st' e'
      have k2 := st'.keep d _ h5 h2
      refine ⟨lockAt k2, ?_⟩
      rw [unlockR hl k2]
      exact q σ' c' (R'.unlock hl) st' e'
    | ct =>
      intro σ' c' R' st' e'
      have k2 := st'.keep d _ h5 h2
      refine ⟨lockAt k2, ?_⟩
      rw [unlockR hl k2]
      exact q σ' c' (R'.unlock hl) st' e'
    | rt y =>
      intro v A σ' c' R' st' e' o
      have k2 := st'.keep d _ h5 h2
      refine ⟨lockAt k2, ?_⟩
      rw [unlockR hl k2]
      exact q v A σ' c' (R'.unlock hl) st' e' o
/-- [e for k in d if t] -/
def fLcD (j i : Nat) (ft : St → Rs Bool) (fe : St → Rs PV) (s : St) : Rs PV := (dKeys i s).bind fun xs s1 => if okOrig s1 [j] then lcEnd [j] s1 (lcGo [j] tgt1 ft fe xs [] (kill [j] s1)) else .bad
theorem lcD_imp (j i : Nat) (hr : B.root j = none) {σ : L2.St} {H : Hp} {Q : VK} (hh : evF (kc X B) B W ((mt ++ me) ++ [j]) (fLcD j i ft fe) σ H Q) :
    (∃ d u, H d = some u ∧ Mut (some u) ∧ ∀ od, tLc (iKeys (fun σ H Q => ∃ v, σ[i]? = some (some v) ∧ Q v H)) (gName j) (evT (kc X B) (B.lock d od) (fun _ _ => False) mt ft) (evF (kc X B) (B.lock d od) (fun _ _ => False) me fe) [j] σ (upd H d (.frz od u)) fun v H' => H' d = some (.frz od u) ∧ Q v (upd H' d u)) ∨
    tLc (iKeys (fun σ H Q => ∃ v, σ[i]? = some (some v) ∧ Q v H)) (gName j) (evT (kc X B) B (fun _ _ => False) mt ft) (evF (kc X B) B (fun _ _ => False) me fe) [j] σ H Q := by
  obtain ⟨c, e, R, h⟩ := hh
  subst e
  obtain ⟨b, ks, xs, hsl, p⟩ := dKeys_ok (Rs.post_bind h)
  by_cases n : okOrig c.s [j] = true
  · rw [if_pos n] at p
    have p := noEx_post (Rs.post_bind p)
    obtain ⟨d, ws, h1, h2, h3, h4, h5⟩ := R.shD hsl
    have hr' : ∀ k ∈ [j], B.root k = none := fun k m => by cases List.mem_singleton.mp m; exact hr
    cases hl : B.L d with
    | some od =>
      refine .inr ⟨.ref d, h1, d, od, rfl, .inl ⟨_, ?_, fun D hD => lcG_core (mi := []) (.refl R) (src_keys hl h5 h2 h3) (tk_name j) hr' n hD p⟩⟩
      show lk B.L c.H d = _
      unfold lk; rw [hl, h2]
    | none =>
      refine .inl ⟨d, .dK (ks.zip ws), (lk_none hl).trans h2, trivial, fun od => ?_⟩
      rw [lockR hl h2]
      have R2 : Rel (kc X B) (B.lock d od) c σ := R.lock ⟨h4, h5, by rw [h2]; trivial⟩
      have hL : (B.lock d od).L d = some od := by show (if d = d then some od else B.L d) = _; rw [if_pos rfl]
      refine ⟨.ref d, h1, d, od, rfl, .inl ⟨_, lockAt h2, fun D hD => lcG_core (B := B.lock d od) (mi := []) (mt := mt) (me := me) (Q := fun v H' => H' d = some (.frz od (.dK (ks.zip ws))) ∧ Q v (upd H' d (.dK (ks.zip ws)))) (.refl R2) (src_keys hL h5 h2 h3) (tk_name j) hr' n hD (Rs.post_imp p fun acc s2 q v A c' a' e' o => ?_)⟩⟩
      have k2 := a'.st.keep d _ h5 h2
      refine ⟨lockAt k2, ?_⟩
      rw [unlockR hl k2]
      exact q v A c' ⟨a'.rel.unlock hl, a'.st, a'.fr⟩ e' o
  · rw [if_neg n] at p; exact p.elim
theorem vf_lcD (j i : Nat) (hc : X.calm = true) (hN : X.N.Nodup) (ok : BlkOk X.N X.env.scope scope [(x, j)]) (hr : B.root j = none)
    (hg : ∀ (s : Shared) (H : Hp) (C : Addr) (cl : List (Str × Addr)) (fp : List Addr), PG (X.blk s H scope (compEnvC scope cl C X.env) fp) (.Name x px) (gName j))
    (ht : ∀ L, ∀ (s : Shared) (H : Hp) (C : Addr) (cl : List (Str × Addr)) (fp : List Addr), VTs (X.blk s H scope (compEnvC scope cl C X.env) fp) { B with L := L } (fun _ _ => False) mt ifs ft)
    (he : ∀ L, ∀ (s : Shared) (H : Hp) (C : Addr) (cl : List (Str × Addr)) (fp : List Addr), VF (X.blk s H scope (compEnvC scope cl C X.env) fp) { B with L := L } (fun _ _ => False) me elt fe) (hi : X.N[i]? = some dn := by rfl)
    (hv : Vis X.env.scope dn := by first | exact Or.inl rfl | exact Or.inr (Or.inl rfl) | exact Or.inr (Or.inr rfl)) (hd : (dn == ("__debug__" : Str)) = false := by decide) (hcd : (dn == ("__classdict__" : Str)) = false := by decide) (hs : ∀ x, foldedSetIterable (.Name dn pd) X.env x = pure x := by intro _; rfl) :
    VF X B W ((mt ++ me) ++ [j]) (.ListComp elt [⟨.Name x px, .Name dn pd, ifs, 0⟩] scope pos) (fLcD j i ft fe) :=
  pe_imp (pe_or (pe_lockZ fun d od => pe_lc (own := [(x, j)]) (g := gName j) (tt := evT (kc X B) (B.lock d od) (fun _ _ => False) mt ft) (te := evF (kc X B) (B.lock d od) (fun _ _ => False) me fe) hc hN (pi_keys (pe_var hi hv hd hcd)) ok hg (ht (B.lock d od).L) (he (B.lock d od).L) hs) (pe_lc (own := [(x, j)]) (g := gName j) (tt := evT (kc X B) B (fun _ _ => False) mt ft) (te := evF (kc X B) B (fun _ _ => False) me fe) hc hN (pi_keys (pe_var hi hv hd hcd)) ok hg (ht B.L) (he B.L) hs)) fun σ H Q h => lcD_imp j i hr h
theorem vs_setLcD (k0 j i : Nat) {y : Str} {py spos : Pos} {f' : St → Rs PV} (k : Keep (fLcD j i ft fe) f') (hc : X.calm = true) (hN : X.N.Nodup) (ok : BlkOk X.N X.env.scope scope [(x, j)]) (hri : B.root k0 = none) (hr : B.root j = none)
    (hg : ∀ (s : Shared) (H : Hp) (C : Addr) (cl : List (Str × Addr)) (fp : List Addr), PG (X.blk s H scope (compEnvC scope cl C X.env) fp) (.Name x px) (gName j))
    (ht : ∀ L, ∀ (s : Shared) (H : Hp) (C : Addr) (cl : List (Str × Addr)) (fp : List Addr), VTs (X.blk s H scope (compEnvC scope cl C X.env) fp) { B with L := L } (fun _ _ => False) mt ifs ft)
    (he : ∀ L, ∀ (s : Shared) (H : Hp) (C : Addr) (cl : List (Str × Addr)) (fp : List Addr), VF (X.blk s H scope (compEnvC scope cl C X.env) fp) { B with L := L } (fun _ _ => False) me elt fe) (hy : X.N[k0]? = some y) (hyl : X.env.scope.names.lookup y = some .local) (hsw : swapsWith (.ListComp elt [⟨.Name x px, .Name dn pd, ifs, 0⟩] scope pos) (some (.Name y py)) spos.line X.env = pure true) (hi : X.N[i]? = some dn := by rfl)
    (hv : Vis X.env.scope dn := by first | exact Or.inl rfl | exact Or.inr (Or.inl rfl) | exact Or.inr (Or.inr rfl)) (hd : (dn == ("__debug__" : Str)) = false := by decide) (hcd : (dn == ("__classdict__" : Str)) = false := by decide) (hs : ∀ x, foldedSetIterable (.Name dn pd) X.env x = pure x := by intro _; rfl) :
    VS X B W (.Assign [.Name y py] (.ListComp elt [⟨.Name x px, .Name dn pd, ifs, 0⟩] scope pos) spos) (sSet k0 f') := by
  refine ps_imp (ps_or (ps_lockZ fun d od => ps_setLc (own := [(x, j)]) (g := gName j) (tt := evT (kc X B) (B.lock d od) (fun _ _ => False) mt ft) (te := evF (kc X B) (B.lock d od) (fun _ _ => False) me fe) hc hN hy hyl hsw (pi_keys (pe_var hi hv hd hcd)) ok hg (ht (B.lock d od).L) (he (B.lock d od).L) hs) (ps_setLc (own := [(x, j)]) (g := gName j) (tt := evT (kc X B) B (fun _ _ => False) mt ft) (te := evF (kc X B) B (fun _ _ => False) me fe) hc hN hy hyl hsw (pi_keys (pe_var hi hv hd hcd)) ok hg (ht B.L) (he B.L) hs)) fun D σ H h => ?_
  rcases lcD_imp (W := W) j i hr (k.imp hri h) with ⟨d, u, h1, h2, h3⟩ | h
  · exact .inl ⟨d, u, h1, h2, fun od => h3 od⟩
  · exact .inr h
/-- enumerate(l) -/
def enumP : Nat → List PV → List PV
  | _, [] => []
  | n, x :: xs => .tup [.int (n : Nat), x] :: enumP (n + 1) xs
theorem enumP_get : ∀ (xs : List PV) (n i : Nat), (enumP n xs)[i]? = (xs[i]?).map fun x => .tup [.int ((n + i : Nat) : Int), x]
  | [], n, i => rfl
  | x :: xs, n, 0 => rfl
  | x :: xs, n, i + 1 => by
    rw [enumP, List.getElem?_cons_succ, List.getElem?_cons_succ, enumP_get xs (n + 1) i]
    congr 1; funext y; congr 3; omega
theorem enumP_len : ∀ (xs : List PV) (n : Nat), (enumP n xs).length = xs.length
  | [], _ => rfl
  | x :: xs, n => by rw [enumP, List.length_cons, List.length_cons, enumP_len xs]
def iEnumF (ga : St → Rs (List PV)) (s : St) : Rs (List PV) := (ga s).bind fun xs s1 => match xs with
  | [x] => match itemsOf x with
    | some ys => .ok (enumP 0 ys) s1
    | none => .bad
  | _ => .bad
theorem vi_enum {e : Expr} {ms : List Nat} {ga : St → Rs (List PV)} {p tpos : Pos} {elts : List Expr} {kk : Nat} (hm : X.mg "enumerate" = none) (ha : VA X B W ms [e] ga) (hg : Gl X "enumerate") (hs : starEach [e] X.env = [(false, eval e X.env)] := by rfl) :
    VI X B W ms (.Tuple elts kk tpos) (.Call (.Name "enumerate" p) [e] [] pos) (iEnumF ga) := by
  have base := pi_enum (elts := elts) (kk := kk) (tpos := tpos) (p := p) (pos := pos) hg hm ha hs
  refine ⟨fun pins s σ H R I ⟨c, e, Rl, h⟩ => base.run pins s σ H R I ?_⟩
  subst e
  refine evA_run Rl (Rs.post_bind h) fun xs vs c1 a1 v1 p1 => ?_
  split at p1
  · rename_i x
    split at p1
    · rename_i ys hy
      obtain ⟨v, rfl, vx⟩ := v1.one
      obtain ⟨a, ws, rfl, os, sq⟩ := vx.items hy
      refine ⟨a, ws, rfl, a1.rel.lkSqL (sq c1 (Le.refl _)), p1 _ c1 a1 rfl ⟨fun H => SqL X.K H a ws, YPair (fun i => some (.int (i : Nat))) (fun i => ws[i]?), by rw [enumP_len, os.length]; exact walk_enum, fun c' σ' R' ⟨A, st⟩ => R'.lkSqL (sq c' st.G), fun i c' σ' u H' R' ⟨A, st⟩ hi ⟨T, x1, y1, h1, h2, h3, h4, h5⟩ => ?_⟩⟩
      cases h4
      subst h1 h3
      obtain ⟨hT, lT⟩ := R'.lkNew h2
      have hlt : i < ys.length := by rw [enumP_len] at hi; exact hi
      obtain ⟨w', g1, g2⟩ := os.get (List.getElem?_eq_getElem hlt)
      have h5 : ws[i]? = some y1 := h5
      rw [h5] at g1; cases g1
      obtain ⟨_, o2⟩ := (Aft.refl (ms := []) R').newT hT (xs := [.int (i : Nat), ys[i]]) (ws := [.int (i : Nat), y1]) (.cons (.int _) (.cons (g2.le st.F st.G fun _ m => by cases m) .nil))
      refine ⟨_, .tup [.int (i : Nat), ys[i]], lk_upd lT, upd_le hT, ?_, o2⟩
      rw [enumP_get, List.getElem?_eq_getElem hlt, Nat.zero_add]; rfl
    · exact p1.elim
  · exact p1.elim
def zipP : List PV → List PV → List PV
  | x :: xs, y :: ys => .tup [x, y] :: zipP xs ys
  | _, _ => []
theorem zipP_len : ∀ xs ys : List PV, (zipP xs ys).length = min xs.length ys.length
  | [], ys => by simp [zipP]
  | x :: xs, [] => by simp [zipP]
  | x :: xs, y :: ys => by simp [zipP, zipP_len xs ys]
theorem zipP_get : ∀ (xs ys : List PV) (i : Nat) {x y : PV}, xs[i]? = some x → ys[i]? = some y → (zipP xs ys)[i]? = some (.tup [x, y])
  | [], ys, i, x, y, h, _ => by simp at h
  | a :: xs, [], i, x, y, _, h => by simp at h
  | a :: xs, b :: ys, 0, x, y, h, g => by simp at h g; subst h g; rfl
  | a :: xs, b :: ys, i + 1, x, y, h, g => by
    rw [zipP, List.getElem?_cons_succ]
    exact zipP_get xs ys i (by simpa using h) (by simpa using g)
def iZipF (ga : St → Rs (List PV)) (s : St) : Rs (List PV) := (ga s).bind fun xs s1 => match xs with
  | [x, y] => match itemsOf x, itemsOf y with
    | some us, some ws => .ok (zipP us ws) s1
    | _, _ => .bad
  | _ => .bad
theorem vi_zip {e e' : Expr} {ms : List Nat} {ga : St → Rs (List PV)} {p tpos : Pos} {elts : List Expr} {kk : Nat} (hm : X.mg "zip" = none) (ha : VA X B W ms [e, e'] ga) (hg : Gl X "zip") (hs : starEach [e, e'] X.env = (false, eval e X.env) :: starEach [e'] X.env := by rfl) (hpl : (backTo pos (starEach [e'] X.env)).any (·.1) = false := by rfl) :
    VI X B W ms (.Tuple elts kk tpos) (.Call (.Name "zip" p) [e, e'] [] pos) (iZipF ga) := by
  have base := pi_zip (elts := elts) (kk := kk) (tpos := tpos) (p := p) (pos := pos) hg hm ha hs hpl
  refine ⟨fun pins s σ H R I ⟨c, e, Rl, h⟩ => base.run pins s σ H R I ?_⟩
  subst e
  refine evA_run Rl (Rs.post_bind h) fun xs vs c1 a1 v1 p1 => ?_
  split at p1
  · rename_i x y
    split at p1
    · rename_i us ys hu hy
      obtain ⟨v, w, rfl, vx, vy⟩ := v1.two
      obtain ⟨a, ws1, rfl, os1, sq1⟩ := vx.items hu
      obtain ⟨b, ws2, rfl, os2, sq2⟩ := vy.items hy
      refine ⟨a, b, ws1, ws2, rfl, a1.rel.lkSqL (sq1 c1 (Le.refl _)), a1.rel.lkSqL (sq2 c1 (Le.refl _)), p1 _ c1 a1 rfl ⟨_, _, walk_zip (by rw [zipP_len, os1.length, os2.length]), fun c' σ' R' ⟨A, st⟩ => ⟨R'.lkSqL (sq1 c' st.G), R'.lkSqL (sq2 c' st.G)⟩, fun i c' σ' u H' R' ⟨A, st⟩ hi ⟨T, x1, y1, h1, h2, h3, h4, h5⟩ => ?_⟩⟩
      subst h1 h3
      obtain ⟨hT, lT⟩ := R'.lkNew h2
      rw [zipP_len] at hi
      have l1 : i < us.length := by omega
      have l2 : i < ys.length := by omega
      obtain ⟨w1, g1, g2⟩ := os1.get (List.getElem?_eq_getElem l1)
      obtain ⟨w2, g3, g4⟩ := os2.get (List.getElem?_eq_getElem l2)
      have h4 : ws1[i]? = some x1 := h4
      have h5 : ws2[i]? = some y1 := h5
      rw [h4] at g1; cases g1
      rw [h5] at g3; cases g3
      obtain ⟨_, o2⟩ := (Aft.refl (ms := []) R').newT hT (xs := [us[i], ys[i]]) (ws := [x1, y1]) (.cons (g2.le st.F st.G fun _ m => by cases m) (.cons (g4.le st.F st.G fun _ m => by cases m) .nil))
      exact ⟨_, .tup [us[i], ys[i]], lk_upd lT, upd_le hT, zipP_get us ys i (List.getElem?_eq_getElem l1) (List.getElem?_eq_getElem l2), o2⟩
    · exact p1.elim
  · exact p1.elim
end
end Z

/-! list(d), dict(d), len(d); clear, reverse, insert, pop(i); list(range(n)). -/
namespace Z
open PySem PySem.Spec PyProof.Rows L2
section
variable {X : Cx} {B : Bs} {W : WZ} {ms ma mb mc : List Nat} {a b d e o : Expr} {es : List Expr} {fa fb fc : St → Rs PV} {pos p p2 apos cpos : Pos} {ga : St → Rs (List PV)} {i : Nat} {fl : St → Option (List Nat)}
theorem keysOs {K : KC} {F G H : Hp} : ∀ {ks : List Key} {ws : List V}, ks.length = ws.length → Os K F G H (ks.map keyP) ((ks.zip ws).map fun kv => kV kv.1)
  | [], _, _ => .nil
  | k :: ks, [], h => by simp at h
  | k :: ks, w :: ws, h => .cons (Own.keyP k) (keysOs (by simpa using h))
def cListD : GC := fun s xs => match xs with
  | [x] => match look s x with
    | .cell _ (.dK ks) _ => some (.cell .own .lst (ks.map keyP))
    | _ => none
  | _ => none
theorem fc_listD : FCall X B (fun xs H Q => ∃ (a : Addr) (kvs : List (Key × V)), xs = [.ref a] ∧ Rd H a (.dK kvs) ∧ ∀ p, H p = none → Q (.ref p) (upd H p (.lst (kvs.map fun kv => kV kv.1)))) cListD := by
  intro ms c0 c σ xs vs z Q a hx g k
  have R := a.rel
  unfold cListD at g
  split at g
  · rename_i x
    obtain ⟨v, rfl, r⟩ := hx.one
    split at g
    · rename_i f ks ys e
      cases g
      obtain ⟨q, ws, A0, S, rfl, io, os⟩ := R.cellOf r e
      refine ⟨q, _, rfl, lk_rd io.1, fun t ht => ?_⟩
      obtain ⟨ht, hl⟩ := R.lkNew ht
      obtain ⟨c2, a2, e3, e4, o⟩ := a.newL ht (keysOs (ws := ws) io.2.1)
      have := k (.ref t) [t] c2 a2 e3 o
      rw [lk_upd hl, ← e4]; exact this
    · cases g
  · cases g
/-- dict(d): the values are shared -/
def cDictD : GC := fun s xs => match xs with
  | [x] => match look s x with
    | .cell _ (.dK ks) ys => if PV.nowns ys then some (.cell .own (.dK ks) ys) else none
    | _ => none
  | _ => none
theorem fc_dictD : FCall X B (fun xs H Q => ∃ (a : Addr) (kvs : List (Key × V)), xs = [.ref a] ∧ Rd H a (.dK kvs) ∧ ∀ p, H p = none → Q (.ref p) (upd H p (.dK kvs))) cDictD := by
  intro ms c0 c σ xs vs z Q a hx g k
  have R := a.rel
  unfold cDictD at g
  split at g
  · rename_i x
    obtain ⟨v, rfl, r⟩ := hx.one
    split at g
    · rename_i f ks ys e
      by_cases n : PV.nowns ys = true
      · rw [if_pos n] at g
        cases g
        obtain ⟨q, ws, A0, S, rfl, io, os⟩ := R.cellOf r e
        have os := os.os (os.nown n)
        refine ⟨q, _, rfl, lk_rd io.1, fun t ht => ?_⟩
        obtain ⟨ht, hl⟩ := R.lkNew ht
        have pu := a.push (A := [t]) (H' := upd c.H t (.dK (ks.zip ws))) (upd_le ht) (fun x m => by cases List.mem_singleton.mp m; exact ht) (fun x m => by cases List.mem_singleton.mp m; exact ⟨_, upd_same, trivial⟩)
        have st := (R.push (ms := []) (A := [t]) (H' := upd c.H t (.dK (ks.zip ws))) (upd_le ht) (fun x m => by cases List.mem_singleton.mp m; exact ht) (fun x m => by cases List.mem_singleton.mp m; exact ⟨_, upd_same, trivial⟩)).st
        have ow := Own.cell (K := kc X B) (t := .dK ks) (a := t) (A := [t]) (S := []) ⟨upd_same, io.2.1, io.2.2.1, rfl⟩ (os.le (H' := upd c.H t (.dK (ks.zip ws))) st.F st.G).owns (fun b m z => by cases z)
        have := k (.ref t) [t] _ pu rfl (by simpa using ow)
        rw [lk_upd hl]; exact this
      · rw [if_neg n] at g; cases g
    · cases g
  · cases g
theorem call_lenD : CallR X (.builtin "len") (fun xs H Q => ∃ (a : Addr) (kvs : List (Key × V)), xs = [.ref a] ∧ Rd H a (.dK kvs) ∧ Q (.int kvs.length) H) := by
  rintro pn0 s τ M xs us Q J r ⟨a, kvs, rfl, hd, q⟩
  obtain ⟨u, rfl, rx⟩ := vals1 r
  cases rx
  exact d_len J hd fun t s' J' => ⟨.int kvs.length, M, J', ⟨t, rfl⟩, q⟩
def cLenD : GC := fun s xs => match xs with
  | [x] => match look s x with
    | .cell _ (.dK ks) _ => some (.int ks.length)
    | _ => none
  | _ => none
theorem pc_lenD : PCall X B (fun xs H Q => ∃ (a : Addr) (kvs : List (Key × V)), xs = [.ref a] ∧ Rd H a (.dK kvs) ∧ Q (.int kvs.length) H) cLenD := by
  intro c σ xs vs z Q R hx g k
  unfold cLenD at g
  split at g
  · rename_i x
    obtain ⟨v, rfl, r⟩ := hx.one
    split at g
    · rename_i f ks ys e
      cases g
      obtain ⟨q, ws, A0, S, rfl, io, os⟩ := R.cellOf r e
      refine ⟨q, _, rfl, lk_rd io.1, ?_⟩
      have : (ks.zip ws).length = ks.length := by simp [io.2.1]
      rw [this]
      exact k _ c.H (Le.refl _) (.int _)
    · cases g
  · cases g
/-! a list of one's own is changed -/
def eUp0 (h : List PV → List PV) (i : Nat) (fl : St → Option (List Nat)) (s : St) : Rs PV := match fl s with
  | some q => match lstAt s i q with
    | some (x, xs) => if PV.nowns xs then .ok .non (s.set i (some (setP x q (.cell .own .lst (h xs))))) else .bad
    | none => .bad
  | none => .bad
theorem up0 {h : List PV → List PV} {h' : List V → List V} (hO : ∀ {K : KC} {F G H : Hp} {xs : List PV} {ws : List V}, Os K F G H xs ws → Os K F G H (h xs) (h' ws)) {r : V → List V → Hp → VK → Prop} (hr : ∀ l ws H (Q : VK), H l = some (.lst ws) → Q .non (upd H l (.lst (h' ws))) → r (.ref l) [] H Q) (he : PE X e (tBM0 X.K "list" r (evL (kc X B) B W i fl))) : VE X B W [i] e (eUp0 h i fl) := by
  refine pe_imp he fun σ H Q ⟨c, e, R, hh⟩ => ?_
  subst e
  unfold eUp0 at hh
  split at hh
  · rename_i q hq
    split at hh
    · rename_i x xs h0
      obtain ⟨hx0, hg0⟩ := lstAt_ok h0
      by_cases n : PV.nowns xs = true
      · rw [if_pos n] at hh
        refine evL_run R hq fun v u c0 a0 e0 hu hv => ?_
        rw [← e0] at hx0
        obtain ⟨p0, ws, A0, S, rfl, io, os, m0, _, up⟩ := cellUp R a0 hx0 hu hg0 hv
        have l0 := a0.rel.lkOwn m0
        obtain ⟨ioH, ioA⟩ := io
        have eS := os.nown n
        refine ⟨.inl ⟨rfl, _, .inl (.inl (l0.1.trans ioH))⟩, hr p0 ws _ Q (l0.1.trans ioH) ?_⟩
        obtain ⟨c', a', e1, e2, l1, l2⟩ := up .lst (h xs) (h' ws) [] (.lst (h' ws)) ⟨upd_same, ioA⟩ (fun b m => by cases m) fun F' G' lf lg k => (hO ((os.os eS).le lf lg)).owns
        have := hh .non c' a' (by rw [e1, e0]) (.inr .non)
        rw [l0.2, ← e2]; exact this
      · rw [if_neg n] at hh; exact hh.elim
    · exact hh.elim
  · exact hh.elim
theorem ve_clear (ho : VL X B W i o fl) (hbase : attributeBase o "clear" X.env (eval o X.env) = eval o X.env := by rfl) (hline : (apos.endLine == cpos.line) = true := by rfl) : VE X B W [i] (.Call (.Attribute o "clear" apos) [] [] cpos) (eUp0 (fun _ => []) i fl) :=
  up0 (h' := fun _ => []) (fun _ => .nil) (fun l ws H Q h1 h2 => ⟨l, ws, rfl, rfl, h1, h2⟩) (pe_bm0 PySem.F.plainAttrs_list PySem.F.slot_list_clear PySem.F.type_list_clear mt_clear ho hbase hline)
theorem ve_reverse (ho : VL X B W i o fl) (hbase : attributeBase o "reverse" X.env (eval o X.env) = eval o X.env := by rfl) (hline : (apos.endLine == cpos.line) = true := by rfl) : VE X B W [i] (.Call (.Attribute o "reverse" apos) [] [] cpos) (eUp0 List.reverse i fl) :=
  up0 (h' := List.reverse) (fun o => o.reverse) (fun l ws H Q h1 h2 => ⟨l, ws, rfl, rfl, h1, h2⟩) (pe_bm0 PySem.F.plainAttrs_list PySem.F.slot_list_reverse PySem.F.type_list_reverse mt_reverse ho hbase hline)
theorem Os.eraseIdx {K : KC} {F G H : Hp} : ∀ {xs : List PV} {ws : List V} (n : Nat), Os K F G H xs ws → Os K F G H (xs.eraseIdx n) (ws.eraseIdx n)
  | [], _, _, h => by cases h; exact .nil
  | x :: xs, _, 0, h => by
    cases h with
    | cons a b => exact b
  | x :: xs, _, n + 1, h => by
    cases h with
    | cons a b => exact .cons a (Os.eraseIdx n b)
/-- o.pop(k) -/
def ePopAt (i : Nat) (fl : St → Option (List Nat)) (fk : St → Rs PV) (s : St) : Rs PV := match fl s with
  | some q => match lstAt s i q with
    | some _ => (fk s).bind fun k s1 => match k, lstAt s1 i q with
      | .int z, some (x, xs) => if PV.nowns xs && decide (-(2 ^ 62) ≤ z) && decide (z < 2 ^ 62) then (match ixN xs.length z with
        | some n => match xs[n]? with
          | some y => .ok y (s1.set i (some (setP x q (.cell .own .lst (xs.eraseIdx n)))))
          | none => .bad
        | none => .bad) else .bad
      | _, _ => .bad
    | none => .bad
  | none => .bad
theorem ve_popAt (ho : VL X B W i o fl) (he : VE X B W ms e fa) (hst : Stb fl i ms) (hbase : attributeBase o "pop" X.env (eval o X.env) = eval o X.env := by rfl)
    (hfew : ((backTo cpos (starEach (e :: []) X.env)).all (fun x => !x.1) && (backToKw cpos (keywordEach [] X.env)).all (fun x => x.1.isSome) && decide ((e :: []).length + ([] : List Keyword).length + (if ([] : List Keyword).isEmpty then 0 else 1) < 30)) = true := by rfl)
    (hline : (apos.endLine == cpos.line) = true := by rfl) (hs : starEach (e :: []) X.env = (false, eval e X.env) :: starEach [] X.env := by rfl) (hplain : (backTo cpos (starEach [] X.env)).any (·.1) = false := by rfl) :
    VE X B W (ms ++ [i]) (.Call (.Attribute o "pop" apos) [e] [] cpos) (ePopAt i fl fa) := by
  refine pe_imp (pe_bm PySem.F.plainAttrs_list PySem.F.slot_list_pop PySem.F.type_list_pop mt_popAt ho (pa_cons he pa_nil hs) hbase hfew hline hs hplain) fun σ H Q ⟨c, e, R, h⟩ => ?_
  subst e
  unfold ePopAt at h
  split at h
  · rename_i q hq
    split at h
    · rename_i q0 h0
      obtain ⟨x0, xs0⟩ := q0
      obtain ⟨hx0, hg0⟩ := lstAt_ok h0
      refine evL_run R hq fun v u c0 a0 e0 hu hv => ?_
      have hx0' := hx0
      rw [← e0] at hx0'
      obtain ⟨p0, ws0, A00, S0, rfl, io0, _, m0, _, _⟩ := cellUp R a0 hx0' hu hg0 hv
      have l0 := a0.rel.lkOwn m0
      refine ⟨.inl ⟨rfl, _, .inl (.inl (l0.1.trans io0.1))⟩, ?_⟩
      rw [← e0] at h
      refine evE_run a0.rel (Rs.post_bind h) fun k w c1 a1 vk p1 => ?_
      split at p1
      · rename_i z x xs h1
        obtain ⟨hx1, hg1⟩ := lstAt_ok h1
        by_cases n : (PV.nowns xs && decide (-(2 ^ 62) ≤ z) && decide (z < 2 ^ 62)) = true
        · rw [if_pos n] at p1
          simp only [Bool.and_eq_true, decide_eq_true_eq] at n
          split at p1
          · rename_i m hm
            split at p1
            · rename_i y hy
              have hv1 := stay a0.rel a1 (hst.at hq) hu hv hx1 hg1
              obtain ⟨p1', ws, A0, S, ep, io, os, m1, dA, up⟩ := cellUp a0.rel a1 hx1 hu hg1 hv1
              cases ep
              have l1 := a1.rel.lkOwn m1
              obtain ⟨ioH, ioA⟩ := io
              have os' := os.os (os.nown n.1.1)
              obtain ⟨w', g1, g2⟩ := os'.get hy
              rw [os.length] at hm
              refine ⟨p0, ws, z, m, w', rfl, by rw [vk.int], l1.1.trans ioH, by omega, by omega, (ixN_seq hm).1, g1, ?_⟩
              obtain ⟨c', a', e1, e2, l3, l4⟩ := up .lst (xs.eraseIdx m) (ws.eraseIdx m) [] (.lst (ws.eraseIdx m)) ⟨upd_same, ioA⟩ (fun b m => by cases m) fun F' G' lf lg k => ((os'.eraseIdx m).le lf lg).owns
              have aa : Aft (kc X B) B (ms ++ [i]) [] c σ c' := by
                have := a0.trans a'
                simpa using this
              have := p1 w' c' aa e1 (.inr (g2.le l3 l4 fun _ m => by cases m))
              rw [l1.2, ← e2]; exact this
            · exact p1.elim
          · exact p1.elim
        · rw [if_neg n] at p1; exact p1.elim
      · exact p1.elim
    · exact h.elim
  · exact h.elim
/-- o.insert(k, y) -/
def eInsert (i : Nat) (fl : St → Option (List Nat)) (fk fy : St → Rs PV) (s : St) : Rs PV := match fl s with
  | some q => match lstAt s i q with
    | some _ => (fk s).bind fun k s0 => (fy s0).bind fun y s1 => match k, lstAt s1 i q with
      | .int z, some (x, xs) => if PV.nowns xs && y.nown && decide (0 ≤ z) && decide (z < 2 ^ 62) && decide (xs.length < sizeLine) then .ok .non (s1.set i (some (setP x q (.cell .own .lst (xs.take z.toNat ++ [y] ++ xs.drop z.toNat))))) else .bad
      | _, _ => .bad
    | none => .bad
  | none => .bad
theorem ve_insert (ho : VL X B W i o fl) (hk : VE X B W ma a fa) (hy : VE X B W mb b fb) (hst : Stb fl i (ma ++ mb)) (hbase : attributeBase o "insert" X.env (eval o X.env) = eval o X.env := by rfl)
    (hfew : ((backTo cpos (starEach (a :: [b]) X.env)).all (fun x => !x.1) && (backToKw cpos (keywordEach [] X.env)).all (fun x => x.1.isSome) && decide ((a :: [b]).length + ([] : List Keyword).length + (if ([] : List Keyword).isEmpty then 0 else 1) < 30)) = true := by rfl)
    (hline : (apos.endLine == cpos.line) = true := by rfl) (hs : starEach (a :: [b]) X.env = (false, eval a X.env) :: starEach [b] X.env := by rfl) (hs2 : starEach (b :: []) X.env = (false, eval b X.env) :: starEach [] X.env := by rfl) (hplain : (backTo cpos (starEach [b] X.env)).any (·.1) = false := by rfl) :
    VE X B W (ma ++ mb ++ [i]) (.Call (.Attribute o "insert" apos) [a, b] [] cpos) (eInsert i fl fa fb) := by
  refine pe_imp (pe_bm PySem.F.plainAttrs_list PySem.F.slot_list_insert PySem.F.type_list_insert mt_insert ho (pa_cons hk (pa_cons hy pa_nil hs2) hs) hbase hfew hline hs hplain) fun σ H Q ⟨c, e, R, h⟩ => ?_
  subst e
  unfold eInsert at h
  split at h
  · rename_i q hq
    split at h
    · rename_i q0 h0
      obtain ⟨x0, xs0⟩ := q0
      obtain ⟨hx0, hg0⟩ := lstAt_ok h0
      refine evL_run R hq fun v u c0 a0 e0 hu hv => ?_
      have hx0' := hx0
      rw [← e0] at hx0'
      obtain ⟨p0, ws0, A00, S0, rfl, io0, _, m0, _, _⟩ := cellUp R a0 hx0' hu hg0 hv
      have l0 := a0.rel.lkOwn m0
      refine ⟨.inl ⟨rfl, _, .inl (.inl (l0.1.trans io0.1))⟩, ?_⟩
      rw [← e0] at h
      show evE (kc X B) B W ma fa σ (c0.R B) _
      refine evE_run a0.rel (Rs.post_bind h) fun k w c1 a1 vk p1 => ?_
      show evE (kc X B) B W mb fb σ (c1.R B) _
      refine evE_run a1.rel (Rs.post_bind p1) fun y wy c2 a2 vy p2 => ?_
      have a12 : Aft (kc X B) B (ma ++ mb) [] c0 σ c2 := by simpa using a1.trans a2
      split at p2
      · rename_i z x xs h1
        obtain ⟨hx1, hg1⟩ := lstAt_ok h1
        by_cases n : (PV.nowns xs && y.nown && decide (0 ≤ z) && decide (z < 2 ^ 62) && decide (xs.length < sizeLine)) = true
        · rw [if_pos n] at p2
          simp only [Bool.and_eq_true, decide_eq_true_eq] at n
          have hv1 := stay a0.rel a12 (hst.at hq) hu hv hx1 hg1
          obtain ⟨p1', ws, A0, S, ep, io, os, m1, dA, up⟩ := cellUp a0.rel a12 hx1 hu hg1 hv1
          cases ep
          have l1 := a2.rel.lkOwn m1
          obtain ⟨ioH, ioA⟩ := io
          have os' := os.os (os.nown n.1.1.1.1)
          have oy : Own (kc X B) (c2.F B.D) c2.G c2.H y wy [] := by
            rcases vy with ⟨j, rfl, _⟩ | o
            · exact (Bool.noConfusion n.1.1.1.2)
            · exact o
          refine ⟨p0, ws, z, wy, rfl, by rw [vk.int], l1.1.trans ioH, by rw [← os.length]; exact n.2, n.1.1.2, by omega, ?_⟩
          obtain ⟨c', a', e1, e2, l3, l4⟩ := up .lst (xs.take z.toNat ++ [y] ++ xs.drop z.toNat) (ws.take z.toNat ++ [wy] ++ ws.drop z.toNat) [] (.lst (ws.take z.toNat ++ [wy] ++ ws.drop z.toNat)) ⟨upd_same, ioA⟩ (fun b m => by cases m) fun F' G' lf lg k => ((((os'.take z.toNat).append (.cons oy .nil)).append (os'.drop z.toNat)).le lf lg).owns
          have aa : Aft (kc X B) B (ma ++ mb ++ [i]) [] c σ c' := by
            have := a0.trans a'
            simpa using this
          have := p2 .non c' aa e1 (.inr .non)
          rw [l1.2, ← e2]; exact this
        · rw [if_neg n] at p2; exact p2.elim
      · exact p2.elim
    · exact h.elim
  · exact h.elim
/-- list(range(n)) -/
def fListR (fa : St → Rs PV) (s : St) : Rs PV := (fa s).bind fun x s1 => match x with
  | .int z => if 0 ≤ z ∧ z ≤ 10000000 then .ok (.cell .own .lst (rangeI 0 z.toNat)) s1 else .bad
  | _ => .bad
theorem vf_listR (hc : X.calm = true) (hm : X.mg "list" = none) (hm2 : X.mg "range" = none) (ha : VE X B W ms a fa) (hg : Gl X "list") (hg2 : Gl X "range") (na : starEach [a] X.env = (false, eval a X.env) :: starEach [] X.env := by rfl) (na2 : starEach [.Call (.Name "range" p2) [a] [] cpos] X.env = (false, eval (.Call (.Name "range" p2) [a] [] cpos) X.env) :: starEach [] X.env := by rfl) :
    VF X B W ms (.Call (.Name "list" p) [.Call (.Name "range" p2) [a] [] cpos] [] pos) (fListR fa) := by
  refine pe_imp (pe_listRg hc hg hm (prg_1 hg2 hm2 ha na) na2) fun σ H Q ⟨c, e, R, h⟩ => ?_
  subst e
  show evE (kc X B) B W ms fa σ (c.R B) fun x H1 => ∃ n : Int, x = .int n ∧ RgOk 0 n ∧ ∀ q, H1 q = none → Q (.ref q) (upd H1 q (.lst (rgV 0 n)))
  refine evE_run R (Rs.post_bind h) fun x v c1 a1 vx p1 => ?_
  split at p1
  · rename_i z
    by_cases n : 0 ≤ z ∧ z ≤ 10000000
    · rw [if_pos n] at p1
      refine ⟨z, vx.int, ?_⟩
      refine ⟨RgOk.of_le (Int.le_refl _) (by omega) (by omega) n.1, fun t ht => ?_⟩
      obtain ⟨ht, hl⟩ := a1.rel.lkNew ht
      have eq : rgV 0 z = (List.range z.toNat).map fun (i : Nat) => V.int (0 + (i : Int)) := by unfold rgV; rw [Int.sub_zero]
      have os : Os (kc X B) (c1.F B.D) c1.G c1.H (rangeI 0 z.toNat) (rgV 0 z) := by
        rw [eq]
        unfold rangeI
        have key : ∀ l : List Nat, Os (kc X B) (c1.F B.D) c1.G c1.H (l.map fun (i : Nat) => PV.int (0 + (i : Int))) (l.map fun (i : Nat) => V.int (0 + (i : Int))) := by
          intro l
          induction l with
          | nil => exact .nil
          | cons n l ih => exact .cons (.int _) ih
        exact key _
      obtain ⟨c2, a2, e3, e4, o⟩ := a1.newL ht os
      have := p1 (.ref t) [t] c2 a2 e3 o
      rw [lk_upd hl, ← e4]; exact this
    · rw [if_neg n] at p1; exact p1.elim
  · exact p1.elim
end
end Z

/-! Tables of classes. -/
namespace Z
open PySem PySem.Spec PyProof.Rows L2
theorem itOf {K : PySem.W.Frag} {C : Str → Addr} {l : List (CT × CT × Bool)} (h : ∀ e ∈ l, PySem.W.kitOne K (e.1.val C) (e.2.1.val C) = some e.2.2) (hx : ∀ e ∈ l, ∀ n, e.1 = .own n → ExcC K (C n)) : IT K C (fun t c => (l.find? fun e => decide (e.1 = t) && decide (e.2.1 = c)).map (·.2.2)) := by
  have key : ∀ t c b, (l.find? fun e => decide (e.1 = t) && decide (e.2.1 = c)).map (·.2.2) = some b → ∃ e ∈ l, e.1 = t ∧ e.2.1 = c ∧ e.2.2 = b := by
    intro t c b q
    cases z : l.find? (fun e => decide (e.1 = t) && decide (e.2.1 = c)) with
    | none => rw [z] at q; cases q
    | some e =>
      rw [z] at q; cases q
      have := List.find?_some z
      simp only [Bool.and_eq_true, decide_eq_true_eq] at this
      exact ⟨e, List.mem_of_find?_eq_some z, this.1, this.2, rfl⟩
  refine ⟨fun t c b q => ?_, fun n c b q => ?_⟩
  · obtain ⟨e, m, e1, e2, e3⟩ := key t c b q
    have := h e m
    rw [e1, e2, e3] at this; exact this
  · obtain ⟨e, m, e1, e2, e3⟩ := key _ c b q
    exact hx e m n e1
theorem xtOf {K : PySem.W.Frag} {C : Str → Addr} {l : List (CT × Str × Bool)} (h : ∀ e ∈ l, PySem.W.exmOne K (.ref (C e.2.1)) (e.1.val C) = some e.2.2) : ∀ c n b, (l.find? fun e => decide (e.1 = c) && decide (e.2.1 = n)).map (·.2.2) = some b → PySem.W.exmOne K (.ref (C n)) (c.val C) = some b := by
  intro t c b q
  cases z : l.find? (fun e => decide (e.1 = t) && decide (e.2.1 = c)) with
  | none => rw [z] at q; cases q
  | some e =>
    rw [z] at q; cases q
    have hs := List.find?_some z
    simp only [Bool.and_eq_true, decide_eq_true_eq] at hs
    have := h e (List.mem_of_find?_eq_some z)
    rw [hs.1, hs.2] at this; exact this
theorem kit_refT {K : PySem.W.Frag} {C : Addr} {t : Value} (hd : PySem.W.hasDictIn K C = true) (ht : PySem.W.typeIn K (.ref C) = some (.type "type")) (h : PySem.W.subIn K t (.ref C) = some true) : PySem.W.kitOne K t (.ref C) = some true := by
  unfold PySem.W.kitOne
  split
  · rfl
  · obtain ⟨cd, hc, _⟩ := PySem.W.any_some hd
    show (if ((PySem.W.clsIn K C).isSome && PySem.W.typeIn K (.ref C) == some (.type "type")) = true then PySem.W.subIn K t (.ref C) else none) = _
    rw [hc, ht, if_pos (by rfl)]; exact h
theorem kit_refF {K : PySem.W.Frag} {C : Addr} {t : Value} (ne : (t == .ref C) = false) (hd : PySem.W.hasDictIn K C = true) (ht : PySem.W.typeIn K (.ref C) = some (.type "type")) (h : PySem.W.subIn K t (.ref C) = some false) : PySem.W.kitOne K t (.ref C) = some false := by
  unfold PySem.W.kitOne
  rw [ne, if_neg (by simp)]
  obtain ⟨cd, hc, _⟩ := PySem.W.any_some hd
  show (if ((PySem.W.clsIn K C).isSome && PySem.W.typeIn K (.ref C) == some (.type "type")) = true then PySem.W.subIn K t (.ref C) else none) = _
  rw [hc, ht, if_pos (by rfl)]; exact h
theorem kit_tyC {K : PySem.W.Frag} {D : Addr} {T : String} {b : Bool} (hm : PySem.W.kitMeta T = true) (h : PySem.W.subIn K (.ref D) (.type T) = some b) : PySem.W.kitOne K (.ref D) (.type T) = some b := by
  show (if PySem.W.kitMeta T = true then PySem.W.subIn K (.ref D) (.type T) else none) = _
  rw [if_pos hm]; exact h
end Z

/-! dicts compared, their values data. -/
namespace Z
open PySem PySem.Spec PyProof.Rows L2
inductive DRow (K : PySem.W.Frag) (H : Hp) : List (Key × V) → List (Key × PyData) → Prop
  | nil : DRow K H [] []
  | cons {k : Key} {v : V} {d : PyData} {r : List (Key × V)} {ds : List (Key × PyData)} : Dp K H v d → SeqAt.shaped d = true → DRow K H r ds → DRow K H ((k, v) :: r) ((k, d) :: ds)
def hitsB (kb : List (Key × PyData)) (ka : List (Key × PyData)) : Bool := ka.all fun p => match valA kb p.1 with
  | some e => PyData.eqv p.2 e
  | none => false
theorem DRow.len {K : PySem.W.Frag} {H : Hp} {ls : List (Key × V)} {db : List (Key × PyData)} (h : DRow K H ls db) : ls.length = db.length := by
  induction h with
  | nil => rfl
  | cons _ _ _ ih => simp [ih]
theorem DRow.val {K : PySem.W.Frag} {H : Hp} {ls : List (Key × V)} {db : List (Key × PyData)} (h : DRow K H ls db) (k : Key) : (valV ls k = none ∧ valA db k = none) ∨ ∃ v d, valV ls k = some v ∧ valA db k = some d ∧ Dp K H v d ∧ SeqAt.shaped d = true := by
  induction h with
  | nil => exact .inl ⟨rfl, rfl⟩
  | @cons j v d r ds h1 h2 _ ih =>
    by_cases e : j = k
    · exact .inr ⟨v, d, by simp [valV, e], by simp [valA, e], h1, h2⟩
    · rcases ih with ⟨i1, i2⟩ | ⟨v', d', i1, i2, i3, i4⟩
      · exact .inl ⟨by rw [← i1]; simp [valV, e], by rw [← i2]; simp [valA, e]⟩
      · exact .inr ⟨v', d', by rw [← i1]; simp [valV, e], by rw [← i2]; simp [valA, e], i3, i4⟩
theorem DRow.of {K : PySem.W.Frag} {H : Hp} : ∀ {ks : List Key} {ws : List V} {ds : List PyData}, ks.length = ws.length → DpAll K H ws ds → ds.all SeqAt.shaped = true → DRow K H (ks.zip ws) (ks.zip ds)
  | [], ws, ds, _, _, _ => by simp; exact .nil
  | k :: ks, [], ds, h, _, _ => by simp at h
  | k :: ks, w :: ws, ds, h, hd, hs => by
    cases hd with
    | cons h1 h2 =>
      rw [List.all_cons] at hs
      have hs := Bool.and_eq_true_iff.mp hs
      exact .cons h1 hs.1 (DRow.of (by simpa using h) h2 hs.2)
section
variable {X : Cx} {pins : List (Addr × Obj)} {σ : L2.St} {H : Hp} {s : Shared}
theorem hits_rows (I : Inv X pins σ H s) (hu : X.A.in1.units + 64 < cLine) {ls : List (Key × V)} {vb : List (Key × Value)} {db : List (Key × PyData)} (rb : KV ls vb) (eb : DRow X.K H ls db) {ks : List (Key × V)} {va : List (Key × Value)} (ra : KV ks va) : ∀ {da : List (Key × PyData)}, DRow X.K H ks da → PySem.W.KeqHits X.A.in1 s vb va (hitsB db da) := by
  unfold KV at ra
  induction ra with
  | nil => intro da e; cases e; exact .nil
  | @cons p q ps qs h t ih =>
    intro da e
    obtain ⟨h1, h2⟩ := h
    obtain ⟨pk, pv⟩ := p
    obtain ⟨k, v⟩ := q
    obtain rfl : pk = k := h1
    cases e with
    | @cons _ _ d _ ds e1 e2 e3 =>
      have rr := rb.val pk
      rcases eb.val pk with ⟨i1, i2⟩ | ⟨v', d', i1, i2, i3, i4⟩
      · rw [i1] at rr
        have : hitsB db ((pk, d) :: ds) = false := by simp [hitsB, i2]
        rw [this]
        refine .miss ?_
        cases z : valueAt vb pk with
        | none => rfl
        | some y => rw [z] at rr; exact (show False from rr).elim
      · rw [i1] at rr
        obtain ⟨y, hy, ry⟩ := rr.some_of
        have : hitsB db ((pk, d) :: ds) = (PyData.eqv d d' && hitsB db ds) := by simp [hitsB, i2]
        rw [this]
        obtain ⟨as, r1⟩ := Dp.reads I d pv v e1 h2
        obtain ⟨bs, r2⟩ := Dp.reads I d' v' y i3 ry
        exact .hit hy (PySem.W.keq_at (A := X.A) r1 r2 e2 i4 hu) (ih e3)
end
def rEqDG (K : PySem.W.Frag) (f : Bool → Bool) : R2 := fun x y H Q => ∃ a b ks ls da db, x = .ref a ∧ y = .ref b ∧ Rd H a (.dK ks) ∧ Rd H b (.dK ls) ∧ DRow K H ks da ∧ DRow K H ls db ∧ Q (.bl (f (decide (da.length = db.length) && hitsB db da))) H
section
variable {X : Cx} {B : Bs} {W : WZ} {ms ma mb mc : List Nat} {a b d e o : Expr} {fa fb fc : St → Rs PV} {pos p p2 : Pos}
theorem op_eqDG (hu : X.A.in1.units + 64 < cLine) (hu0 : X.A.units < cLine) : OpR X (compareOp .Eq) (rEqDG X.K id) := by
  intro pins s σ H x y v u Q I rx ry h
  obtain ⟨a, b, ks, ls, da, db, rfl, rfl, ea, eb, ra', rb', q⟩ := h
  obtain rfl : v = Value.ref a := rx
  obtain rfl : u = Value.ref b := ry
  obtain ⟨_, ya, va, ra, da'⟩ := (show ObjOk X.prog X.w H s.heap a (.dK ks) from ea.ok I.hok)
  obtain ⟨_, yb, vb, rb, db'⟩ := (show ObjOk X.prog X.w H s.heap b (.dK ls) from eb.ok I.hok)
  have l1 := ra'.len
  have l2 := rb'.len
  have l3 := ra.length
  have l4 := rb.length
  exact PySem.W.keq_eq (knd := mixKind X.prog X.w) (r := hitsB db da) ya yb da' db' hu0 (fun _ => hits_rows I hu rb rb' ra ra') (fin_bl I q (by rw [← l1, ← l2, l3, l4]; rfl))
theorem op_neDG (hu : X.A.in1.units + 64 < cLine) (hu0 : X.A.units < cLine) : OpR X (compareOp .NotEq) (rEqDG X.K not) := by
  intro pins s σ H x y v u Q I rx ry h
  obtain ⟨a, b, ks, ls, da, db, rfl, rfl, ea, eb, ra', rb', q⟩ := h
  obtain rfl : v = Value.ref a := rx
  obtain rfl : u = Value.ref b := ry
  obtain ⟨_, ya, va, ra, da'⟩ := (show ObjOk X.prog X.w H s.heap a (.dK ks) from ea.ok I.hok)
  obtain ⟨_, yb, vb, rb, db'⟩ := (show ObjOk X.prog X.w H s.heap b (.dK ls) from eb.ok I.hok)
  have l1 := ra'.len
  have l2 := rb'.len
  have l3 := ra.length
  have l4 := rb.length
  exact PySem.W.keq_ne (knd := mixKind X.prog X.w) (r := hitsB db da) ya yb da' db' hu0 (fun _ => hits_rows I hu rb rb' ra ra') (fin_bl I q (by rw [← l1, ← l2, l3, l4]; rfl))
def eqDD (ka : List Key) (da : List PyData) (kb : List Key) (db : List PyData) : Bool := decide (ka.length = kb.length) && hitsB (kb.zip db) (ka.zip da)
def gEqDc (f : Bool → Bool) : G2 := fun s x y => match look s x, look s y with
  | .cell _ (.dK ka) xs, .cell _ (.dK kb) ys => match PV.toDs xs, PV.toDs ys with
    | some da, some db => if da.all SeqAt.shaped && db.all SeqAt.shaped && decide (ka.length = da.length) && decide (kb.length = db.length) then some (.bl (f (eqDD ka da kb db))) else none
    | _, _ => none
  | _, _ => none
theorem Owns.dps {K : KC} {F G H Hr : Hp} (lf : Le F H) (lg : Le G H) (hl : ∀ a ws, SqL K.k H a ws → SqL K.k Hr a ws) (ht : ∀ a ws, SqT K.k H a ws → SqT K.k Hr a ws) : ∀ {xs : List PV} {vs : List V} {ds : List PyData} {A : List Addr}, Owns K F G H xs vs A → PV.toDs xs = some ds → DpAll K.k Hr vs ds
  | [], vs, ds, A, h, e => by cases h; cases e; exact .nil
  | x :: xs, vs, ds, A, h, e => by
    cases h with
    | cons a b _ =>
      cases q1 : x.toD with
      | none => rw [PV.toDs, q1] at e; cases e
      | some d =>
        cases q2 : PV.toDs xs with
        | none => rw [PV.toDs, q1, q2] at e; cases e
        | some ds => rw [PV.toDs, q1, q2] at e; cases e; exact .cons (a.dp lf lg hl ht _ _ d _ q1) (Owns.dps lf lg hl ht b q2)
theorem dzip_len {ks : List Key} {ds : List PyData} (h : ks.length = ds.length) : (ks.zip ds).length = ks.length := by simp [h]
theorem pop_eqDc (f : Bool → Bool) : POp X B (rEqDG X.K f) (gEqDc f) := by
  intro c σ x y z v w Q R hx hy g k
  unfold gEqDc at g
  split at g
  · rename_i f1 ka xs f2 kb ys e1 e2
    split at g
    · rename_i da db q1 q2
      split at g
      · rename_i n
        cases g
        have n := Bool.and_eq_true_iff.mp n
        have n4 := of_decide_eq_true n.2
        have n := Bool.and_eq_true_iff.mp n.1
        have n3 := of_decide_eq_true n.2
        have n := Bool.and_eq_true_iff.mp n.1
        obtain ⟨a, ws, A0, S, rfl, h2, h3⟩ := R.cellOf hx e1
        obtain ⟨b, us, A1, S1, rfl, i2, i3⟩ := R.cellOf hy e2
        have d1 := h3.dps F_le G_le (fun _ _ => R.lkSqL) (fun _ _ => R.lkSqT) q1
        have d2 := i3.dps F_le G_le (fun _ _ => R.lkSqL) (fun _ _ => R.lkSqT) q2
        refine ⟨a, b, _, _, ka.zip da, kb.zip db, rfl, rfl, lk_rd h2.1, lk_rd i2.1, DRow.of h2.2.1 d1 n.1, DRow.of i2.2.1 d2 n.2, ?_⟩
        rw [dzip_len n3, dzip_len n4]
        exact k _ c.H (Le.refl _) (.bl _)
      · cases g
    · cases g
  · cases g
theorem room1 {k : Nat} (hr : Room k X.A) : X.A.in1.units + 64 < cLine := by have := hr.un; show X.A.units + 1 + 64 < cLine; omega
theorem ve_eqDc {k : Nat} (hr : Room k X.A) (ha : VE X B W ma a fa) (hb : VE X B W mb b fb) : VE X B W (ma ++ mb) (.Compare a [.Eq] [b] pos) (e2 (gEqDc id) fa fb) := ve_cmp (op_eqDG (room1 hr) (by have := hr.units; omega)) (pop_eqDc id) ha hb (nomark _)
theorem ve_neDc {k : Nat} (hr : Room k X.A) (ha : VE X B W ma a fa) (hb : VE X B W mb b fb) : VE X B W (ma ++ mb) (.Compare a [.NotEq] [b] pos) (e2 (gEqDc not) fa fb) := ve_cmp (op_neDG (room1 hr) (by have := hr.units; omega)) (pop_eqDc not) ha hb (nomark _)
theorem vt_eqDc {k : Nat} (hr : Room k X.A) (ha : VE X B W ma a fa) (hb : VE X B W mb b fb) : VT X B W (ma ++ mb) (.Compare a [.Eq] [b] pos) (tB (e2 (gEqDc id) fa fb)) := vt_cmp (op_eqDG (room1 hr) (by have := hr.units; omega)) (pop_eqDc id) ha hb (nomark _)
theorem vt_neDc {k : Nat} (hr : Room k X.A) (ha : VE X B W ma a fa) (hb : VE X B W mb b fb) : VT X B W (ma ++ mb) (.Compare a [.NotEq] [b] pos) (tB (e2 (gEqDc not) fa fb)) := vt_cmp (op_neDG (room1 hr) (by have := hr.units; omega)) (pop_eqDc not) ha hb (nomark _)
end
end Z

/-! Calls of own functions with places; slices and sums of tuples. -/
namespace Z
open PySem PySem.Spec PyProof.Rows L2
section
variable {X : Cx} {B : Bs} {W : WZ} {ms ma mb mc : List Nat} {a b d e o : Expr} {es : List Expr} {fa fb fc : St → Rs PV} {pos p p2 apos cpos : Pos} {ga : St → Rs (List PV)}
theorem vf_callP (mm : List Nat) {x : Str} {k : Nat} {mu : List Bool} {run : List PV → Fr} (F : Fn X.prog X.w (kc X B) X.mg X.base x k mu run) (hr : Room k X.A) (tk : Takes X (WP (kc X B) B W)) (ha : VPA X B W (e :: es) ga) (hg : Gl X x) (hdb : (x == ("__debug__" : Str)) = false := by decide)
    (he : starEach (e :: es) X.env = (false, eval e X.env) :: starEach es X.env := by rfl) (hpl : (backTo pos (starEach es X.env)).any (·.1) = false := by rfl) : VF X B W mm (.Call (.Name x p) (e :: es) [] pos) (callF mm mu run ga) := by
  obtain ⟨f, fd, ps, gm, kp, bd, ok⟩ := F.ex
  refine pe_imp (pe_callS (E := WE (WP (kc X B) B W)) ok hr hg gm kp bd (fun σ => passAt tk σ) ha hdb he hpl) fun σ H Q ⟨c, e, R, h⟩ => ?_
  subst e
  refine evPA_run R (Rs.post_bind h) fun xs vs c1 a1 v1 p1 => ?_
  split at p1
  · rename_i zs ea
    by_cases n : (okLocs mu xs && (mutSlots mu xs).all (fun i => mm.contains i)) = true
    · rw [if_pos n] at p1
      have n := Bool.and_eq_true_iff.mp n
      exact call_end a1 v1 ea n.1 n.2 p1
    · rw [if_neg n] at p1; exact p1.elim
  · exact p1.elim
/-- t[lo:hi], not the whole -/
def gCutT (s : St) (x : PV) (l u : Option Int) : Option PV := match look s x with
  | .tup xs => if PV.nowns xs && !(decide (HT.sIx xs.length 0 l = 0) && decide (HT.sIx xs.length xs.length u = xs.length)) then some (.tup (cutA xs l u)) else none
  | _ => none
def eCutT (f : St → Rs PV) (lo hi : St → Rs (Option Int)) (s : St) : Rs PV := (f s).bind fun x s1 => (lo s1).bind fun l s2 => (hi s2).bind fun u s3 => ofO (gCutT s3 x l u) s3
theorem ve_sliceT {lo hi : Option Expr} {fl fh : St → Rs (Option Int)} (h : VE X B W ma e fa) (hl : VO X B W mb lo fl) (hh : VO X B W mc hi fh) : VE X B W (ma ++ mb ++ mc) (.Subscript e (.Slice lo hi none p2) pos) (eCutT fa fl fh) := by
  refine pe_imp (pe_slice sl_tup h hl hh) fun σ H Q ⟨c, e, R, h⟩ => ?_
  subst e
  refine evE_run R (Rs.post_bind h) fun x v c1 a1 v1 p1 => ?_
  refine evO_run a1.rel (Rs.post_bind p1) fun l c2 a2 p2 => ?_
  refine evO_run a2.rel (Rs.post_bind p2) fun u c3 a3 p3 => ?_
  obtain ⟨z, hz, p4⟩ := ofO_post p3
  have aa := (a1.trans a2).trans a3
  unfold gCutT at hz
  split at hz
  · rename_i xs e
    split at hz
    · rename_i n
      cases hz
      have n := Bool.and_eq_true_iff.mp n
      obtain ⟨q, ws, rfl, h1, r⟩ := a3.rel.tupOf ((v1.step a2.st).step a3.st) e n.1
      refine ⟨q, ws, rfl, a3.rel.lkSqT h1, ?_, fun t ht => ?_⟩
      · rw [← r.length]
        intro ⟨z1, z2⟩
        have := n.2
        simp [z1, z2] at this
      · obtain ⟨ht, hl⟩ := a3.rel.lkNew ht
        obtain ⟨a4, o4⟩ := aa.newT ht (r.cut l u)
        have := p4 (.ref t) _ a4 rfl (.inr o4)
        rw [lk_upd hl]; exact this
    · cases hz
  · cases hz
/-- t + u -/
def gAddT : G2 := fun s x y => match look s x, look s y with
  | .tup xs, .tup ys => if PV.nowns xs && PV.nowns ys && !xs.isEmpty && !ys.isEmpty && decide (xs.length + ys.length ≤ sizeLine) then some (.tup (xs ++ ys)) else none
  | _, _ => none
theorem Os.ne {K : KC} {F G H : Hp} {xs : List PV} {ws : List V} (r : Os K F G H xs ws) (h : xs.isEmpty = false) : ws ≠ [] := by
  intro z
  have := r.length
  rw [z] at this
  cases xs with
  | nil => cases h
  | cons _ _ => simp at this
theorem ve_addT (ha : VE X B W ma a fa) (hb : VE X B W mb b fb) : VE X B W (ma ++ mb) (.BinOp a .Add b pos) (e2 gAddT fa fb) := by
  refine pe_imp (pe_op op_catT ha hb) fun σ H Q ⟨c, e, R, h⟩ => ?_
  subst e
  refine evE_run R (Rs.post_bind h) fun x v c1 a1 v1 p1 => ?_
  refine evE_run a1.rel (Rs.post_bind p1) fun y w c2 a2 v2 p2 => ?_
  obtain ⟨z, hz, p3⟩ := ofO_post p2
  have aa := a1.trans a2
  unfold gAddT at hz
  split at hz
  · rename_i xs ys e1 e2
    split at hz
    · rename_i n
      cases hz
      simp only [Bool.and_eq_true, Bool.not_eq_true', decide_eq_true_eq] at n
      obtain ⟨⟨⟨⟨n1, n2⟩, n3⟩, n4⟩, n5⟩ := n
      obtain ⟨q, ws, rfl, h1, r⟩ := a2.rel.tupOf (v1.step a2.st) e1 n1
      obtain ⟨q2, us, rfl, h2, r2⟩ := a2.rel.tupOf v2 e2 n2
      refine ⟨q, q2, ws, us, rfl, rfl, a2.rel.lkSqT h1, a2.rel.lkSqT h2, r.ne n3, by rw [← r.length, ← r2.length]; exact n5, fun z => absurd z (r2.ne n4), fun _ t ht => ?_⟩
      obtain ⟨ht, hl⟩ := a2.rel.lkNew ht
      obtain ⟨a4, o4⟩ := aa.newT ht (r.append r2)
      have := p3 (.ref t) _ a4 rfl (.inr o4)
      rw [lk_upd hl]; exact this
    · cases hz
  · cases hz
end
end Z
/-! Walks over what is a list or a tuple. -/
namespace Z
open PySem PySem.Spec PyProof.Rows L2
section
variable {X : Cx} {tg : Expr}
/-- a list or a tuple is walked -/
def iLT (K : PySem.W.Frag) (te : TE) : TI := fun σ H R => te σ H fun x H1 => ∃ a, x = .ref a ∧ (((∃ xs, SqL K H1 a xs) ∧ R (Itl K a) H1) ∨ ((∃ xs, SqT K H1 a xs) ∧ R (Itt K a) H1))
theorem fresh_fp {pins : List (Addr × Obj)} {σ : L2.St} {H : Hp} {s : Shared} (I : Inv X pins σ H s) : ∀ b ∈ [s.heap.objs.size], FpOk X pins H b := by
  intro b m
  rw [List.mem_singleton] at m
  rw [m]
  exact I.fpOk (Nat.le_refl _) (I.hok.fresh (Nat.le_refl _))
theorem pi_LT {e : Expr} {te : TE} (he : PE X e te) : PI X tg e (iLT X.K te) :=
  ⟨fun pins s σ H R I q => thn (he.run pins s σ H _ I q) fun v s' hv => by
    obtain ⟨x, H', I', rel, a, rfl, q⟩ := hv
    obtain rfl : v = Value.ref a := rel
    have K' : ∀ o : Obj, Inv X pins σ H' { s' with heap := s'.heap.push o } := fun o => I'.kept (t' := s'.toks) fun b ob z => Heap.get?_push_of_some _ z
    rcases q with ⟨⟨xs, hx⟩, q⟩ | ⟨⟨xs, hx⟩, q⟩
    · obtain ⟨us, _, hl, _⟩ := I'.list hx
      exact wpAny_pyIter_list hl.isList ⟨_, [_], _, Itl X.K a, H', rfl, K' _, turn_list a _, ⟨_, Heap.get?_push_size _ rfl, rfl, rfl⟩, fresh_fp I', q⟩
    · obtain ⟨us, _, hl, _⟩ := I'.tuple hx
      exact wpAny_pyIter_tuple (items := us.toArray) hl ⟨_, [_], _, Itt X.K a, H', rfl, K' _, turn_tuple a _, ⟨_, Heap.get?_push_size _ rfl, rfl, rfl⟩, fresh_fp I', q⟩⟩
end
def seqOf2 : PV → Option (List PV)
  | .tup xs => if PV.nowns xs then some xs else none
  | x => itemsOf x
def iSeqF (f : St → Rs PV) (s : St) : Rs (List PV) := (f s).bind fun x s1 => match seqOf2 x with
  | some xs => .ok xs s1
  | none => .bad
theorem Vl.seq2 {K : KC} {B : Bs} {c : Cf} {σ : L2.St} {x : PV} {v : V} {xs : List PV} (h : Vl K B c σ x v) (e : seqOf2 x = some xs) : ∃ a ws, v = .ref a ∧ Os K (c.F B.D) c.G c.H xs ws ∧ ((∀ c' : Cf, Le c.G c'.G → SqL K.k c'.H a ws) ∨ (∀ c' : Cf, Le c.G c'.G → SqT K.k c'.H a ws)) := by
  by_cases t : ∃ ys, x = .tup ys
  · obtain ⟨ys, rfl⟩ := t
    unfold seqOf2 at e
    by_cases n : PV.nowns ys = true
    · simp only [n, if_true] at e
      cases e
      rcases h with ⟨i, z, _⟩ | h
      · cases z
      · cases h with
        | fz h =>
          cases h with
          | tup a b => exact ⟨_, _, rfl, b.osF, .inr fun c' l => G_le.sqT (l.sqT (FG_le.sqT a))⟩
        | bw h =>
          cases h with
          | tup a b => exact ⟨_, _, rfl, b.osB, .inr fun c' l => G_le.sqT (l.sqT a)⟩
        | tup a b => exact ⟨_, _, rfl, b.os (b.nown n), .inr fun c' l => .inl (.inl (G_le _ _ (l _ _ (FG_le _ _ a))))⟩
    · simp only [n] at e
      cases e
  · have e : itemsOf x = some xs := by
      cases x with
      | tup ys => exact absurd ⟨ys, rfl⟩ t
      | _ => exact e
    obtain ⟨a, ws, h1, h2, h3⟩ := h.items e
    exact ⟨a, ws, h1, h2, .inl h3⟩
section
variable {X : Cx} {B : Bs} {W : WZ} {ms mi mt me : List Nat} {tg iter elt e : Expr} {fa : St → Rs PV}
theorem src_at {K : KC} {B : Bs} {J : It} {c1 : Cf} {xs : List PV} {ws : List V} {G : Hp → Prop} (w : Walk J ws.length G (YAt ws)) (os : Os K (c1.F B.D) c1.G c1.H xs ws) (hG : ∀ c σ', Rel K B c σ' → (∃ A, Step A c1 c) → G (c.R B)) : Src K B J c1 xs := by
  refine ⟨G, YAt ws, by rw [os.length]; exact w, hG, fun i c' σ' u H' R' ⟨A, st⟩ hi y => ?_⟩
  obtain ⟨y1, y2⟩ := y
  subst y1
  have hz : xs[i]? = some xs[i] := List.getElem?_eq_getElem hi
  obtain ⟨u', h1, h2⟩ := os.get hz
  rw [y2] at h1
  cases h1
  exact ⟨c'.H, xs[i], rfl, Le.refl _, hz, h2.le st.F st.G fun _ m => by cases m⟩
theorem vi_seq (he : VE X B W ms iter fa) : VI X B W ms tg iter (iSeqF fa) := by
  refine ⟨fun pins s σ H R I ⟨c, e, Rl, h⟩ => (pi_LT (tg := tg) he).run pins s σ H R I ?_⟩
  subst e
  refine evE_run Rl (Rs.post_bind h) fun x v c1 a1 v1 p1 => ?_
  split at p1
  · rename_i xs hx
    obtain ⟨a, ws, rfl, os, q⟩ := v1.seq2 hx
    refine ⟨a, rfl, ?_⟩
    rcases q with q | q
    · exact .inl ⟨⟨ws, a1.rel.lkSqL (q c1 (Le.refl _))⟩, p1 _ c1 a1 rfl (src_at walk_list os fun c' σ' R' ⟨A, st⟩ => R'.lkSqL (q c' st.G))⟩
    · exact .inr ⟨⟨ws, a1.rel.lkSqT (q c1 (Le.refl _))⟩, p1 _ c1 a1 rfl (src_at walk_tup os fun c' σ' R' ⟨A, st⟩ => R'.lkSqT (q c' st.G))⟩
  · exact p1.elim
end
end Z

/-! xs[::-1]; list(range(a, b)). -/
namespace Z
open PySem PySem.Spec PyProof.Rows L2
theorem Os.rev {K : KC} {F G H : Hp} : ∀ {xs : List PV} {ws : List V}, Os K F G H xs ws → Os K F G H xs.reverse ws.reverse
  | [], _, h => by cases h; exact .nil
  | x :: xs, _, h => by
    cases h with
    | cons a b => rw [List.reverse_cons, List.reverse_cons]; exact (Os.rev b).append (.cons a .nil)
section
variable {X : Cx} {B : Bs} {W : WZ} {ms ma mb mc : List Nat} {a b d e o : Expr} {es : List Expr} {fa fb fc : St → Rs PV} {pos p p2 p1 p3 apos cpos : Pos} {k : Nat}
def gRev (s : St) (x : PV) : Option PV := match look s x with
  | .cell _ .lst xs => if PV.nowns xs then some (.cell .own .lst xs.reverse) else none
  | _ => none
def fRev (f : St → Rs PV) (s : St) : Rs PV := (f s).bind fun x s1 => ofO (gRev s1 x) s1
theorem vf_rev (h : VE X B W ma e fa) : VF X B W ma (.Subscript e (.Slice none none (some (.UnaryOp .USub (.Constant (.int 1) k p1) p2)) p3) pos) (fRev fa) := by
  refine pe_imp (pe_revL h) fun σ H Q ⟨c, e, R, h⟩ => ?_
  subst e
  refine evE_run R (Rs.post_bind h) fun x v c1 a1 v1 q1 => ?_
  obtain ⟨z, hz, q2⟩ := ofO_post q1
  unfold gRev at hz
  split at hz
  · rename_i f xs ex
    by_cases n : PV.nowns xs = true
    · rw [if_pos n] at hz; cases hz
      obtain ⟨q, ws, rfl, h1, r⟩ := a1.rel.lstOf v1 ex n
      refine ⟨q, ws, rfl, a1.rel.lkSqL (.inl (.inl h1)), fun t ht => ?_⟩
      obtain ⟨ht, hl⟩ := a1.rel.lkNew ht
      obtain ⟨c4, a4, e3, e4, o⟩ := a1.newL ht r.rev
      have := q2 _ _ c4 a4 e3 o
      rw [lk_upd hl, ← e4]; exact this
    · rw [if_neg n] at hz; cases hz
  · cases hz
/-- list(range(a, b)) -/
theorem os_rg {K : KC} {F G H : Hp} (lo : Int) : ∀ l : List Nat, Os K F G H (l.map fun (i : Nat) => PV.int (lo + (i : Int))) (l.map fun (i : Nat) => V.int (lo + (i : Int)))
  | [] => .nil
  | n :: l => .cons (.int _) (os_rg lo l)
def fListR2 (fa fb : St → Rs PV) (s : St) : Rs PV := (fa s).bind fun x s1 => (fb s1).bind fun y s2 => match x, y with
  | .int i, .int j => if 0 ≤ i ∧ i ≤ j ∧ j ≤ 10000000 then .ok (.cell .own .lst (rangeI i (j - i).toNat)) s2 else .bad
  | _, _ => .bad
theorem vf_listR2 (hc : X.calm = true) (hm : X.mg "list" = none) (hm2 : X.mg "range" = none) (ha : VE X B W ma a fa) (hb : VE X B W mb b fb) (hg : Gl X "list") (hg2 : Gl X "range") (na : starEach [a, b] X.env = (false, eval a X.env) :: starEach [b] X.env := by rfl) (nb : starEach [b] X.env = (false, eval b X.env) :: starEach [] X.env := by rfl) (hp : (backTo cpos (starEach [b] X.env)).any (·.1) = false := by rfl) (na2 : starEach [.Call (.Name "range" p2) [a, b] [] cpos] X.env = (false, eval (.Call (.Name "range" p2) [a, b] [] cpos) X.env) :: starEach [] X.env := by rfl) :
    VF X B W (ma ++ mb) (.Call (.Name "list" p) [.Call (.Name "range" p2) [a, b] [] cpos] [] pos) (fListR2 fa fb) := by
  refine pe_imp (pe_listRg hc hg hm (prg_2 hg2 hm2 ha hb na nb hp) na2) fun σ H Q ⟨c, e, R, h⟩ => ?_
  subst e
  show evE (kc X B) B W ma fa σ (c.R B) fun x H1 => evE (kc X B) B W mb fb σ H1 fun y H2 => ∃ i j : Int, x = .int i ∧ y = .int j ∧ RgOk i j ∧ ∀ q, H2 q = none → Q (.ref q) (upd H2 q (.lst (rgV i j)))
  refine evE_run R (Rs.post_bind h) fun x v c1 a1 vx q1 => ?_
  refine evE_run a1.rel (Rs.post_bind q1) fun y w c2 a2 vy q2 => ?_
  split at q2
  · rename_i i j
    by_cases n : 0 ≤ i ∧ i ≤ j ∧ j ≤ 10000000
    · rw [if_pos n] at q2
      refine ⟨i, j, vx.int, vy.int, RgOk.of_le (by omega) (by omega) (by omega) (by omega), fun t ht => ?_⟩
      obtain ⟨ht, hl⟩ := a2.rel.lkNew ht
      have os : Os (kc X B) (c2.F B.D) c2.G c2.H (rangeI i (j - i).toNat) (rgV i j) := by
        unfold rangeI rgV
        exact os_rg i _
      obtain ⟨c4, a4, e3, e4, o⟩ := (a1.trans a2).newL ht os
      have := q2 (.ref t) [t] c4 (by simpa using a4) e3 o
      rw [lk_upd hl, ← e4]; exact this
    · rw [if_neg n] at q2; exact q2.elim
  · exact q2.elim
end
end Z

/-! list(range(a, b, c)). -/
namespace Z
open PySem PySem.Spec PyProof.Rows L2
def rgC (i c : Int) (n : Nat) : List V := (List.range n).map fun k => V.int (i + (k : Nat) * c)
def RgC3 (i j c : Int) : Prop := 0 ≤ i ∧ i ≤ j ∧ j ≤ 1000000 ∧ 0 < c ∧ c ≤ 1000000
def rgN (i j c : Int) : Nat := (Builtin.Range.rangeSize i j c).toNat
theorem rgN_le {i j c : Int} (h : RgC3 i j c) : Builtin.Range.rangeSize i j c = rgN i j c ∧ rgN i j c ≤ 1000000 := by
  obtain ⟨h1, h2, h3, h4, h5⟩ := h
  have key : 0 ≤ Builtin.Range.rangeSize i j c ∧ Builtin.Range.rangeSize i j c ≤ 1000000 := by
    unfold Builtin.Range.rangeSize
    rw [if_pos h4]
    split
    · rename_i q
      have a1 : 0 ≤ (j - i - 1) / c := Int.ediv_nonneg (by omega) (by omega)
      have a2 : (j - i - 1) / c ≤ j - i - 1 := Int.ediv_le_self _ (by omega)
      omega
    · omega
  unfold rgN
  omega
theorem small_C {i j c : Int} (h : RgC3 i j c) : Builtin.Range.small i j c = true := by
  have hn := rgN_le h
  obtain ⟨h1, h2, h3, h4, h5⟩ := h
  unfold Builtin.Range.small
  rw [hn.1]
  simp only [Builtin.Range.rangeFitsLong, Bool.and_eq_true, Bool.or_eq_true, decide_eq_true_eq, beq_iff_eq]
  have hm : (rgN i j c : Int) * c ≤ 1000000 * 1000000 := Int.mul_le_mul (by omega) h5 (by omega) (by decide)
  have hm0 : 0 ≤ (rgN i j c : Int) * c := Int.mul_nonneg (by omega) (by omega)
  rw [if_pos h4]
  refine ⟨⟨⟨⟨⟨by omega, by omega⟩, by omega, by omega⟩, by omega, by omega⟩, by omega, by omega⟩, .inr ?_⟩
  simp only [Bool.and_eq_true, decide_eq_true_eq]
  omega
theorem vals_rgC {i c : Int} {n : Nat} {acc : Array Value} (h : ItemsOf (fun k v => ∃ t, v = .int (i + k * c) t) acc n) : Vals (rgC i c n) acc.toList := by
  have e : acc.toList.length = n := by rw [Array.length_toList]; exact h.1
  unfold rgC
  rw [← e]
  refine vals_of_get acc.toList _ fun j u hj => ?_
  obtain ⟨t, rfl⟩ := h.2 j u (by rw [← hj, Array.getElem?_toList])
  exact ⟨t, rfl⟩
def tLstRg3 (ta : TA) : TE := fun σ H Q => ta σ H fun vs H1 => ∃ i j c : Int, vs = [.int i, .int j, .int c] ∧ RgC3 i j c ∧ ∀ q, H1 q = none → Q (.ref q) (upd H1 q (.lst (rgC i c (rgN i j c))))
theorem pe_listRg3 {X : Cx} {a b c : Expr} {ta : TA} {p p2 pos cpos : Pos} (hc : X.calm = true) (hg : Gl X "list") (hm : X.mg "list" = none) (hg2 : Gl X "range") (hm2 : X.mg "range" = none) (ha : PA X [a, b, c] ta)
    (hs : starEach [a, b, c] X.env = (false, eval a X.env) :: starEach [b, c] X.env := by rfl) (hpl : (backTo cpos (starEach [b, c] X.env)).any (·.1) = false := by rfl)
    (na : starEach [Expr.Call (.Name "range" p2) [a, b, c] [] cpos] X.env = (false, eval (.Call (.Name "range" p2) [a, b, c] [] cpos) X.env) :: starEach [] X.env := by rfl) :
    PE X (.Call (.Name "list" p) [.Call (.Name "range" p2) [a, b, c] [] cpos] [] pos) (tLstRg3 ta) := by
  refine ⟨fun pins s σ H Q I h => ?_⟩
  refine Call_ (ld_blt I hg hm boot_list (PyProof.Rows.callWith_type1 (args_cons ?_ na) na))
  refine Call_ (ld_blt I hg2 hm2 boot_range (PyProof.Rows.callWith_type1 (thn (ha.run cpos pins s σ H _ I h) fun us s1 ⟨vs, H1, I1, r1, q1⟩ => ?_) hs hpl))
  obtain ⟨i, j, k, e, ok, q⟩ := q1
  subst e
  cases r1 with
  | cons r rr =>
    cases rr with
    | cons r' rr =>
      cases rr with
      | cons r'' rr =>
        cases rr
        obtain ⟨t, rfl⟩ := r
        obtain ⟨t', rfl⟩ := r'
        obtain ⟨t'', rfl⟩ := r''
        obtain ⟨k1, k2⟩ := rgN_le ok
        have sm := small_C ok
        obtain ⟨o1, o2, o3, o4, o5⟩ := ok
        refine call_range_3 (by omega) ?_ (.inl (PyProof.noPylong_small (by omega)))
        have I2 : Inv X pins σ H1 { s1 with heap := s1.heap.push { cls := .type "range", data := .fields #[.int i t, .int j t', .int k t''] } } := I1.kept (t' := s1.toks) fun b o e => Heap.get?_push_of_some _ e
        refine args_nil ?_
        refine call_list_range (n := rgN i j k) (I2.ok.hd hc) (IsRange.new ..) sm k1 (by omega) fun h' tk acc c' hk e' hi => ?_
        refine ⟨.ref _, upd H1 _ (.lst (rgC i k (rgN i j k))), I2.laid hk (Nat.le_refl _) (show ObjOk X.prog X.w _ _ _ (.lst (rgC i k (rgN i j k))) from ⟨?_, acc.toList, c', vals_rgC hi, ?_⟩), rfl, q _ (I2.hok.fresh (Nat.le_refl _))⟩
        · unfold rgC; rw [List.length_map, List.length_range, sizeLine_eq]; omega
        · rw [Array.toArray_toList]; exact e'
section
variable {X : Cx} {B : Bs} {W : WZ} {ms : List Nat} {a b d : Expr} {ga : St → Rs (List PV)} {pos p p2 cpos : Pos}
def rangeC (i c : Int) (n : Nat) : List PV := (List.range n).map fun (k : Nat) => .int (i + (k : Int) * c)
def fListR3 (ga : St → Rs (List PV)) (s : St) : Rs PV := (ga s).bind fun xs s1 => match xs with
  | [.int i, .int j, .int c] => if 0 ≤ i ∧ i ≤ j ∧ j ≤ 1000000 ∧ 0 < c ∧ c ≤ 1000000 then .ok (.cell .own .lst (rangeC i c (rgN i j c))) s1 else .bad
  | _ => .bad
theorem os_rgC {K : KC} {F G H : Hp} (i c : Int) : ∀ l : List Nat, Os K F G H (l.map fun (k : Nat) => PV.int (i + (k : Int) * c)) (l.map fun (k : Nat) => V.int (i + (k : Int) * c))
  | [] => .nil
  | n :: l => .cons (.int _) (os_rgC i c l)
theorem vf_listR3 (hc : X.calm = true) (hm : X.mg "list" = none) (hm2 : X.mg "range" = none) (ha : VA X B W ms [a, b, d] ga) (hg : Gl X "list") (hg2 : Gl X "range")
    (hs : starEach [a, b, d] X.env = (false, eval a X.env) :: starEach [b, d] X.env := by rfl) (hpl : (backTo cpos (starEach [b, d] X.env)).any (·.1) = false := by rfl)
    (na : starEach [Expr.Call (.Name "range" p2) [a, b, d] [] cpos] X.env = (false, eval (.Call (.Name "range" p2) [a, b, d] [] cpos) X.env) :: starEach [] X.env := by rfl) :
    VF X B W ms (.Call (.Name "list" p) [.Call (.Name "range" p2) [a, b, d] [] cpos] [] pos) (fListR3 ga) := by
  refine pe_imp (pe_listRg3 hc hg hm hg2 hm2 ha hs hpl na) fun σ H Q ⟨c, e, R, h⟩ => ?_
  subst e
  show evA (kc X B) B W ms ga σ (c.R B) fun vs H1 => ∃ i j c : Int, vs = [.int i, .int j, .int c] ∧ RgC3 i j c ∧ ∀ q, H1 q = none → Q (.ref q) (upd H1 q (.lst (rgC i c (rgN i j c))))
  refine evA_run R (Rs.post_bind h) fun xs vs c1 a1 v1 p1 => ?_
  split at p1
  · rename_i i j k
    by_cases n : 0 ≤ i ∧ i ≤ j ∧ j ≤ 1000000 ∧ 0 < k ∧ k ≤ 1000000
    · rw [if_pos n] at p1
      obtain ⟨u1, u2, u3, rfl, w1, w2, w3⟩ : ∃ u1 u2 u3, vs = [u1, u2, u3] ∧ Vl (kc X B) B c1 σ (.int i) u1 ∧ Vl (kc X B) B c1 σ (.int j) u2 ∧ Vl (kc X B) B c1 σ (.int k) u3 := by
        cases v1 with
        | cons y ys =>
          cases ys with
          | cons y2 ys2 =>
            cases ys2 with
            | cons y3 ys3 =>
              cases ys3
              exact ⟨_, _, _, rfl, y, y2, y3⟩
      refine ⟨i, j, k, by rw [w1.int, w2.int, w3.int], n, fun t ht => ?_⟩
      obtain ⟨ht, hl⟩ := a1.rel.lkNew ht
      obtain ⟨c4, a4, e3, e4, o⟩ := a1.newL ht (os_rgC (K := kc X B) (F := c1.F B.D) (G := c1.G) (H := c1.H) i k (List.range (rgN i j k)))
      have := p1 (.ref t) [t] c4 (by simpa using a4) e3 o
      have e5 : c4.H = upd c1.H t (HO.lst (rgC i k (rgN i j k))) := e4
      rw [lk_upd hl, ← e5]; exact this
    · rw [if_neg n] at p1; exact p1.elim
  · exact p1.elim
end
end Z

/-! d.copy(). -/
namespace Z
open PySem PySem.Spec PyProof.Rows L2
section
variable {X : Cx} {pins : List (Addr × Obj)} {σ : L2.St} {H : Hp} {s : Shared} {a : Addr} {kvs : List (Key × V)} {A : Around} {E : Value → Shared → Prop}
theorem d_copyM {Q : Value → Shared → Prop} (I : Inv X pins σ H s) (e : Rd H a (.dK kvs)) (h : ∀ p s', H p = none → Inv X pins σ (upd H p (.dK kvs)) s' → Q (.ref p) s') : wpAny (model X.prog X.w) A (call (.builtin "dict.copy") [.ref a]) Q E s := by
  obtain ⟨z, hd, vs, rel, dd⟩ := dk_rd I.hok e
  refine call_meetsIn PySem.F.slot_dict_copy dd.typeIs PySem.F.entry_dict_copy (PySem.F.args_dict_copy_1 _) (meets_dict_copy (mixKind X.prog X.w) a hd) ⟨vs, dd, by rw [← rel.length]; exact z, fun h' dd' _ hk => ?_⟩
  exact h _ _ (I.hok.fresh (Nat.le_refl _)) (I.laid (a := s.heap.objs.size) (o := .dK kvs) (t' := s.toks) (fun b q hq => hk b q hq) (Nat.le_refl _) (dk_new z (beq_eq_false_iff_ne.mpr (Ne.symm (Nat.ne_of_lt I.big))) rel dd'))
end
def tDCopy (to : TE) : TE := fun σ H Q => to σ H fun x H1 => ∃ (a : Addr) (kvs : List (Key × V)), x = .ref a ∧ Rd H1 a (.dK kvs) ∧ ∀ p, H1 p = none → Q (.ref p) (upd H1 p (.dK kvs))
theorem pe_dcopy {X : Cx} {o : Expr} {to : TE} {apos cpos : Pos} (ho : PE X o to) (hbase : attributeBase o "copy" X.env (eval o X.env) = eval o X.env := by rfl) (hline : (apos.endLine == cpos.line) = true := by rfl) :
    PE X (.Call (.Attribute o "copy" apos) [] [] cpos) (tDCopy to) := by
  refine ⟨fun pins s σ H Q I h => ?_⟩
  refine wpAny_Call_method0_late hbase hline (thn (ho.run pins s σ H _ I h) fun v s1 ⟨x, H1, I1, r1, a, kvs, ex, d, q1⟩ => ?_)
  subst ex
  obtain rfl : v = Value.ref a := r1
  obtain ⟨t1, t2, _⟩ := isD_at I1 (.inl ⟨kvs, d⟩)
  exact ⟨"dict", "dict.copy", PySem.F.plainAttrs_dict, PySem.F.slot_dict_copy, PySem.F.type_dict_copy, t1, t2, Calls.callWith_builtin rfl (PySem.evalArgs_none (d_copyM I1 d fun p s' hp I' => ⟨.ref p, _, I', rfl, q1 p hp⟩))⟩
def fDCopy (fa : St → Rs PV) (s : St) : Rs PV := (fa s).bind fun x s1 => ofO (cDictD s1 [x]) s1
theorem vf_dcopy {X : Cx} {B : Bs} {W : WZ} {ms : List Nat} {o : Expr} {fa : St → Rs PV} {apos cpos : Pos} (ho : VE X B W ms o fa) (hbase : attributeBase o "copy" X.env (eval o X.env) = eval o X.env := by rfl) (hline : (apos.endLine == cpos.line) = true := by rfl) :
    VF X B W ms (.Call (.Attribute o "copy" apos) [] [] cpos) (fDCopy fa) := by
  refine pe_imp (pe_dcopy ho hbase hline) fun σ H Q ⟨c, e, R, h⟩ => ?_
  subst e
  show evE (kc X B) B W ms fa σ (c.R B) fun x H1 => ∃ (a : Addr) (kvs : List (Key × V)), x = .ref a ∧ Rd H1 a (.dK kvs) ∧ ∀ p, H1 p = none → Q (.ref p) (upd H1 p (.dK kvs))
  refine evE_run R (Rs.post_bind h) fun x v c1 a1 v1 q1 => ?_
  obtain ⟨z, hz, q2⟩ := ofO_post q1
  obtain ⟨a, kvs, e1, e2, e3⟩ := fc_dictD (X := X) (B := B) ms c c1 σ [x] [v] z Q a1 (.cons v1 .nil) hz (fun w A c4 a4 e3 o => q2 w A c4 (by simpa using a4) e3 o)
  injection e1 with e1 _
  exact ⟨a, kvs, e1, e2, e3⟩
end Z

/-! {i: j}. -/
namespace Z
open PySem PySem.Spec PyProof.Rows L2
def fDisp1 (i j : Int) (s : St) : Rs PV := .ok (.cell .own (.dK [Sum.inl i]) [.int j]) s
theorem vf_disp1 {X : Cx} {B : Bs} {W : WZ} {i j : Int} {k k' : Nat} {p p' pos : Pos} : VF X B W [] (.Dict [some (.Constant (.int i) k p)] [.Constant (.int j) k' p'] pos) (fDisp1 i j) := by
  refine pe_imp (pe_disp (pps_cons pe_int pe_int pps_nil) rfl rfl (by simp) (by simp)) fun σ H Q ⟨c, e, R, h⟩ => ?_
  subst e
  intro t ht
  obtain ⟨ht, hl⟩ := R.lkNew ht
  refine ⟨upd_same, [(Sum.inl i, .int j)], rfl, by simp, ?_⟩
  have a2 := R.push (ms := []) (A := [t]) (H' := upd c.H t (.dK [(Sum.inl i, .int j)])) (upd_le ht) (fun x m => by cases List.mem_singleton.mp m; exact ht) (fun x m => by cases List.mem_singleton.mp m; exact ⟨_, upd_same, trivial⟩)
  have := h (.ref t) ([t] ++ []) { c with H := upd c.H t (.dK [(Sum.inl i, .int j)]), T := [t] ++ c.T } (by simpa using a2) rfl (.cell (t := .dK [Sum.inl i]) (ws := [.int j]) ⟨upd_same, rfl, by simp, rfl⟩ (.cons (.int j) .nil (by simp)) fun b m z => by cases z)
  have e : upd (upd (c.R B) t (.dK [])) t (.dK (mergeK [] [(Sum.inl i, .int j)])) = upd (c.R B) t (.dK [(Sum.inl i, .int j)]) := by
    funext a
    unfold upd
    by_cases q : a = t <;> simp [q, mergeK, putK]
  rw [e, show c.R B = lk B.L c.H from rfl, lk_upd hl]; exact this
end Z

/-! Lists compared whose items are data, or dicts of data with whole numbers as keys; only where they are alike. -/
namespace Z
open PySem PySem.Spec PyProof.Rows L2
def isInl : Key → Bool
  | .inl _ => true
  | .inr _ => false
def intK (ks : List Key) : Bool := ks.all isInl
theorem pairs_any {P P' : Program} {w w' : World} {es : List DictEntry} {kvs : List (Key × Value)} (h : Pairs (mixKind P w) es kvs) : Pairs (mixKind P' w') es kvs := by
  induction h with
  | nil => exact .nil
  | cons a b _ ih => exact .cons a b ih
theorem pairs_key {P : Program} {w : World} {es : List DictEntry} {kvs : List (Key × Value)} (h : Pairs (mixKind P w) es kvs) : ∀ e ∈ es, ∃ kv ∈ kvs, keyIs kv.1 e.key = true := by
  induction h with
  | nil => intro e m; cases m
  | cons a b _ ih =>
    intro e m
    rcases List.mem_cons.mp m with rfl | m
    · exact ⟨_, List.mem_cons_self, a⟩
    · obtain ⟨kv, q1, q2⟩ := ih e m
      exact ⟨kv, List.mem_cons_of_mem _ q1, q2⟩
theorem dictOf_any {P P' : Program} {w w' : World} {h : Heap} {a : Addr} {kvs : List (Key × Value)} (d : h.DictOf (mixKind P w) a kvs) (hi : intK (kvs.map (·.1)) = true) : h.DictOf (mixKind P' w') a kvs := by
  obtain ⟨o, es, ep, h1, h2, h3, h4, h5, h6⟩ := d
  refine ⟨o, es, ep, h1, h2, h3, fun e m => ?_, pairs_any h5, h6⟩
  obtain ⟨k, k1, k2⟩ := h4 e m
  obtain ⟨kv, q1, q2⟩ := pairs_key h5 e (Array.mem_toList_iff.mpr m)
  have hk : k = kv.1 := (mixKind P w).inj _ _ _ k1 q2
  have hin : isInl kv.1 = true := List.all_eq_true.mp hi kv.1 (List.mem_map_of_mem q1)
  refine ⟨k, k1, ?_⟩
  rw [k2, hk]
  cases hq : kv.1 with
  | inl i => rfl
  | inr x => rw [hq] at hin; cases hin
/-- two dicts that are alike, as items -/
theorem eqAt_dicts {P : Program} {w : World} {A : Around} {s : Shared} {a b : Addr} {ka kb : List (Key × Value)} (ha : (a == sysModules) = false) (hb : (b == sysModules) = false) (da : s.heap.DictOf (mixKind P w) a ka) (db : s.heap.DictOf (mixKind P w) b kb) (ia : intK (ka.map (·.1)) = true) (ib : intK (kb.map (·.1)) = true) (hu : A.units < cLine) (hl : ka.length = kb.length) (hits : PySem.W.KeqHits A.in1 s kb ka true) : SeqAt.EqAt A s (.ref a) (.ref b) true := by
  intro prog w2 E Q hq
  unfold eqBool
  refine wpAny_holding (wpAny_ite_split (fun _ => wpAny_bind (wpAny_rule (wpAny_pure hq))) fun _ => ?_)
  refine wpAny_bind ?_
  refine PySem.W.keq_eq (knd := mixKind prog w2) (r := true) ha hb (dictOf_any da ia) (dictOf_any db ib) hu (fun _ => hits) ?_
  rw [show (ka.length == kb.length && true) = true by simp [hl]]
  exact wpAny_truthy_bool hq
inductive PairT (K : PySem.W.Frag) (H : Hp) : V → V → Prop
  | data {v u : V} {d e : PyData} : Dp K H v d → Dp K H u e → SeqAt.shaped d = true → SeqAt.shaped e = true → PyData.eqv d e = true → PairT K H v u
  | dict {p q : Addr} {ks ls : List (Key × V)} {da db : List (Key × PyData)} : Rd H p (.dK ks) → Rd H q (.dK ls) → DRow K H ks da → DRow K H ls db → intK (ks.map (·.1)) = true → intK (ls.map (·.1)) = true → da.length = db.length → hitsB db da = true → PairT K H (.ref p) (.ref q)
theorem vals_at : ∀ {ws : List V} {its : List Value}, Vals ws its → ∀ {j : Nat} {v : Value}, its[j]? = some v → ∃ x, ws[j]? = some x ∧ RelV x v
  | _, _, .nil, j, v, h => by simp at h
  | _, _, .cons (a := x) r t, 0, v, h => by
    simp only [List.getElem?_cons_zero, Option.some.injEq] at h ⊢
    exact ⟨x, rfl, h ▸ r⟩
  | _, _, .cons r t, j + 1, v, h => by
    simp only [List.getElem?_cons_succ] at h ⊢
    exact vals_at t h
theorem kv_keys {ks : List (Key × V)} {vs : List (Key × Value)} (h : KV ks vs) : vs.map (·.1) = ks.map (·.1) := by
  unfold KV at h
  induction h with
  | nil => rfl
  | cons r _ ih => simp only [List.map_cons]; rw [ih, r.1]
section
variable {X : Cx} {pins : List (Addr × Obj)} {σ : L2.St} {H : Hp} {s : Shared}
theorem hits_rowsA {A : Around} (I : Inv X pins σ H s) (hu : A.in1.units + 64 < cLine) {ls : List (Key × V)} {vb : List (Key × Value)} {db : List (Key × PyData)} (rb : KV ls vb) (eb : DRow X.K H ls db) {ks : List (Key × V)} {va : List (Key × Value)} (ra : KV ks va) : ∀ {da : List (Key × PyData)}, DRow X.K H ks da → PySem.W.KeqHits A.in1 s vb va (hitsB db da) := by
  unfold KV at ra
  induction ra with
  | nil => intro da e; cases e; exact .nil
  | @cons p q ps qs h t ih =>
    intro da e
    obtain ⟨h1, h2⟩ := h
    obtain ⟨pk, pv⟩ := p
    obtain ⟨k, v⟩ := q
    obtain rfl : pk = k := h1
    cases e with
    | @cons _ _ d _ ds e1 e2 e3 =>
      have rr := rb.val pk
      rcases eb.val pk with ⟨i1, i2⟩ | ⟨v', d', i1, i2, i3, i4⟩
      · rw [i1] at rr
        have : hitsB db ((pk, d) :: ds) = false := by simp [hitsB, i2]
        rw [this]
        refine .miss ?_
        cases z : valueAt vb pk with
        | none => rfl
        | some y => rw [z] at rr; exact (show False from rr).elim
      · rw [i1] at rr
        obtain ⟨y, hy, ry⟩ := rr.some_of
        have : hitsB db ((pk, d) :: ds) = (PyData.eqv d d' && hitsB db ds) := by simp [hitsB, i2]
        rw [this]
        obtain ⟨as, r1⟩ := Dp.reads I d pv v e1 h2
        obtain ⟨bs, r2⟩ := Dp.reads I d' v' y i3 ry
        exact .hit hy (PySem.W.keq_at (A := A) r1 r2 e2 i4 hu) (ih e3)
theorem PairT.eqAt (I : Inv X pins σ H s) (hu : X.A.in1.in1.units + 64 < cLine) (hu1 : X.A.in1.units < cLine) {v u : V} {a b : Value} (h : PairT X.K H v u) (ra : RelV v a) (rb : RelV u b) : SeqAt.EqAt X.A.in1 s a b true := by
  cases h with
  | data h1 h2 h3 h4 h5 =>
    obtain ⟨as, r1⟩ := Dp.reads I _ v a h1 ra
    obtain ⟨bs, r2⟩ := Dp.reads I _ u b h2 rb
    have := PySem.W.keq_at (A := X.A) r1 r2 h3 h4 (by have : X.A.in1.units ≤ X.A.in1.in1.units := Nat.le_succ _; omega)
    rw [h5] at this
    exact this
  | @dict p q ks ls da db h1 h2 h3 h4 h5 h6 h7 h8 =>
    obtain rfl : a = Value.ref p := ra
    obtain rfl : b = Value.ref q := rb
    obtain ⟨_, ya, va, r1, d1⟩ := (show ObjOk X.prog X.w H s.heap p (.dK ks) from h1.ok I.hok)
    obtain ⟨_, yb, vb, r2, d2⟩ := (show ObjOk X.prog X.w H s.heap q (.dK ls) from h2.ok I.hok)
    have l1 := h3.len
    have l2 := h4.len
    have l3 := r1.length
    have l4 := r2.length
    have hits := hits_rowsA (A := X.A.in1) I hu r2 h4 r1 h3
    rw [h8] at hits
    exact eqAt_dicts ya yb d1 d2 (by rw [kv_keys r1]; exact h5) (by rw [kv_keys r2]; exact h6) hu1 (by omega) hits
end
def rEqM (K : PySem.W.Frag) (f : Bool → Bool) : R2 := fun x y H Q => ∃ a b ws us, x = .ref a ∧ y = .ref b ∧ SqL K H a ws ∧ SqL K H b us ∧ ws.length = us.length ∧ (∀ (j : Nat) (v u : V), ws[j]? = some v → us[j]? = some u → PairT K H v u) ∧ Q (.bl (f true)) H
section
variable {X : Cx} {B : Bs} {W : WZ} {ms ma mb mc : List Nat} {a b d e o : Expr} {fa fb fc : St → Rs PV} {pos p p2 : Pos}
theorem eqM_items {pins : List (Addr × Obj)} {σ : L2.St} {H : Hp} {s : Shared} (I : Inv X pins σ H s) (hu : X.A.in1.in1.units + 64 < cLine) {ws us : List V} {is js : List Value} (hp : ∀ (j : Nat) (v u : V), ws[j]? = some v → us[j]? = some u → PairT X.K H v u) (rv : Vals ws is) (rv' : Vals us js) : ∀ j (h1 : j < is.toArray.size) (h2 : j < js.toArray.size), SeqAt.EqAt X.A.in1 s is.toArray[j] js.toArray[j] true := by
  intro j h1 h2
  have g1 : is[j]? = some is.toArray[j] := by simp at h1; simp [h1]
  have g2 : js[j]? = some js.toArray[j] := by simp at h2; simp [h2]
  obtain ⟨v, e1, r1⟩ := vals_at rv g1
  obtain ⟨u, e2', r2⟩ := vals_at rv' g2
  exact (hp j v u e1 e2').eqAt I hu (by have : X.A.in1.units ≤ X.A.in1.in1.units := Nat.le_succ _; omega) r1 r2
theorem all_true (n : Nat) : (List.range n).all (fun _ => true) = true := by simp
theorem op_eqM (hu : X.A.in1.in1.units + 64 < cLine) (hu0 : X.A.units < cLine) : OpR X (compareOp .Eq) (rEqM X.K id) := by
  intro pins s σ H x y v u Q I rx ry h
  obtain ⟨a, b, ws, us, rfl, rfl, sa, sb, hl, hp, q⟩ := h
  obtain rfl : v = Value.ref a := rx
  obtain rfl : u = Value.ref b := ry
  obtain ⟨is, r1, p1, z1⟩ := I.list sa
  obtain ⟨js, r2, p2, z2⟩ := I.list sb
  have n1 := r1.length
  have n2 := r2.length
  refine SeqAt.rcP_lists (e := fun _ => true) p1.isList p2.isList (by simp; omega) hu0 (fun j h1 h2 => (eqM_items I hu hp r1 r2 j h1 h2).eqP) _ _ ?_
  rw [all_true]
  exact ⟨.bl true, H, I, rfl, q⟩
theorem op_neM (hu : X.A.in1.in1.units + 64 < cLine) (hu0 : X.A.units < cLine) : OpR X (compareOp .NotEq) (rEqM X.K not) := by
  intro pins s σ H x y v u Q I rx ry h
  obtain ⟨a, b, ws, us, rfl, rfl, sa, sb, hl, hp, q⟩ := h
  obtain rfl : v = Value.ref a := rx
  obtain rfl : u = Value.ref b := ry
  obtain ⟨is, r1, p1, z1⟩ := I.list sa
  obtain ⟨js, r2, p2, z2⟩ := I.list sb
  have n1 := r1.length
  have n2 := r2.length
  refine SeqAt.RcNeAt.lists (e := fun _ => true) p1.isList p2.isList (by simp; omega) hu0 (eqM_items I hu hp r1 r2) _ _ _ _ ?_
  rw [all_true]
  exact ⟨.bl false, H, I, rfl, q⟩
/-- two items that are alike -/
def pairB (x y : PV) : Bool := match x.toD, y.toD with
  | some d, some e => SeqAt.shaped d && SeqAt.shaped e && PyData.eqv d e
  | _, _ => match x, y with
    | .cell _ (.dK ka) xs, .cell _ (.dK kb) ys => match PV.toDs xs, PV.toDs ys with
      | some da, some db => da.all SeqAt.shaped && db.all SeqAt.shaped && decide (ka.length = da.length) && decide (kb.length = db.length) && intK ka && intK kb && eqDD ka da kb db
      | _, _ => false
    | _, _ => false
def pairsB : List PV → List PV → Bool
  | [], [] => true
  | x :: xs, y :: ys => pairB x y && pairsB xs ys
  | _, _ => false
def gEqM (f : Bool → Bool) : G2 := fun s x y => match look s x, look s y with
  | .cell _ .lst xs, .cell _ .lst ys => if pairsB xs ys then some (.bl (f true)) else none
  | _, _ => none
theorem zip_keys {ks : List Key} {ws : List V} (h : ks.length = ws.length) : (ks.zip ws).map (·.1) = ks := by
  rw [← List.unzip_fst, List.unzip_zip_left (by omega)]
theorem pair_of {c : Cf} {σ : L2.St} (R : Rel (kc X B) B c σ) {x y : PV} {v u : V} {A A' : List Addr} (hx : Own (kc X B) (c.F B.D) c.G c.H x v A) (hy : Own (kc X B) (c.F B.D) c.G c.H y u A') (h : pairB x y = true) : PairT X.K (c.R B) v u := by
  unfold pairB at h
  split at h
  · rename_i d e q1 q2
    have h := Bool.and_eq_true_iff.mp h
    have h1 := Bool.and_eq_true_iff.mp h.1
    exact .data (hx.dp F_le G_le (fun _ _ => R.lkSqL) (fun _ _ => R.lkSqT) _ _ d _ q1) (hy.dp F_le G_le (fun _ _ => R.lkSqL) (fun _ _ => R.lkSqT) _ _ e _ q2) h1.1 h1.2 h.2
  · split at h
    · rename_i f1 ka xs f2 kb ys _
      split at h
      · rename_i da db q1 q2
        have h := Bool.and_eq_true_iff.mp h
        have n7 := h.2
        have h := Bool.and_eq_true_iff.mp h.1
        have n6 := h.2
        have h := Bool.and_eq_true_iff.mp h.1
        have n5 := h.2
        have h := Bool.and_eq_true_iff.mp h.1
        have n4 := of_decide_eq_true h.2
        have h := Bool.and_eq_true_iff.mp h.1
        have n3 := of_decide_eq_true h.2
        have h := Bool.and_eq_true_iff.mp h.1
        obtain ⟨a, ws, A0, S, rfl, h2, h3, _⟩ := hx.view F_le G_le
        obtain ⟨b, us, A1, S1, rfl, i2, i3, _⟩ := hy.view F_le G_le
        have d1 := h3.dps F_le G_le (fun _ _ => R.lkSqL) (fun _ _ => R.lkSqT) q1
        have d2 := i3.dps F_le G_le (fun _ _ => R.lkSqL) (fun _ _ => R.lkSqT) q2
        have n8 := Bool.and_eq_true_iff.mp (show (decide (ka.length = kb.length) && hitsB (kb.zip db) (ka.zip da)) = true from n7)
        have n9 := of_decide_eq_true n8.1
        exact .dict (lk_rd h2.1) (lk_rd i2.1) (DRow.of h2.2.1 d1 h.1) (DRow.of i2.2.1 d2 h.2) (by rw [zip_keys h2.2.1]; exact n5) (by rw [zip_keys i2.2.1]; exact n6) (by rw [dzip_len n3, dzip_len n4]; exact n9) n8.2
      · cases h
    · cases h
theorem pairs_of {c : Cf} {σ : L2.St} (R : Rel (kc X B) B c σ) : ∀ {xs ys : List PV} {ws us : List V} {A A' : List Addr}, Owns (kc X B) (c.F B.D) c.G c.H xs ws A → Owns (kc X B) (c.F B.D) c.G c.H ys us A' → pairsB xs ys = true → ws.length = us.length ∧ ∀ (j : Nat) (v u : V), ws[j]? = some v → us[j]? = some u → PairT X.K (c.R B) v u
  | [], [], _, _, _, _, hx, hy, _ => by
    cases hx; cases hy
    exact ⟨rfl, fun j v u h => by simp at h⟩
  | [], _ :: _, _, _, _, _, hx, hy, h => by cases h
  | _ :: _, [], _, _, _, _, hx, hy, h => by cases h
  | x :: xs, y :: ys, _, _, _, _, hx, hy, h => by
    cases hx with
    | cons x1 x2 _ => cases hy with
      | cons y1 y2 _ =>
        have h := Bool.and_eq_true_iff.mp h
        obtain ⟨l, r⟩ := pairs_of R x2 y2 h.2
        refine ⟨by simp [l], fun j v u e1 e2' => ?_⟩
        cases j with
        | zero =>
          simp only [List.getElem?_cons_zero, Option.some.injEq] at e1 e2'
          subst e1 e2'
          exact pair_of R x1 y1 h.1
        | succ j =>
          simp only [List.getElem?_cons_succ] at e1 e2'
          exact r j v u e1 e2'
theorem pop_eqM (f : Bool → Bool) : POp X B (rEqM X.K f) (gEqM f) := by
  intro c σ x y z v w Q R hx hy g k
  unfold gEqM at g
  split at g
  · rename_i f1 xs f2 ys e1 e2
    split at g
    · rename_i n
      cases g
      obtain ⟨a, ws, A0, S, rfl, h2, h3⟩ := R.cellOf hx e1
      obtain ⟨b, us, A1, S1, rfl, i2, i3⟩ := R.cellOf hy e2
      obtain ⟨hl, hp⟩ := pairs_of R h3 i3 n
      exact ⟨a, b, ws, us, rfl, rfl, R.lkSqL (.inl (.inl h2.1)), R.lkSqL (.inl (.inl i2.1)), hl, hp, k _ c.H (Le.refl _) (.bl _)⟩
    · cases g
  · cases g
theorem room2 {k : Nat} (hr : Room k X.A) : X.A.in1.in1.units + 64 < cLine := by have := hr.un; show X.A.units + 1 + 1 + 64 < cLine; omega
theorem vt_eqM {k : Nat} (hr : Room k X.A) (ha : VE X B W ma a fa) (hb : VE X B W mb b fb) : VT X B W (ma ++ mb) (.Compare a [.Eq] [b] pos) (tB (e2 (gEqM id) fa fb)) := vt_cmp (op_eqM (room2 hr) (by have := hr.units; omega)) (pop_eqM id) ha hb (nomark _)
theorem vt_neM {k : Nat} (hr : Room k X.A) (ha : VE X B W ma a fa) (hb : VE X B W mb b fb) : VT X B W (ma ++ mb) (.Compare a [.NotEq] [b] pos) (tB (e2 (gEqM not) fa fb)) := vt_cmp (op_neM (room2 hr) (by have := hr.units; omega)) (pop_eqM not) ha hb (nomark _)
theorem ve_eqM {k : Nat} (hr : Room k X.A) (ha : VE X B W ma a fa) (hb : VE X B W mb b fb) : VE X B W (ma ++ mb) (.Compare a [.Eq] [b] pos) (e2 (gEqM id) fa fb) := ve_cmp (op_eqM (room2 hr) (by have := hr.units; omega)) (pop_eqM id) ha hb (nomark _)
theorem ve_neM {k : Nat} (hr : Room k X.A) (ha : VE X B W ma a fa) (hb : VE X B W mb b fb) : VE X B W (ma ++ mb) (.Compare a [.NotEq] [b] pos) (e2 (gEqM not) fa fb) := ve_cmp (op_neM (room2 hr) (by have := hr.units; omega)) (pop_eqM not) ha hb (nomark _)
end
end Z

/-! d.clear(). -/
namespace Z
open PySem PySem.Spec PyProof.Rows L2
section
variable {X : Cx} {B : Bs} {W : WZ} {ms : List Nat} {i : Nat} {o e : Expr} {fl : St → Option (List Nat)} {apos cpos : Pos}
def eDClear (i : Nat) (fl : St → Option (List Nat)) (s : St) : Rs PV := match fl s with
  | some q => match dctAt s i q with
    | some (x, _, _) => .ok .non (s.set i (some (setP x q (.cell .own (.dK []) []))))
    | none => .bad
  | none => .bad
theorem ve_dclear (ho : VL X B W i o fl) (hbase : attributeBase o "clear" X.env (eval o X.env) = eval o X.env := by rfl) (hline : (apos.endLine == cpos.line) = true := by rfl) : VE X B W [i] (.Call (.Attribute o "clear" apos) [] [] cpos) (eDClear i fl) := by
  refine pe_imp (pe_dclear ho hbase hline) fun σ H Q ⟨c, e, R, hh⟩ => ?_
  subst e
  unfold eDClear at hh
  split at hh
  · rename_i q hq
    split at hh
    · rename_i x ks xs h0
      obtain ⟨hx0, hg0⟩ := dctAt_ok h0
      refine evL_run R hq fun v u c0 a0 e0 hu hv => ?_
      rw [← e0] at hx0
      obtain ⟨p0, ws, A0, S, rfl, io, os, m0, _, up⟩ := cellUp R a0 hx0 hu hg0 hv
      have l0 := a0.rel.lkOwn m0
      obtain ⟨ioH, ioL, ioN, ioA⟩ := io
      refine ⟨.inr (.inr (.inl ⟨rfl, .inl ⟨_, l0.1.trans ioH⟩⟩)), p0, _, rfl, rfl, l0.1.trans ioH, ?_⟩
      obtain ⟨c', a', e1, e2, l1, l2⟩ := up (.dK []) [] [] [] (.dK []) ⟨upd_same, rfl, List.nodup_nil, ioA⟩ (fun b m => by cases m) fun F' G' lf lg k => .nil
      have := hh .non c' a' (by rw [e1, e0]) (.inr .non)
      rw [l0.2, ← e2]; exact this
    · exact hh.elim
  · exact hh.elim
end
end Z

/-! A name's thing given up for good, and the name kept. -/
namespace Z
open PySem PySem.Spec PyProof.Rows L2
theorem move_sem {K : KC} {B : Bs} {W : WZ} {i : Nat} {σ : L2.St} {H : Hp} {Q : VK} (hh : evF K B W [i] (fMove i) σ H Q) : ∃ v, σ[i]? = some (some v) ∧ Q v H := by
  obtain ⟨c, e, R, h⟩ := hh
  subst e
  unfold fMove at h
  split at h
  · rename_i y hy
    obtain ⟨v, h1, h2⟩ := R.own i y hy
    refine ⟨v, h1, ?_⟩
    by_cases n : y.nown = true
    · rw [if_pos n] at h
      have e := h2.nown n
      rw [e] at h2
      exact h v [] c (.refl R) rfl h2
    · rw [if_neg n] at h
      have hi : i < c.s.length := (List.getElem?_eq_some_iff.mp hy).1
      let c' : Cf := { c with s := c.s.set i none, As := fun j => if j = i then [] else c.As j, T := c.As i ++ c.T }
      have mine : ∀ x, c'.mine x → c.mine x ∧ x ∉ c.As i := fun x ⟨j, m⟩ => by
        by_cases z : j = i
        · simp only [c', if_pos z] at m; cases m
        · simp only [c', if_neg z] at m
          exact ⟨⟨j, m⟩, fun q => z (R.dis j i x m q)⟩
      have st : Step (c.As i) c c' := ⟨fun x o _ h => h, fun x h => h.elim (fun z => .inl ⟨i, z⟩) fun z => .inl (mine x z).1, rfl⟩
      have a : Aft K B [i] (c.As i) c σ c' := by
        refine ⟨R.mk' st (fun x m z => (mine x z).2 m) (fun x m => R.cell ⟨i, m⟩) (by simp [c', R.len]) (fun j => ?_) (fun j k x m1 m2 => ?_) R.root, st, fun j nj => ?_⟩
        · by_cases z : j = i
          · subst z
            refine .inr (.inr ⟨fun x q => ?_, by simp [c']⟩)
            simp only [c', List.getElem?_set_self hi] at q; cases q
          · refine .inl ⟨⟨by simp only [c']; rw [List.getElem?_set_ne (Ne.symm z)], by simp [c', z], fun _ _ => rfl⟩, fun _ _ => rfl⟩
        · by_cases z : j = i
          · simp only [c', if_pos z] at m1; cases m1
          · by_cases z2 : k = i
            · simp only [c', if_pos z2] at m2; cases m2
            · simp only [c', if_neg z] at m1; simp only [c', if_neg z2] at m2
              exact R.dis j k x m1 m2
        · have z : j ≠ i := fun q => nj (by rw [q]; simp)
          exact ⟨by simp only [c']; rw [List.getElem?_set_ne (Ne.symm z)], by simp [c', z], fun _ _ => rfl⟩
      have lef : Le (c.F B.D) (c'.F B.D) := st.F
      exact h v (c.As i) c' a rfl (h2.le st.F st.G fun _ _ _ h => h)
  · exact h.elim
/-- frozen in its place -/
def frz (i : Nat) (s : St) : Option St := match s[i]? with
  | some (some x) => if x.nown then some s else if x.nb then some (s.set i (some (x.fl .fz))) else none
  | _ => none
theorem Rel.frz {K : KC} {B : Bs} {c : Cf} {σ : L2.St} {i : Nat} {s' : St} (R : Rel K B c σ) (T0 : c.T = []) (hr : B.root i = none) (h : Z.frz i c.s = some s') : ∃ c', Rel K B c' σ ∧ Step [] c c' ∧ c'.s = s' ∧ c'.R B = c.R B := by
  unfold Z.frz at h
  split at h
  · rename_i x hx
    by_cases n : x.nown = true
    · rw [if_pos n] at h; cases h
      exact ⟨c, R, .refl, rfl, rfl⟩
    · rw [if_neg n] at h
      by_cases nb : x.nb = true
      · rw [if_pos nb] at h; cases h
        have hi : i < c.s.length := (List.getElem?_eq_some_iff.mp hx).1
        have key : evF K B (fun _ _ => False) [i] (fMove i) σ (c.R B) fun v H => ∃ c', Rel K B c' (σ.set i (some v)) ∧ Step [] c c' ∧ c'.s = c.s.set i (some (x.fl .fz)) ∧ c'.R B = H := by
          refine ⟨c, rfl, R, ?_⟩
          unfold fMove
          rw [hx]
          simp only [if_neg n]
          intro v A c1 a1 e1 o
          have hi2 : i < c1.s.length := by rw [e1]; simpa using hi
          obtain ⟨c2, R2, s2, e2, e3⟩ := Aft.put (c1 := { c1 with T := c.T }) (i := i) (x := x.fl .fz) (v := v) R a1.drop (.fz (a1.fzz R o nb)) hi2 hr
          refine ⟨c2, R2, s2, ?_, ?_⟩
          · rw [e2]; show c1.s.set i _ = _; rw [e1, List.set_set]
          · show lk B.L c2.H = lk B.L c1.H
            rw [e3]
        obtain ⟨v, h1, c', R', st, e1, e2⟩ := move_sem key
        have : σ.set i (some v) = σ := by
          apply List.ext_getElem?
          intro j
          by_cases z : j = i
          · subst z
            have hj : j < σ.length := (List.getElem?_eq_some_iff.mp h1).1
            rw [List.getElem?_set_self hj, h1]
          · rw [List.getElem?_set_ne (Ne.symm z)]
        rw [this] at R'
        exact ⟨c', R', st, e1, e2⟩
      · rw [if_neg nb] at h; cases h
  · cases h
def sFrz (i : Nat) (f : Sm) : Sm := fun s => match frz i s with
  | some s' => f s'
  | none => .bad
theorem fwd_from {K : KC} {B : Bs} {c c' : Cf} {D : Ends} (st : Step [] c c') : ∀ (fl : Fw) (s : St), fwd K B c D fl s → fwd K B c' D fl s
  | .nx, s, h => fun σ2 c2 R2 s2 e2 => h σ2 c2 R2 (by simpa using st.trans s2) e2
  | .bk, s, h => fun σ2 c2 R2 s2 e2 => h σ2 c2 R2 (by simpa using st.trans s2) e2
  | .ct, s, h => fun σ2 c2 R2 s2 e2 => h σ2 c2 R2 (by simpa using st.trans s2) e2
  | .rt x, s, h => fun v A σ2 c2 R2 s2 e2 o => h v A σ2 c2 R2 (by simpa using st.trans s2) e2 o
theorem frz_ev {K : KC} {B : Bs} {W : WZ} {i : Nat} {f : Sm} (hr : B.root i = none) {D : Ends} {σ : L2.St} {H : Hp} (h : evS K B W (sFrz i f) D σ H) : evS K B W f D σ H := by
  obtain ⟨c, e, R, T0, h⟩ := h
  subst e
  unfold sFrz at h
  split at h
  · rename_i s' q
    obtain ⟨c', R', st, e1, e2⟩ := R.frz T0 hr q
    refine ⟨c', e2.symm, R', by rw [st.T, T0]; rfl, ?_⟩
    rw [e1]
    exact Rs.post_imp h fun fl s z => fwd_from st fl s z
  · exact h.elim
theorem vs_frz {X : Cx} {B : Bs} {W : WZ} (i : Nat) {st : Stmt} {f : Sm} (hr : B.root i = none) (h : VS X B W st f) : VS X B W st (sFrz i f) := ps_imp h fun D σ H q => frz_ev hr q
end Z

/-! A thing of one's own lent while an expression is looked at. -/
namespace Z
open PySem PySem.Spec PyProof.Rows L2
def Bs.lend (B : Bs) (A : List Addr) : Bs := { B with D := fun a => B.D a ∨ a ∈ A }
def lent (i : Nat) (x : PV) (c : Cf) : Cf := { c with s := c.s.set i (some x.er), As := fun j => if j = i then [] else c.As j }
section
variable {K : KC} {B : Bs} {c c' : Cf} {σ : L2.St} {i : Nat} {x : PV} {ms js : List Nat} {A : List Addr}
theorem lent_mine {a : Addr} (h : (lent i x c).mine a) : ∃ j, j ≠ i ∧ a ∈ c.As j := by
  obtain ⟨j, m⟩ := h
  by_cases e : j = i
  · simp only [lent, if_pos e] at m; cases m
  · simp only [lent, if_neg e] at m; exact ⟨j, e, m⟩
theorem Rel.lend (R : Rel K B c σ) (hx : c.s[i]? = some (some x)) : Rel K (B.lend (c.As i)) (lent i x c) σ := by
  have hi : i < c.s.length := (List.getElem?_eq_some_iff.mp hx).1
  have nm : ∀ a, (lent i x c).mine a → c.mine a ∧ a ∉ c.As i := fun a h => by
    obtain ⟨j, e, m⟩ := lent_mine h
    exact ⟨⟨j, m⟩, fun z => e (R.dis j i a m z)⟩
  have lF : Le (c.F B.D) ((lent i x c).F (B.lend (c.As i)).D) := fun a o h => by
    obtain ⟨h1, h2, h3, h4⟩ := F_eq.mp h
    exact F_eq.mpr ⟨fun z => z.elim h1 fun z => h3 ⟨i, z⟩, h2, fun z => h3 (nm a z).1, h4⟩
  have lG : Le c.G (lent i x c).G := fun a o h => by
    obtain ⟨h2, h3, h4⟩ := G_eq.mp h
    exact G_eq.mpr ⟨h2, fun z => h3 (nm a z).1, h4⟩
  refine ⟨by simp [lent, R.len], fun j y e => ?_, fun j n => ?_, fun j k a m1 m2 => ?_, fun j a m t => ?_, fun a h d => ?_, fun a h => ?_, R.keep, fun a h => ?_, R.root, fun a ob h => ?_⟩
  · by_cases z : j = i
    · subst z
      simp only [lent, List.getElem?_set_self hi, Option.some.injEq] at e
      subst e
      obtain ⟨v, h1, h2⟩ := R.own j x hx
      refine ⟨v, h1, ?_⟩
      simp only [lent, if_pos rfl]
      exact .bw (h2.sh (FG_le.trans lG) lG fun a m o h => G_eq.mpr ⟨R.nT j a m, fun q => (nm a q).2 m, h⟩)
    · simp only [lent, List.getElem?_set_ne (Ne.symm z)] at e
      obtain ⟨v, h1, h2⟩ := R.own j y e
      refine ⟨v, h1, ?_⟩
      simp only [lent, if_neg z]
      exact h2.le lF lG fun _ _ _ q => q
  · by_cases z : j = i
    · simp only [lent, if_pos z]
    · simp only [lent, if_neg z]
      refine R.dead j fun y q => n y ?_
      simp only [lent, List.getElem?_set_ne (Ne.symm z)]; exact q
  · by_cases z : j = i
    · simp only [lent, if_pos z] at m1; cases m1
    · by_cases z2 : k = i
      · simp only [lent, if_pos z2] at m2; cases m2
      · simp only [lent, if_neg z] at m1
        simp only [lent, if_neg z2] at m2
        exact R.dis j k a m1 m2
  · by_cases z : j = i
    · simp only [lent, if_pos z] at m; cases m
    · simp only [lent, if_neg z] at m; exact R.nT j a m t
  · rcases h with h | h
    · rcases d with d | d
      · exact R.nD a (.inl h) d
      · exact R.nT i a d h
    · rcases d with d | d
      · exact R.nD a (.inr (nm a h).1) d
      · exact (nm a h).2 d
  · rcases h with h | h | h
    · exact R.live a (.inl h)
    · exact R.live a (.inr h)
    · exact R.cell ⟨i, h⟩
  · rcases h with h | h
    · exact R.new a (.inl h)
    · exact R.new a (.inr (nm a h).1)
  · obtain ⟨h1, h2, h3⟩ := R.lkd a ob h
    exact ⟨h1, fun z => h2 (nm a z).1, h3⟩
/-- back again -/
def unlent (i : Nat) (x : PV) (A0 : List Addr) (c : Cf) : Cf := { c with s := c.s.set i (some x), As := fun j => if j = i then A0 else c.As j }
def nbAt (s : St) (j : Nat) : Bool := match s[j]? with
  | some (some z) => z.nb
  | _ => true
theorem Aft.unlend (R : Rel K B c σ) (hx : c.s[i]? = some (some x)) (hms : i ∉ ms) (a : Aft K (B.lend (c.As i)) ms A (lent i x c) σ c') (hj : ∀ j ∈ ms, nbAt c'.s j = true) :
    Aft K B ms A c σ (unlent i x (c.As i) c') ∧ ∀ (y : PV) (v : V), y.nb = true → Own K (c'.F (B.lend (c.As i)).D) c'.G c'.H y v A → Own K ((unlent i x (c.As i) c').F B.D) (unlent i x (c.As i) c').G (unlent i x (c.As i) c').H y v A := by
  have hi : i < c.s.length := (List.getElem?_eq_some_iff.mp hx).1
  have hl : c'.s.length = c.s.length := by have := a.rel.len; rw [R.len] at this; exact this.symm
  have nm : ∀ a, (lent i x c).mine a → c.mine a ∧ a ∉ c.As i := fun a h => by
    obtain ⟨j, e, m⟩ := lent_mine h
    exact ⟨⟨j, m⟩, fun z => e (R.dis j i a m z)⟩
  have um : ∀ b, (unlent i x (c.As i) c').mine b → c'.mine b ∨ b ∈ c.As i := fun b ⟨j, m⟩ => by
    by_cases e : j = i
    · simp only [unlent, if_pos e] at m; exact .inr m
    · simp only [unlent, if_neg e] at m; exact .inl ⟨j, m⟩
  have hk : ∀ b ∈ c.As i, ∀ o, c.H b = some o → c'.H b = some o := fun b m o h => a.st.keep b o (fun z => (nm b z).2 m) h
  have st : Step A c (unlent i x (c.As i) c') := by
    refine ⟨fun b o n h => a.st.keep b o (fun z => n (nm b z).1) h, fun b h => ?_, a.st.T⟩
    have : b ∈ A ∨ c'.mine b → c.mine b ∨ c.H b = none := fun h => (a.st.new b h).imp (fun z => (nm b z).1) id
    rcases h with h | h
    · exact this (.inl h)
    · rcases um b h with h | h
      · exact this (.inr h)
      · exact .inl ⟨i, h⟩
  have lF : Le (c'.F (B.lend (c.As i)).D) ((unlent i x (c.As i) c').F B.D) := fun b o h => by
    obtain ⟨h1, h2, h3, h4⟩ := F_eq.mp h
    exact F_eq.mpr ⟨fun z => h1 (.inl z), h2, fun z => (um b z).elim h3 fun z => h1 (.inr z), h4⟩
  have lT : LeT c'.G ((unlent i x (c.As i) c').F B.D) := fun b o n h => lF b o (a.rel.leT b o n (G_le (c := c') b o h))
  have back : ∀ (y : PV) (v : V) (S : List Addr), y.nb = true → Own K (c'.F (B.lend (c.As i)).D) c'.G c'.H y v S → Own K ((unlent i x (c.As i) c').F B.D) (unlent i x (c.As i) c').G (unlent i x (c.As i) c').H y v S := fun y v S n h => by
    obtain ⟨_, e, h2⟩ := h.noG (G' := (unlent i x (c.As i) c').G) (H' := (unlent i x (c.As i) c').H) lF lT n fun _ _ _ q => q
    rw [e] at h2; exact h2
  refine ⟨⟨R.mk' st (fun b m z => ?_) (fun b m => ?_) (by simp [unlent, hl, R.len]) (fun j => ?_) (fun j k b m1 m2 => ?_) R.root, st, fun j nj => ?_⟩, fun y v n h => back y v A n h⟩
  · rcases um b z with z | z
    · exact a.heldM b m z
    · rcases a.st.new b (.inl m) with q | q
      · exact (nm b q).2 z
      · obtain ⟨o, e, _⟩ := R.cell ⟨i, z⟩
        rw [show c.H b = none from q] at e; cases e
  · exact a.rel.live b (.inl (by rw [a.st.T]; exact List.mem_append_left _ m))
  · by_cases z : j = i
    · subst z
      obtain ⟨v, h1, h2⟩ := R.own j x hx
      refine .inr (.inl ⟨x, v, by simp only [unlent]; rw [List.getElem?_set_self (by omega)], h1, ?_⟩)
      simp only [unlent, if_pos rfl]
      exact h2.le st.F st.G hk
    · by_cases m : j ∈ ms
      · have hn := hj j m
        unfold nbAt at hn
        by_cases q : ∃ w, c'.s[j]? = some (some w)
        · obtain ⟨w, q⟩ := q
          rw [q] at hn
          obtain ⟨v, h1, h2⟩ := a.rel.own j w q
          refine .inr (.inl ⟨w, v, by simp only [unlent]; rw [List.getElem?_set_ne (Ne.symm z)]; exact q, h1, ?_⟩)
          simp only [unlent, if_neg z]
          exact back w v _ hn h2
        · refine .inr (.inr ⟨fun y e => q ⟨y, ?_⟩, ?_⟩)
          · simp only [unlent, List.getElem?_set_ne (Ne.symm z)] at e; exact e
          · simp only [unlent, if_neg z]
            exact a.rel.dead j fun y e => q ⟨y, e⟩
      · obtain ⟨s1, s2, s3⟩ := a.fr j m
        refine .inl ⟨⟨?_, ?_, fun b mb => ?_⟩, fun _ _ => rfl⟩
        · simp only [unlent, List.getElem?_set_ne (Ne.symm z)]
          rw [s1]; simp only [lent, List.getElem?_set_ne (Ne.symm z)]
        · simp only [unlent, if_neg z]
          rw [s2]; simp only [lent, if_neg z]
        · exact s3 b (by simp only [lent, if_neg z]; exact mb)
  · by_cases z : j = i
    · by_cases z2 : k = i
      · exact z.trans z2.symm
      · simp only [unlent, if_pos z] at m1
        simp only [unlent, if_neg z2] at m2
        exact (a.rel.nD b (.inr ⟨k, m2⟩) (.inr m1)).elim
    · simp only [unlent, if_neg z] at m1
      by_cases z2 : k = i
      · simp only [unlent, if_pos z2] at m2
        exact (a.rel.nD b (.inr ⟨j, m1⟩) (.inr m2)).elim
      · simp only [unlent, if_neg z2] at m2
        exact a.rel.dis j k b m1 m2
  · by_cases z : j = i
    · subst z
      refine ⟨by simp only [unlent]; rw [List.getElem?_set_self (by omega), hx], by simp [unlent], fun b mb => ?_⟩
      obtain ⟨o, e, _⟩ := R.cell ⟨j, mb⟩
      rw [e]; exact hk b mb o e
    · obtain ⟨s1, s2, s3⟩ := a.fr j nj
      refine ⟨?_, ?_, fun b mb => ?_⟩
      · simp only [unlent, List.getElem?_set_ne (Ne.symm z)]
        rw [s1]; simp only [lent, List.getElem?_set_ne (Ne.symm z)]
      · simp only [unlent, if_neg z]
        rw [s2]; simp only [lent, if_neg z]
      · exact s3 b (by simp only [lent, if_neg z]; exact mb)
end
def fLend (i : Nat) (js : List Nat) (f : St → Rs PV) (s : St) : Rs PV := match s[i]? with
  | some (some x) => match f (s.set i (some x.er)) with
    | .ok y s' => if y.nb && js.all (nbAt s') then .ok y (s'.set i (some x)) else .bad
    | _ => .bad
  | _ => .bad
theorem vf_lend {X : Cx} {B : Bs} {W : WZ} {ms : List Nat} {e : Expr} {f : St → Rs PV} (i : Nat) (js : List Nat) (h : ∀ D, VF X { B with D := D } (fun _ _ => False) ms e f) (hi : i ∉ ms) (hj : ∀ j ∈ ms, j ∈ js) : VF X B W ms e (fLend i js f) := by
  refine ⟨fun pins s σ H Q I q => ?_⟩
  obtain ⟨c, rfl, R, q⟩ := q
  unfold fLend at q
  split at q
  · rename_i x hx
    refine (h (B.lend (c.As i)).D).run pins s σ _ Q I ?_
    refine ⟨lent i x c, rfl, R.lend hx, ?_⟩
    show (f (c.s.set i (some x.er))).post _ _
    split at q
    · rename_i y s' e
      rw [e]
      split at q
      · rename_i hn
        rw [Bool.and_eq_true] at hn
        intro v A c' a es o
        have hj' : ∀ j ∈ ms, nbAt c'.s j = true := fun j m => by rw [es]; exact List.all_eq_true.mp hn.2 j (hj j m)
        obtain ⟨a2, b2⟩ := a.unlend R hx hi hj'
        have := q v A (unlent i x (c.As i) c') a2 (by simp only [unlent, es]) (b2 y v hn.1 o)
        exact this
      · cases q
    · cases q
  · cases q
end Z

/-! {i: j, k: l}; [.. for x in d.values()]; list(d.items()). -/
namespace Z
open PySem PySem.Spec PyProof.Rows L2
def fDisp2 (i j k l : Int) (s : St) : Rs PV := if i = k then .bad else .ok (.cell .own (.dK [Sum.inl i, Sum.inl k]) [.int j, .int l]) s
theorem vf_disp2 {X : Cx} {B : Bs} {W : WZ} {i j k l : Int} {n1 n2 n3 n4 : Nat} {p1 p2 p3 p4 pos : Pos} : VF X B W [] (.Dict [some (.Constant (.int i) n1 p1), some (.Constant (.int k) n3 p3)] [.Constant (.int j) n2 p2, .Constant (.int l) n4 p4] pos) (fDisp2 i j k l) := by
  refine pe_imp (pe_disp (pps_cons pe_int pe_int (pps_cons pe_int pe_int pps_nil)) rfl rfl (by simp) (by simp)) fun σ H Q ⟨c, e, R, h⟩ => ?_
  subst e
  unfold fDisp2 at h
  by_cases ne : i = k
  · rw [if_pos ne] at h; cases h
  rw [if_neg ne] at h
  intro t ht
  obtain ⟨ht, hl⟩ := R.lkNew ht
  have nd : ¬ (Sum.inl i : Key) = Sum.inl k := fun z => ne (Sum.inl.inj z)
  refine ⟨upd_same, [(Sum.inl i, .int j), (Sum.inl k, .int l)], rfl, by simp, ?_⟩
  have a2 := R.push (ms := []) (A := [t]) (H' := upd c.H t (.dK [(Sum.inl i, .int j), (Sum.inl k, .int l)])) (upd_le ht) (fun x m => by cases List.mem_singleton.mp m; exact ht) (fun x m => by cases List.mem_singleton.mp m; exact ⟨_, upd_same, trivial⟩)
  have := h (.ref t) ([t] ++ []) { c with H := upd c.H t (.dK [(Sum.inl i, .int j), (Sum.inl k, .int l)]), T := [t] ++ c.T } (by simpa using a2) rfl (.cell (t := .dK [Sum.inl i, Sum.inl k]) (ws := [.int j, .int l]) ⟨upd_same, rfl, by simp [ne], rfl⟩ (.cons (.int j) (.cons (.int l) .nil (by simp)) (by simp)) fun b m z => by cases z)
  have e : upd (upd (c.R B) t (.dK [])) t (.dK (mergeK [] [(Sum.inl i, .int j), (Sum.inl k, .int l)])) = upd (c.R B) t (.dK [(Sum.inl i, .int j), (Sum.inl k, .int l)]) := by
    funext a
    unfold upd
    by_cases q : a = t <;> simp [q, mergeK, putK, nd, ne]
  rw [e, show c.R B = lk B.L c.H from rfl, lk_upd hl]; exact this
/-! the values of a dict -/
theorem Rel.shV {K : KC} {B : Bs} {c : Cf} {σ : L2.St} {i : Nat} {b : Bool} {ks : List Key} {xs : List PV} (R : Rel K B c σ) (h : c.s[i]? = some (some (.cell (.sh b) (.dK ks) xs))) : ∃ d ws, σ[i]? = some (some (.ref d)) ∧ c.H d = some (.dK (ks.zip ws)) ∧ ks.length = ws.length ∧ d ∉ c.T ∧ ¬ c.mine d ∧ Os K (c.F B.D) c.G c.H xs ws := by
  obtain ⟨v, h1, o⟩ := R.own i _ h
  generalize c.As i = A at o
  cases o with
  | fz hh =>
    cases hh with
    | cell a b => obtain ⟨g1, g2, g3, g4⟩ := F_eq.mp a.1; exact ⟨_, _, h1, g4, a.2.1, g2, g3, b.osF⟩
  | bw hh =>
    cases hh with
    | cell a b => obtain ⟨g2, g3, g4⟩ := G_eq.mp a.1; exact ⟨_, _, h1, g4, a.2.1, g2, g3, b.osB⟩
theorem src_vals {K : KC} {B : Bs} {c1 : Cf} {d : Addr} {od : Obj} {ks : List Key} {ws : List V} {xs : List PV} (hL : B.L d = some od) (nm : ¬ c1.mine d) (hd : c1.H d = some (.dK (ks.zip ws))) (hl : ks.length = ws.length) (os : Os K (c1.F B.D) c1.G c1.H xs ws) : Src K B (Itd d od (ks.zip ws)) c1 xs := by
  have hlen : xs.length = (ks.zip ws).length := by simp [hl, os.length]
  refine ⟨fun H => H d = some (.frz od (.dK (ks.zip ws))), fun i H x H' => H' = H ∧ ∃ k, (ks.zip ws)[i]? = some (k, x), by rw [hlen]; exact walk_values, fun c σ' R ⟨A, st⟩ => ?_, fun i c σ' v H' R ⟨A, st⟩ hi ⟨e, k, h1⟩ => ?_⟩
  · show lk B.L c.H d = _
    unfold lk
    rw [hL, st.keep d _ nm hd]
  · subst e
    have h2 := (List.getElem?_zip_eq_some.mp h1).2
    obtain ⟨w, g1, g2⟩ := os.get (List.getElem?_eq_getElem hi)
    rw [h2] at g1; cases g1
    exact ⟨c.H, xs[i], rfl, Le.refl _, List.getElem?_eq_getElem hi, g2.le st.F st.G fun _ m => by cases m⟩
def dVals (i : Nat) (s : St) : Rs (List PV) := match s[i]? with
  | some (some (.cell (.sh _) (.dK _) xs)) => .ok xs s
  | _ => .bad
theorem dVals_ok {i : Nat} {s : St} {P : List PV → St → Prop} {W : WZ} (h : (dVals i s).post P W) : ∃ b ks xs, s[i]? = some (some (.cell (.sh b) (.dK ks) xs)) ∧ P xs s := by
  unfold dVals at h
  split at h
  · rename_i b ks xs e; exact ⟨b, ks, xs, e, h⟩
  · exact h.elim
section
variable {X : Cx} {B : Bs} {W : WZ} {i j : Nat} {mt me : List Nat} {elt : Expr} {ifs : List Expr} {scope : Scope} {body : List Stmt} {f : Sm} {fe : St → Rs PV} {ft : St → Rs Bool} {x dn : Str} {px pd pos apos cpos : Pos}
/-- [e for x in d.values() if t] -/
def fLcV (j i : Nat) (ft : St → Rs Bool) (fe : St → Rs PV) (s : St) : Rs PV := (dVals i s).bind fun xs s1 => if okOrig s1 [j] then lcEnd [j] s1 (lcGo [j] tgt1 ft fe xs [] (kill [j] s1)) else .bad
theorem lcV_imp (j i : Nat) (hr : B.root j = none) {σ : L2.St} {H : Hp} {Q : VK} (hh : evF (kc X B) B W ((mt ++ me) ++ [j]) (fLcV j i ft fe) σ H Q) :
    (∃ d u, H d = some u ∧ Mut (some u) ∧ ∀ od, tLc (iVals (fun σ H Q => ∃ v, σ[i]? = some (some v) ∧ Q v H)) (gName j) (evT (kc X B) (B.lock d od) (fun _ _ => False) mt ft) (evF (kc X B) (B.lock d od) (fun _ _ => False) me fe) [j] σ (upd H d (.frz od u)) fun v H' => H' d = some (.frz od u) ∧ Q v (upd H' d u)) ∨
    tLc (iVals (fun σ H Q => ∃ v, σ[i]? = some (some v) ∧ Q v H)) (gName j) (evT (kc X B) B (fun _ _ => False) mt ft) (evF (kc X B) B (fun _ _ => False) me fe) [j] σ H Q := by
  obtain ⟨c, e, R, h⟩ := hh
  subst e
  obtain ⟨b, ks, xs, hsl, p⟩ := dVals_ok (Rs.post_bind h)
  by_cases n : okOrig c.s [j] = true
  · rw [if_pos n] at p
    have p := noEx_post (Rs.post_bind p)
    obtain ⟨d, ws, h1, h2, h3, h4, h5, os⟩ := R.shV hsl
    have hr' : ∀ k ∈ [j], B.root k = none := fun k m => by cases List.mem_singleton.mp m; exact hr
    cases hl : B.L d with
    | some od =>
      refine .inr ⟨.ref d, h1, d, od, _, rfl, ?_, fun D hD => lcG_core (mi := []) (.refl R) (src_vals hl h5 h2 h3 os) (tk_name j) hr' n hD p⟩
      show lk B.L c.H d = _
      unfold lk; rw [hl, h2]
    | none =>
      refine .inl ⟨d, .dK (ks.zip ws), (lk_none hl).trans h2, trivial, fun od => ?_⟩
      rw [lockR hl h2]
      have R2 : Rel (kc X B) (B.lock d od) c σ := R.lock ⟨h4, h5, by rw [h2]; trivial⟩
      have hL : (B.lock d od).L d = some od := by show (if d = d then some od else B.L d) = _; rw [if_pos rfl]
      refine ⟨.ref d, h1, d, od, _, rfl, lockAt h2, fun D hD => lcG_core (B := B.lock d od) (mi := []) (mt := mt) (me := me) (Q := fun v H' => H' d = some (.frz od (.dK (ks.zip ws))) ∧ Q v (upd H' d (.dK (ks.zip ws)))) (.refl R2) (src_vals hL h5 h2 h3 os) (tk_name j) hr' n hD (Rs.post_imp p fun acc s2 q v A c' a' e' o => ?_)⟩
      have k2 := a'.st.keep d _ h5 h2
      refine ⟨lockAt k2, ?_⟩
      rw [unlockR hl k2]
      exact q v A c' ⟨a'.rel.unlock hl, a'.st, a'.fr⟩ e' o
  · rw [if_neg n] at p; exact p.elim
theorem vf_lcV (j i : Nat) (hc : X.calm = true) (hN : X.N.Nodup) (ok : BlkOk X.N X.env.scope scope [(x, j)]) (hr : B.root j = none)
    (hg : ∀ (s : Shared) (H : Hp) (C : Addr) (cl : List (Str × Addr)) (fp : List Addr), PG (X.blk s H scope (compEnvC scope cl C X.env) fp) (.Name x px) (gName j))
    (ht : ∀ L, ∀ (s : Shared) (H : Hp) (C : Addr) (cl : List (Str × Addr)) (fp : List Addr), VTs (X.blk s H scope (compEnvC scope cl C X.env) fp) { B with L := L } (fun _ _ => False) mt ifs ft)
    (he : ∀ L, ∀ (s : Shared) (H : Hp) (C : Addr) (cl : List (Str × Addr)) (fp : List Addr), VF (X.blk s H scope (compEnvC scope cl C X.env) fp) { B with L := L } (fun _ _ => False) me elt fe) (hi : X.N[i]? = some dn := by rfl)
    (hv : Vis X.env.scope dn := by first | exact Or.inl rfl | exact Or.inr (Or.inl rfl) | exact Or.inr (Or.inr rfl)) (hd : (dn == ("__debug__" : Str)) = false := by decide) (hcd : (dn == ("__classdict__" : Str)) = false := by decide)
    (hbase : attributeBase (.Name dn pd) "values" X.env (eval (.Name dn pd) X.env) = eval (.Name dn pd) X.env := by rfl) (hline : (apos.endLine == cpos.line) = true := by rfl)
    (hs : ∀ x, foldedSetIterable (.Call (.Attribute (.Name dn pd) "values" apos) [] [] cpos) X.env x = pure x := by intro _; rfl) :
    VF X B W ((mt ++ me) ++ [j]) (.ListComp elt [⟨.Name x px, .Call (.Attribute (.Name dn pd) "values" apos) [] [] cpos, ifs, 0⟩] scope pos) (fLcV j i ft fe) :=
  pe_imp (pe_or (pe_lockZ fun d od => pe_lc (own := [(x, j)]) (g := gName j) (tt := evT (kc X B) (B.lock d od) (fun _ _ => False) mt ft) (te := evF (kc X B) (B.lock d od) (fun _ _ => False) me fe) hc hN (pi_values (pe_var hi hv hd hcd) hbase hline) ok hg (ht (B.lock d od).L) (he (B.lock d od).L) hs) (pe_lc (own := [(x, j)]) (g := gName j) (tt := evT (kc X B) B (fun _ _ => False) mt ft) (te := evF (kc X B) B (fun _ _ => False) me fe) hc hN (pi_values (pe_var hi hv hd hcd) hbase hline) ok hg (ht B.L) (he B.L) hs)) fun σ H Q h => lcV_imp j i hr h
end
/-! list(d.items()) -/
theorem Rel.unlk {K : KC} {B : Bs} {c : Cf} {σ : L2.St} (R : Rel K B c σ) {H' : Hp} (h : ∀ b o, c.R B b = some o → H' b = some o) : ∃ Hc, H' = lk B.L Hc ∧ Le c.H Hc ∧ ∀ a, c.H a = none → Hc a = H' a := by
  refine ⟨fun a => match c.H a with | some o => some o | none => H' a, ?_, fun a o e => by dsimp only; rw [e], fun a e => by dsimp only; rw [e]⟩
  funext a
  unfold lk
  cases e : c.H a with
  | some o =>
    dsimp only
    have : c.R B a = some (match B.L a with | some ob => .frz ob o | none => o) := by
      show lk B.L c.H a = _
      unfold lk
      rw [e]
      cases B.L a <;> rfl
    rw [h a _ this]
    simp only [e]
    cases B.L a <;> rfl
  | none =>
    dsimp only
    have hn : c.R B a = none := by
      show lk B.L c.H a = _
      unfold lk
      rw [e]
      cases B.L a <;> rfl
    rw [(R.lkNew hn).2]
    simp only [e]
def itemP (ks : List Key) (xs : List PV) : List PV := (ks.zip xs).map fun q => .tup [keyP q.1, q.2]
theorem os_items {K : KC} {F G H F' G' H' : Hp} (l : Le F F') (g : Le G G') : ∀ {ks : List Key} {xs : List PV} {ws : List V} {ts : List Addr}, Os K F G H xs ws → ks.length = ws.length → Paired (fun (t : Addr) (q : Key × V) => F' t = some (.tup [kV q.1, q.2])) ts (ks.zip ws) → Os K F' G' H' (itemP ks xs) (ts.map V.ref)
  | [], xs, ws, ts, os, hl, h => by
    simp only [List.zip_nil_left] at h
    cases h
    exact .nil
  | k :: ks, [], ws, ts, os, hl, h => by cases os; cases hl
  | k :: ks, x :: xs, [], ts, os, hl, h => by cases os
  | k :: ks, x :: xs, w :: ws, ts, os, hl, h => by
    cases os with
    | cons a b =>
      rw [List.zip_cons_cons] at h
      cases h with
      | cons h1 h2 =>
        refine .cons ?_ (os_items l g b (Nat.succ.inj hl) h2)
        exact .tup h1 (Os.owns (.cons (Own.keyP k) (.cons (a.le l g fun _ m => by cases m) .nil)))
def fListIt (f : St → Rs PV) (s : St) : Rs PV := (f s).bind fun x s1 => match look s1 x with
  | .cell .own (.dK ks) xs => if PV.nowns xs then .ok (.cell .own .lst (itemP ks xs)) s1 else .bad
  | _ => .bad
theorem Vl.ownD {K : KC} {B : Bs} {c : Cf} {σ : L2.St} {x : PV} {v : V} {ks : List Key} {xs : List PV} (R : Rel K B c σ) (h : Vl K B c σ x v) (e : look c.s x = .cell .own (.dK ks) xs) (hn : PV.nowns xs = true) : ∃ d ws, v = .ref d ∧ c.H d = some (.dK (ks.zip ws)) ∧ ks.length = ws.length ∧ c.mine d ∧ Os K (c.F B.D) c.G c.H xs ws := by
  rcases h with ⟨i, rfl, ev⟩ | o
  · unfold look at e
    dsimp only at e
    split at e
    · rename_i y hy
      subst e
      obtain ⟨v', hv, o⟩ := R.own i _ hy
      rw [ev] at hv; cases hv
      generalize hA : c.As i = A at o
      cases o with
      | fz h => cases h
      | bw h => cases h
      | cell io os dis =>
        have hS := os.nown hn
        subst hS
        exact ⟨_, _, rfl, io.1, io.2.1, ⟨i, by rw [hA]; exact List.mem_append_left _ io.mem⟩, os.os rfl⟩
    · cases e
  · have : look c.s x = x := by
      cases x with
      | loc i p => exact (not_loc o).elim
      | _ => rfl
    rw [this] at e
    subst e
    have := o.nownOf rfl
    cases this
theorem vf_listIt {X : Cx} {B : Bs} {W : WZ} {ms : List Nat} {e : Expr} {f : St → Rs PV} {p apos cpos pos : Pos} (hc : X.calm = true) (hm : X.mg "list" = none) (he : VE X B W ms e f) (hg : Gl X "list") (hbase : attributeBase e "items" X.env (eval e X.env) = eval e X.env := by rfl) (hline : (apos.endLine == cpos.line) = true := by rfl)
    (hs : starEach [.Call (.Attribute e "items" apos) [] [] cpos] X.env = (false, eval (.Call (.Attribute e "items" apos) [] [] cpos) X.env) :: starEach [] X.env := by rfl) :
    VF X B W ms (.Call (.Name "list" p) [.Call (.Attribute e "items" apos) [] [] cpos] [] pos) (fListIt f) := by
  refine pe_imp (LiI.pe_listItems hc he hg hm (by decide +kernel) hbase hline hs) fun σ H Q ⟨c, e, R, h⟩ => ?_
  subst e
  refine evE_run R (Rs.post_bind h) fun x v c1 a1 v1 p1 => ?_
  split at p1
  · rename_i ks xs ex
    split at p1
    · rename_i hn
      obtain ⟨d, ws, rfl, hd, hlen, hmine, os⟩ := Vl.ownD a1.rel v1 ex hn
      refine ⟨d, ks.zip ws, rfl, ?_, fun H' t ts hk ht hts htn hp hq => ?_⟩
      · show lk B.L c1.H d = _
        rw [lk_none (a1.rel.lkMine (.inr hmine))]; exact hd
      · obtain ⟨Hc, rfl, le, hH⟩ := a1.rel.unlk hk
        obtain ⟨ht, _⟩ := a1.rel.lkNew ht
        have hnt : ∀ u ∈ ts, c1.H u = none := fun u m => (a1.rel.lkNew (hts u m)).1
        have atHc : ∀ (u : Addr) (o : HO), c1.H u = none → lk B.L Hc u = some o → Hc u = some o := fun u o n z => (hH u n).trans z
        have pu := a1.push (A := [t]) (H' := Hc) le (fun x m => by cases List.mem_singleton.mp m; exact ht) (fun x m => by cases List.mem_singleton.mp m; exact ⟨_, atHc _ _ ht hp, trivial⟩)
        have st := (a1.rel.push (ms := []) (A := [t]) (H' := Hc) le (fun x m => by cases List.mem_singleton.mp m; exact ht) (fun x m => by cases List.mem_singleton.mp m; exact ⟨_, atHc _ _ ht hp, trivial⟩)).st
        have hF : Paired (fun (u : Addr) (q : Key × V) => Cf.F { c1 with H := Hc, T := [t] ++ c1.T } B.D u = some (.tup [kV q.1, q.2])) ts (ks.zip ws) := by
          have key : ∀ (us : List Addr) (kvs : List (Key × V)), (∀ u ∈ us, u ∈ ts) → Paired (fun (u : Addr) (q : Key × V) => lk B.L Hc u = some (.tup [kV q.1, q.2])) us kvs → Paired (fun (u : Addr) (q : Key × V) => Cf.F { c1 with H := Hc, T := [t] ++ c1.T } B.D u = some (.tup [kV q.1, q.2])) us kvs := by
            intro us
            induction us with
            | nil => intro kvs _ z; cases z; exact .nil
            | cons u us ih =>
              intro kvs hu z
              cases z with
              | cons z1 z2 =>
                have um := hu u List.mem_cons_self
                have un := hnt u um
                refine .cons (F_eq.mpr ⟨fun dd => ?_, fun tt => ?_, fun mm => ?_, atHc _ _ un z1⟩) (ih _ (fun y m => hu y (List.mem_cons_of_mem _ m)) z2)
                · obtain ⟨o, e, _⟩ := a1.rel.live u (.inr dd)
                  rw [un] at e; cases e
                · rcases List.mem_append.mp tt with tt | tt
                  · cases List.mem_singleton.mp tt; exact htn um
                  · obtain ⟨o, e, _⟩ := a1.rel.live u (.inl tt)
                    rw [un] at e; cases e
                · obtain ⟨o, e, _⟩ := a1.rel.cell mm
                  rw [un] at e; cases e
          exact key ts _ (fun _ m => m) hq
        have oi := os_items (G' := Cf.G { c1 with H := Hc, T := [t] ++ c1.T }) (H' := Hc) st.F st.G os hlen hF
        have ow := Own.cell (K := kc X B) (t := .lst) (a := t) (A := [t]) (S := []) ⟨atHc _ _ ht hp, rfl⟩ oi.owns (fun b m z => by cases z)
        exact p1 (.ref t) [t] _ pu rfl (by simpa using ow)
    · exact p1.elim
  · exact p1.elim
end Z

/-! d[k] = v where k changes something else. -/
namespace Z
open PySem PySem.Spec PyProof.Rows L2
section
variable {X : Cx} {B : Bs} {W : WZ} {ms ma mb mc : List Nat} {a b d e o : Expr} {es : List Expr} {fa fb fc : St → Rs PV} {pos p p2 apos cpos : Pos} {ga : St → Rs (List PV)} {i : Nat} {fl : St → Option (List Nat)}
theorem vs_dputM {k : Nat} {tg : Pos} (hr : Room k X.A) (he : VF X B W ms e fa) (ho : VL X B W i o fl) {mk : List Nat} (hi : VE X B W mk b fb) (hmi : i ∉ mk) (hs : swapsWith e (some (.Subscript o b tg)) pos.line X.env = pure false := by rfl) : VS X B W (.Assign [.Subscript o b tg] e pos) (sDPut i fa fl fb) := by
  refine ps_imp (ps_dput (by have := hr.un; omega) ho hi he hs) fun D σ H ⟨c, e, R, T0, h⟩ => ?_
  subst e
  refine evF_run R (Rs.post_bind h) fun y w A c1 a1 oy p1 => ?_
  split at p1
  · rename_i q hq
    split at p1
    · rename_i q0 h0
      refine evL_run a1.rel hq fun v u c2 a2 e2 hu hv => ?_
      rw [← e2] at p1
      refine evE_run a2.rel (Rs.post_bind p1) fun k kv c3 a3 v3 p3 => ?_
      split at p3
      · rename_i kk x ks xs hk h3
        obtain ⟨hx3, hg3⟩ := dctAt_ok h3
        by_cases n : xs.length < sizeLine
        · rw [if_pos n] at p3
          have hv3 := stay a2.rel a3 (.inr hmi) hu hv hx3 hg3
          have a13 : Aft (kc X B) B (ms ++ mk) A c σ c3 := by
            have := (a1.trans a2).trans a3
            simpa using this
          have oy3 : Own (kc X B) (c3.F B.D) c3.G c3.H y w A := (oy.le a2.st.F a2.st.G fun b m o h => a2.st.keep b o (a1.heldM b m) h).le a3.st.F a3.st.G fun b m o h => a3.st.keep b o (fun ⟨j, mj⟩ => by
            have s := a2.fr j (by simp)
            rw [s.As] at mj
            exact a1.heldM b m ⟨j, mj⟩) h
          obtain ⟨p0, ws, A0, S, rfl, io, os, m0, dA, up⟩ := cellUp R a13 hx3 hu hg3 hv3
          have l0 := a3.rel.lkOwn m0
          obtain ⟨ioH, ioL, ioN, ioA⟩ := io
          have hwl : (ks.zip ws).length < sizeLine := by
            have := os.length
            rw [List.length_zip, ioL, Nat.min_self]; omega
          refine ⟨p0, _, rfl, .inl ⟨_, kk, l0.1.trans ioH, v3.key hk, hwl, rfl⟩, ?_⟩
          unfold putD at p3
          cases hn : keyIx ks kk with
          | some m =>
            rw [hn] at p3
            have hml : m < xs.length := by
              have := (List.getElem?_eq_some_iff.mp (keyIx_lt hn)).1
              rw [os.length, ← ioL]; exact this
            obtain ⟨w0, S1, S2, k1, k2, k3, k4, k5⟩ := os.pick (List.getElem?_eq_getElem hml)
            have dA2 : ∀ b ∈ A, b ∉ S2 := fun b m z => dA b m ((k3 b).mpr (.inr z))
            obtain ⟨S', s1, s2⟩ := k5 (c3.F B.D) c3.G c3.H y w A (Le.refl _) (Le.refl _) (fun _ _ _ h => h) oy3 dA2
            rw [putK_some hn ioL ioN]
            obtain ⟨c', a', e1, e2', _⟩ := up (.dK ks) (xs.set m y) (ws.set m w) S' (.dK (ks.zip (ws.set m w))) ⟨upd_same, by simpa using ioL, ioN, ioA⟩ (fun b m => ((s2 b).mp m).elim .inr fun m => .inl ((k3 b).mpr (.inr m))) fun F' G' lf lg k => s1.le lf lg k
            have := p3 σ c' a'.rel a'.st e1
            rw [l0.2, ← e2']; exact this
          | none =>
            rw [hn] at p3
            rw [putK_none hn ioL]
            obtain ⟨c', a', e1, e2', _⟩ := up (.dK (ks ++ [kk])) (xs ++ [y]) (ws ++ [w]) (S ++ A) (.dK ((ks ++ [kk]).zip (ws ++ [w]))) ⟨upd_same, by simp [ioL], List.nodup_append.mpr ⟨ioN, by simp, fun a m b mb => by cases List.mem_singleton.mp mb; exact fun z => keyIx_none hn (z ▸ m)⟩, ioA⟩ (fun b m => List.mem_append.mp m) fun F' G' lf lg k => (os.le lf lg fun b m o h => k b (List.mem_append_left _ m) o h).append ((oy3.le lf lg fun b m o h => k b (List.mem_append_right _ m) o h).single) fun b m z => dA b z m
            have := p3 σ c' a'.rel a'.st e1
            rw [l0.2, ← e2']; exact this
        · rw [if_neg n] at p3; exact p3.elim
      · exact p3.elim
    · exact p1.elim
  · exact p1.elim
end
end Z

/-! k in d as a test. -/
namespace Z
open PySem PySem.Spec PyProof.Rows L2
section
variable {X : Cx} {B : Bs} {W : WZ} {a b e : Expr} {fa fb : St → Rs PV} {ma mb : List Nat} {pos : Pos}
theorem bin2T {r : R2} {g : G2} (hp : POp X B r g) (h : PT X e (L2.tB (tOp r (evE (kc X B) B W ma fa) (evE (kc X B) B W mb fb)))) : VT X B W (ma ++ mb) e (Z.tB (e2 g fa fb)) := by
  refine pt_imp h fun σ H Q ⟨c, e, R, h⟩ => ?_
  subst e
  show evE (kc X B) B W ma fa σ (c.R B) fun x H1 => evE (kc X B) B W mb fb σ H1 fun y H2 => r x y H2 fun u H' => ∃ k, u = .bl k ∧ Q k H'
  refine evE_run R (Rs.post_bind (Rs.post_bind h)) fun x v c1 a1 v1 p1 => ?_
  refine evE_run a1.rel (Rs.post_bind p1) fun y w c2 a2 v2 p2 => ?_
  obtain ⟨z, hz, p3⟩ := ofO_post p2
  refine hp c2 σ x y z v w (fun u H' => ∃ k, u = .bl k ∧ Q k H') a2.rel (v1.step a2.st) v2 hz fun u H' le o => ?_
  cases z with
  | bl b => exact ⟨b, o.blEq, p3 { c2 with H := H' } ((a1.trans a2).grow le) rfl⟩
  | _ => exact p3.elim
theorem vt_din {k : Nat} (hr : Room k X.A) (ha : VE X B W ma a fa) (hb : VE X B W mb b fb) (hm : behindInMarks .In b = false := by rfl) : VT X B W (ma ++ mb) (.Compare a [.In] [b] pos) (Z.tB (e2 (gDIn id) fa fb)) := bin2T (pop_din id) (pt_cmp (pc_din (by have := hr.un; omega) ha hb) hm)
theorem vt_dnotin {k : Nat} (hr : Room k X.A) (ha : VE X B W ma a fa) (hb : VE X B W mb b fb) (hm : behindInMarks .NotIn b = false := by rfl) : VT X B W (ma ++ mb) (.Compare a [.NotIn] [b] pos) (Z.tB (e2 (gDIn not) fa fb)) := bin2T (pop_din not) (pt_cmp (pc_dnotin (by have := hr.un; omega) ha hb) hm)
end
end Z

/-! a op b op c as a test. -/
namespace Z
open PySem PySem.Spec PyProof.Rows L2
section
variable {X : Cx} {B : Bs} {W : WZ} {a b c e : Expr} {fa fb fc : St → Rs PV} {ma mb mc : List Nat} {pos : Pos}
def eChain (g g' : G2) (fa fb fc : St → Rs PV) (s : St) : Rs PV := (fa s).bind fun x s1 => (fb s1).bind fun y s2 => match g s2 x y with
  | some (.bl true) => (fc s2).bind fun z s3 => ofO (g' s3 y z) s3
  | some (.bl false) => .ok (.bl false) s2
  | _ => .bad
theorem vt_chain {op op' : CmpOp} {r r' : R2} {g g' : G2} (ho : OpR X (compareOp op) r) (ho' : OpR X (compareOp op') r') (hp : POp X B r g) (hp' : POp X B r' g') (ha : VE X B W ma a fa) (hb : VE X B W mb b fb) (hc : VE X B W mc c fc)
    (hm : lastMarks [op, op'] [b, c] = false := by with_unfolding_all rfl) : VT X B W ((ma ++ mb) ++ mc) (.Compare a [op, op'] [b, c] pos) (Z.tB (eChain g g' fa fb fc)) := by
  refine pt_imp (pt_chain ho ho' ha hb hc hm) fun σ H Q ⟨c0, e, R, h⟩ => ?_
  subst e
  show evE (kc X B) B W ma fa σ (c0.R B) fun x H1 => evE (kc X B) B W mb fb σ H1 fun y H2 => r x y H2 fun z H3 => ∃ k, z = .bl k ∧ (if k = true then evE (kc X B) B W mc fc σ H3 fun w' H4 => r' y w' H4 fun u H' => ∃ k, u = .bl k ∧ Q k H' else ∃ k', V.bl false = .bl k' ∧ Q k' H3)
  refine evE_run R (Rs.post_bind (Rs.post_bind h)) fun x v c1 a1 v1 p1 => ?_
  refine evE_run a1.rel (Rs.post_bind p1) fun y w c2 a2 v2 p2 => ?_
  split at p2
  · rename_i hz
    refine hp c2 σ x y (.bl true) v w _ a2.rel (v1.step a2.st) v2 hz fun u H' le o => ?_
    have gr := a2.rel.grow (ms := []) le
    refine ⟨true, o.blEq, ?_⟩
    rw [if_pos rfl]
    refine evE_run gr.rel (Rs.post_bind p2) fun z w3 c3 a3 v3 p3 => ?_
    obtain ⟨zz, hzz, p4⟩ := ofO_post p3
    refine hp' c3 σ y z zz w w3 _ a3.rel ((v2.step gr.st).step a3.st) v3 hzz fun u2 H2 le2 o2 => ?_
    cases zz with
    | bl k =>
      refine ⟨k, o2.blEq, p4 { c3 with H := H2 } ?_ rfl⟩
      have t := (((a1.trans a2).trans gr).trans a3).grow le2
      exact (show Aft (kc X B) B ((ma ++ mb) ++ mc) [] c0 σ { c3 with H := H2 } by simpa using t)
    | _ => exact p4.elim
  · rename_i hz
    refine hp c2 σ x y (.bl false) v w _ a2.rel (v1.step a2.st) v2 hz fun u H' le o => ?_
    refine ⟨false, o.blEq, ?_⟩
    rw [if_neg (by decide)]
    have t : Aft (kc X B) B ((ma ++ mb) ++ mc) [] c0 σ { c2 with H := H' } := ((a1.trans a2).grow le).more fun i m => List.mem_append_left _ m
    exact ⟨false, rfl, p2 { c2 with H := H' } (by simpa using t) rfl⟩
  · exact p2.elim
theorem vt_leLt (ha : VE X B W ma a fa) (hb : VE X B W mb b fb) (hc : VE X B W mc c fc) (hm : lastMarks [.LtE, .Lt] [b, c] = false := by with_unfolding_all rfl) : VT X B W ((ma ++ mb) ++ mc) (.Compare a [.LtE, .Lt] [b, c] pos) (Z.tB (eChain gLe gLt fa fb fc)) := vt_chain op_le op_lt (pop_I0 fun _ _ _ _ _ => .bl _) (pop_I0 fun _ _ _ _ _ => .bl _) ha hb hc hm
end
end Z

/-! d.pop(k) of a dict of one's own, where nothing owned lies in it. -/
namespace Z
open PySem PySem.Spec PyProof.Rows L2
theorem dropK_erase {k : Key} : ∀ {ks : List Key} {ws : List V} {n : Nat}, keyIx ks k = some n → ks.length = ws.length → ks.Nodup → dropK (ks.zip ws) k = (ks.eraseIdx n).zip (ws.eraseIdx n)
  | [], _, _, h, _, _ => by cases h
  | k' :: ks, [], _, _, l, _ => by cases l
  | k' :: ks, w :: ws, n, h, l, nd => by
    rw [List.nodup_cons] at nd
    have h0 := h
    unfold keyIx at h
    rw [List.findIdx?_cons] at h
    by_cases e : k' = k
    · rw [decide_eq_true e] at h
      simp only [if_true, Option.some.injEq] at h
      subst h
      subst e
      rw [List.eraseIdx_cons_zero, List.eraseIdx_cons_zero, List.zip_cons_cons]
      unfold dropK
      rw [List.filter_cons_of_neg (by simp)]
      refine List.filter_eq_self.mpr fun q m => ?_
      refine decide_eq_true fun z => nd.1 ?_
      rw [← z]
      exact (List.of_mem_zip m).1
    · rw [decide_eq_false e] at h
      simp only [Bool.false_eq_true, if_false, Option.map_eq_some_iff] at h
      obtain ⟨m, hm, rfl⟩ := h
      rw [List.eraseIdx_cons_succ, List.eraseIdx_cons_succ, List.zip_cons_cons, List.zip_cons_cons]
      unfold dropK
      rw [List.filter_cons_of_pos (by simpa using e)]
      have := dropK_erase (k := k) (ks := ks) (ws := ws) (n := m) hm (Nat.succ.inj l) nd.2
      unfold dropK at this
      rw [this]
section
variable {X : Cx} {B : Bs} {W : WZ} {ms mk : List Nat} {i : Nat} {o e : Expr} {fl : St → Option (List Nat)} {fb : St → Rs PV} {apos cpos : Pos}
def eDPop (i : Nat) (fl : St → Option (List Nat)) (fk : St → Rs PV) (s : St) : Rs PV := match fl s with
  | some q => match dctAt s i q with
    | some _ => (fk s).bind fun k s1 => match keyOf k, dctAt s1 i q with
      | some kk, some (x, ks, xs) => match keyIx ks kk with
        | some m => match xs[m]? with
          | some y => if PV.nowns xs then .ok y (s1.set i (some (setP x q (.cell .own (.dK (ks.eraseIdx m)) (xs.eraseIdx m))))) else .bad
          | none => .bad
        | none => .bad
      | _, _ => .bad
    | none => .bad
  | none => .bad
theorem ve_dpop (ho : VL X B W i o fl) (hi : VE X B W mk e fb) (hmi : i ∉ mk) (m : M1 X o "pop" apos e cpos := by exact ⟨by rfl, by rfl, by rfl⟩) : VE X B W (mk ++ [i]) (.Call (.Attribute o "pop" apos) [e] [] cpos) (eDPop i fl fb) := by
  refine pe_imp (pe_dpop1 ho hi m) fun σ H Q ⟨c, e, R, hh⟩ => ?_
  subst e
  unfold eDPop at hh
  split at hh
  · rename_i q hq
    split at hh
    · rename_i q0 h0
      obtain ⟨x00, ks00, xs00⟩ := q0
      obtain ⟨hx00, hg00⟩ := dctAt_ok h0
      refine evL_run R hq fun v u c2 a2 e2 hu hv => ?_
      have hx0' := hx00
      rw [← e2] at hx0' hh
      obtain ⟨p0, ws0, A00, S0, rfl, io0, _, m0, _, _⟩ := cellUp R a2 hx0' hu hg00 hv
      have l0 := a2.rel.lkOwn m0
      refine ⟨p0, rfl, .inl ⟨_, .inl (l0.1.trans io0.1)⟩, ?_⟩
      refine evE_run a2.rel (Rs.post_bind hh) fun k kv c3 a3 v3 p3 => ?_
      split at p3
      · rename_i kk x ks xs hk h3
        obtain ⟨hx3, hg3⟩ := dctAt_ok h3
        split at p3
        · rename_i n hn
          split at p3
          · rename_i y hy
            by_cases no : PV.nowns xs = true
            · rw [if_pos no] at p3
              have hv3 := stay a2.rel a3 (.inr hmi) hu hv hx3 hg3
              obtain ⟨p1, ws, A0, S, ep, io, os, m1, dA, up⟩ := cellUp a2.rel a3 hx3 hu hg3 hv3
              cases ep
              have l1 := a3.rel.lkOwn m1
              obtain ⟨ioH, ioL, ioN, ioA⟩ := io
              have os' := os.os (os.nown no)
              obtain ⟨w, g1, g2⟩ := os'.get hy
              obtain ⟨w', g3, g4⟩ := keyIx_val hn ioL
              rw [g1] at g3; cases g3
              refine ⟨_, kk, w, l1.1.trans ioH, v3.key hk, g4, ?_⟩
              rw [dropK_erase hn ioL ioN]
              have nd2 : (ks.eraseIdx n).Nodup := ioN.sublist (List.eraseIdx_sublist ks n)
              have len2 : (ks.eraseIdx n).length = (ws.eraseIdx n).length := by rw [List.length_eraseIdx, List.length_eraseIdx, ioL]
              obtain ⟨c', a', e1, e2', l3, l4⟩ := up (.dK (ks.eraseIdx n)) (xs.eraseIdx n) (ws.eraseIdx n) [] (.dK ((ks.eraseIdx n).zip (ws.eraseIdx n))) ⟨upd_same, len2, nd2, ioA⟩ (fun b m => by cases m) fun F' G' lf lg k => ((os'.eraseIdx n).le lf lg).owns
              have aa : Aft (kc X B) B (mk ++ [i]) [] c σ c' := by
                have := a2.trans a'
                simpa using this
              have := p3 w c' aa e1 (.inr (g2.le l3 l4 fun _ m => by cases m))
              rw [l1.2, ← e2']; exact this
            · rw [if_neg no] at p3; exact p3.elim
          · exact p3.elim
        · exact p3.elim
      · exact p3.elim
    · exact hh.elim
  · exact hh.elim
end
end Z

/-! a is True, a is not False: of truths. -/
namespace Z
open PySem PySem.Spec PyProof.Rows L2
section
variable {X : Cx} {B : Bs} {W : WZ} {a b e : Expr} {fa fb : St → Rs PV} {ma mb : List Nat} {pos : Pos}
def gIsB (f : Bool → Bool) : G2 := fun _ x y => match x, y with
  | .bl a, .bl b => some (.bl (f (decide (a = b))))
  | _, _ => none
theorem pop_isB : POp X B (fun x y H Q => ∃ a b, x = .bl a ∧ y = .bl b ∧ Q (.bl (decide (a = b))) H) (gIsB id) := by
  intro c σ x y z v w Q R hx hy hz h
  unfold gIsB at hz
  split at hz
  · rename_i a b
    cases hz
    exact ⟨a, b, hx.bl, hy.bl, h (.bl (decide (a = b))) c.H (Le.refl _) (.bl _)⟩
  · cases hz
theorem pop_notB : POp X B (fun x y H Q => ∃ a b, x = .bl a ∧ y = .bl b ∧ Q (.bl (!decide (a = b))) H) (gIsB not) := by
  intro c σ x y z v w Q R hx hy hz h
  unfold gIsB at hz
  split at hz
  · rename_i a b
    cases hz
    exact ⟨a, b, hx.bl, hy.bl, h (.bl (!decide (a = b))) c.H (Le.refl _) (.bl _)⟩
  · cases hz
theorem ve_isB (ha : VE X B W ma a fa) (hb : VE X B W mb b fb) : VE X B W (ma ++ mb) (.Compare a [.Is] [b] pos) (e2 (gIsB id) fa fb) := ve_cmp op_is_bl pop_isB ha hb (nomark _)
theorem ve_notB (ha : VE X B W ma a fa) (hb : VE X B W mb b fb) : VE X B W (ma ++ mb) (.Compare a [.IsNot] [b] pos) (e2 (gIsB not) fa fb) := ve_cmp op_isnot_bl pop_notB ha hb (nomark _)
theorem vt_isB (ha : VE X B W ma a fa) (hb : VE X B W mb b fb) : VT X B W (ma ++ mb) (.Compare a [.Is] [b] pos) (tB (e2 (gIsB id) fa fb)) := vt_cmp op_is_bl pop_isB ha hb (nomark _)
theorem vt_notB (ha : VE X B W ma a fa) (hb : VE X B W mb b fb) : VT X B W (ma ++ mb) (.Compare a [.IsNot] [b] pos) (tB (e2 (gIsB not) fa fb)) := vt_cmp op_isnot_bl pop_notB ha hb (nomark _)
end
end Z

/-! instances: an attribute read, set; a method called; an instance made. -/
namespace Z
open PySem PySem.Spec PyProof.Rows L2
/-! ### names of attributes -/
def nIx (ns : List Str) (f : Str) : Option Nat := ns.findIdx? fun g => decide (g = f)
theorem nIx_val {f : Str} : ∀ {ns : List Str} {ws : List V} {n : Nat}, nIx ns f = some n → ns.length = ws.length → (ns.zip ws).lookup f = ws[n]? ∧ ∀ w, putF f w (ns.zip ws) = ns.zip (ws.set n w)
  | [], _, _, h, _ => by cases h
  | g :: ns, [], _, _, l => by cases l
  | g :: ns, w :: ws, n, h, l => by
    unfold nIx at h
    rw [List.findIdx?_cons] at h
    rw [List.zip_cons_cons]
    by_cases e : g = f
    · rw [decide_eq_true e] at h
      simp only [if_true, Option.some.injEq] at h
      subst h; subst e
      refine ⟨by simp [List.lookup], fun w' => ?_⟩
      rw [putF, if_pos rfl]; rfl
    · rw [decide_eq_false e] at h
      simp only [Bool.false_eq_true, if_false, Option.map_eq_some_iff] at h
      obtain ⟨m, hm, rfl⟩ := h
      obtain ⟨h1, h2⟩ := nIx_val (f := f) (ns := ns) (ws := ws) (n := m) hm (Nat.succ.inj l)
      refine ⟨?_, fun w' => ?_⟩
      · rw [List.getElem?_cons_succ, ← h1]
        have : (f == g) = false := by simpa using fun z => e z.symm
        simp [List.lookup, this]
      · rw [putF, if_neg e, h2, List.set_cons_succ, List.zip_cons_cons]
theorem nIx_none {f : Str} : ∀ {ns : List Str} {ws : List V}, nIx ns f = none → ns.length = ws.length → (ns.zip ws).lookup f = none ∧ ∀ w, putF f w (ns.zip ws) = (ns ++ [f]).zip (ws ++ [w])
  | [], ws, _, l => by
    have : ws = [] := List.length_eq_zero_iff.mp l.symm
    subst this
    exact ⟨rfl, fun w => rfl⟩
  | g :: ns, [], _, l => by cases l
  | g :: ns, w :: ws, h, l => by
    unfold nIx at h
    rw [List.findIdx?_cons] at h
    rw [List.zip_cons_cons]
    by_cases e : g = f
    · rw [decide_eq_true e] at h; cases h
    · rw [decide_eq_false e] at h
      simp only [Bool.false_eq_true, if_false, Option.map_eq_none_iff] at h
      obtain ⟨h1, h2⟩ := nIx_none (f := f) (ns := ns) (ws := ws) h (Nat.succ.inj l)
      refine ⟨?_, fun w' => ?_⟩
      · have : (f == g) = false := by simpa using fun z => e z.symm
        simp [List.lookup, this, h1]
      · rw [putF, if_neg e, h2]; rfl
theorem nIx_lt {f : Str} {ns : List Str} {n : Nat} (h : nIx ns f = some n) : n < ns.length := by
  unfold nIx at h
  exact (List.findIdx?_eq_some_iff_getElem.mp h).1
section
variable {X : Cx} {B : Bs} {W : WZ} {ms ma mb : List Nat} {i : Nat} {o e : Expr} {es : List Expr} {fa fo : St → Rs PV} {ga : St → Rs (List PV)} {fl : St → Option (List Nat)} {pos apos p2 p : Pos} {cn f m : Str}
/-! ### a place -/
def lAt (i : Nat) (cn f : Str) (fl : St → Option (List Nat)) (s : St) : Option (List Nat) := match fl s with
  | some q => match getS s i q with
    | some (.cell .own (.ins c ns) _) => if c = cn then (nIx ns f).map fun n => q ++ [n] else none
    | _ => none
  | none => none
theorem vl_attr (hc : Cls X.K (B.C cn)) (hn : NoAttr X.K (B.C cn) f) (ho : VL X B W i o fl) (hb : attributeBase o f X.env (eval o X.env) = eval o X.env := by rfl) : VL X B W i (.Attribute o f pos) (lAt i cn f fl) := by
  refine pe_imp (pe_fld ho hb) fun σ H Q ⟨c, e, R, q, hq, h⟩ => ?_
  subst e
  unfold lAt at hq
  split at hq
  · rename_i q0 hq0
    split at hq
    · rename_i c' ns xs hg
      by_cases ec : c' = cn
      · rw [if_pos ec] at hq
        subst ec
        cases hx : nIx ns f with
        | none => rw [hx] at hq; cases hq
        | some n =>
          rw [hx] at hq
          cases hq
          obtain ⟨x, hx1, hx2⟩ := getS_ok hg
          refine evL_run R hq0 fun v u c1 a1 e1 hu hv => ?_
          rw [← e1] at hx1
          obtain ⟨p0, ws, A0, S, rfl, io, os, m0, _, _⟩ := cellUp R a1 hx1 hu hx2 hv
          obtain ⟨dx, io1, io2, io3, io4⟩ := io
          obtain ⟨k1, _⟩ := nIx_val hx io3
          have hnl := nIx_lt hx
          have hw : ws[n]? = some (ws[n]'(by omega)) := List.getElem?_eq_getElem _
          refine ⟨p0, B.C c', dx, _, _, rfl, a1.rel.lkGet io1 (fun z => z), hc, hn, k1.trans hw, ?_⟩
          refine h _ c1 a1 e1 ⟨u, hu, ?_⟩
          rw [atP_snoc, hv]
          show (c1.H p0).bind (fun o => (kidO o n).bind fun w => atP c1.H w []) = _
          rw [io1]
          show (((ns.zip ws)[n]?).map (·.2)).bind _ = _
          rw [zip_snd io3, hw]
          rfl
      · rw [if_neg ec] at hq; cases hq
    · cases hq
  · cases hq
/-! ### a value -/
def eAttr (cn f : Str) (fo : St → Rs PV) (s : St) : Rs PV := (fo s).bind fun x s1 => match look s1 x with
  | .cell _ (.ins c ns) xs => if c = cn then match nIx ns f with
      | some n => match xs[n]? with
        | some y => if y.nown then .ok y s1 else .bad
        | none => .bad
      | none => .bad
    else .bad
  | _ => .bad
theorem ve_attr (hc : Cls X.K (B.C cn)) (hn : NoAttr X.K (B.C cn) f) (ho : VE X B W ms o fo) (hb : attributeBase o f X.env (eval o X.env) = eval o X.env := by rfl) : VE X B W ms (.Attribute o f pos) (eAttr cn f fo) := by
  refine pe_imp (pe_fld ho hb) fun σ H Q ⟨c, e, R, h⟩ => ?_
  subst e
  refine evE_run R (Rs.post_bind h) fun x v c1 a1 v1 p1 => ?_
  split at p1
  · rename_i fg c' ns xs hl
    by_cases ec : c' = cn
    · rw [if_pos ec] at p1
      subst ec
      split at p1
      · rename_i n hx
        split at p1
        · rename_i y hy
          by_cases no : y.nown = true
          · rw [if_pos no] at p1
            obtain ⟨p0, ws, A0, S, rfl, io, os⟩ := a1.rel.cellOf v1 hl
            obtain ⟨dx, io1, io2, io3, io4⟩ := io
            obtain ⟨k1, _⟩ := nIx_val hx io3
            obtain ⟨w, S1, S2, g1, g2, _⟩ := os.pick hy
            refine ⟨p0, B.C c', dx, _, w, rfl, a1.rel.lkGet io1 (fun z => z), hc, hn, k1.trans g1, ?_⟩
            have := g2.nown no
            subst this
            exact p1 w c1 a1 rfl (.inr g2)
          · rw [if_neg no] at p1; exact p1.elim
        · exact p1.elim
      · exact p1.elim
    · rw [if_neg ec] at p1; exact p1.elim
  · exact p1.elim
/-! ### set -/
def insAt (s : St) (i : Nat) (q : List Nat) : Option (PV × Str × List Str × List PV) := match s[i]? with
  | some (some x) => match getP x q with
    | some (.cell .own (.ins c ns) xs) => some (x, c, ns, xs)
    | _ => none
  | _ => none
theorem insAt_ok {s : St} {q : List Nat} {x : PV} {c : Str} {ns : List Str} {xs : List PV} (h : insAt s i q = some (x, c, ns, xs)) : s[i]? = some (some x) ∧ getP x q = some (.cell .own (.ins c ns) xs) := by
  unfold insAt at h
  split at h
  · rename_i y e
    split at h
    · rename_i c' ns' xs' g; cases h; exact ⟨e, g⟩
    · cases h
  · cases h
def putA (c : Str) (ns : List Str) (xs : List PV) (f : Str) (y : PV) : PV := match nIx ns f with
  | some n => .cell .own (.ins c ns) (xs.set n y)
  | none => .cell .own (.ins c (ns ++ [f])) (xs ++ [y])
def sAt (i : Nat) (cn f : Str) (fe : St → Rs PV) (fl : St → Option (List Nat)) : Sm := fun s => (fe s).bind fun y s1 => match fl s1 with
  | some q => match insAt s1 i q with
    | some (x, c, ns, xs) => if c = cn ∧ xs.length < 900 then .ok .nx (s1.set i (some (setP x q (putA c ns xs f y)))) else .bad
    | none => .bad
  | none => .bad
theorem vs_attr {tg : Pos} (hc : Cls X.K (B.C cn)) (hn : NoAttr X.K (B.C cn) f) (he : VF X B W ms e fa) (ho : VL X B W i o fl) (hs : swapsWith e (some (.Attribute o f tg)) pos.line X.env = pure false := by rfl) : VS X B W (.Assign [.Attribute o f tg] e pos) (sAt i cn f fa fl) := by
  refine ps_imp (ps_fld ho he hs) fun D σ H ⟨c, e, R, T0, h⟩ => ?_
  subst e
  refine evF_run R (Rs.post_bind h) fun y w A c1 a1 oy p1 => ?_
  split at p1
  · rename_i q hq
    split at p1
    · rename_i x c' ns xs h0
      obtain ⟨hx0, hg0⟩ := insAt_ok h0
      by_cases n : c' = cn ∧ xs.length < 900
      · rw [if_pos n] at p1
        obtain ⟨ec, hlen⟩ := n
        subst ec
        refine evL_run a1.rel hq fun v u c3 a3 e2 hu hv => ?_
        have hx3 := hx0
        rw [← e2] at hx3
        have a13 : Aft (kc X B) B ms A c σ c3 := by
          have := a1.trans a3
          simpa using this
        have oy3 : Own (kc X B) (c3.F B.D) c3.G c3.H y w A := oy.le a3.st.F a3.st.G fun b m o h => a3.st.keep b o (a1.heldM b m) h
        obtain ⟨p0, ws, A0, S, rfl, io, os, m0, dA, up⟩ := cellUp R a13 hx3 hu hg0 hv
        have l0 := a3.rel.lkOwn m0
        obtain ⟨dx, io1, io2, io3, io4⟩ := io
        have hwl := os.length
        have ne : dx ≠ p0 := fun z => by rw [z, io1] at io2; cases io2
        have hown : ∀ ob, upd c3.H p0 ob dx = some (.own p0) := fun ob => by rw [upd_ne ne]; exact io2
        refine ⟨p0, B.C c', dx, _, rfl, a3.rel.lkGet io1 (fun z => z), hc, hn, ?_, ?_⟩
        · rw [List.length_zip, io3, Nat.min_self]; omega
        · unfold putA at p1
          cases hx : nIx ns f with
          | some k =>
            rw [hx] at p1
            have hk : k < xs.length := by have := nIx_lt hx; omega
            obtain ⟨w0, S1, S2, k1, k2, k3, k4, k5⟩ := os.pick (List.getElem?_eq_getElem hk)
            have dA2 : ∀ b ∈ A, b ∉ S2 := fun b m z => dA b m ((k3 b).mpr (.inr z))
            rw [(nIx_val hx io3).2]
            have step : ∀ (F' G' H' : Hp), Le (c3.F B.D) F' → Le c3.G G' → (∀ b, b ∈ S2 ∨ b ∈ A → ∀ o, c3.H b = some o → H' b = some o) → ∃ S', Owns (kc X B) F' G' H' (xs.set k y) (ws.set k w) S' ∧ ∀ b, b ∈ S' ↔ b ∈ A ∨ b ∈ S2 := fun F' G' H' lf lg kk => k5 F' G' H' y w A lf lg (fun b m o z => kk b (.inl m) o z) (oy3.le lf lg fun b m o z => kk b (.inr m) o z) dA2
            obtain ⟨S', s1, s2⟩ := step (c3.F B.D) c3.G c3.H (Le.refl _) (Le.refl _) (fun _ _ _ h => h)
            obtain ⟨c', a', e1, e2', _⟩ := up (.ins c' ns) (xs.set k y) (ws.set k w) S' (.ins (B.C c') dx (ns.zip (ws.set k w))) ⟨dx, upd_same, hown _, by simpa using io3, io4⟩ (fun b m => ((s2 b).mp m).elim .inr fun m => .inl ((k3 b).mpr (.inr m))) fun F' G' lf lg k => s1.le lf lg k
            have := p1 σ c' a'.rel a'.st (by rw [e1, e2])
            rw [l0.2, ← e2']; exact this
          | none =>
            rw [hx] at p1
            rw [(nIx_none hx io3).2]
            obtain ⟨c', a', e1, e2', _⟩ := up (.ins c' (ns ++ [f])) (xs ++ [y]) (ws ++ [w]) (S ++ A) (.ins (B.C c') dx ((ns ++ [f]).zip (ws ++ [w]))) ⟨dx, upd_same, hown _, by simp [io3], io4⟩ (fun b m => List.mem_append.mp m) fun F' G' lf lg k => (os.le lf lg fun b m o h => k b (List.mem_append_left _ m) o h).append ((oy3.le lf lg fun b m o h => k b (List.mem_append_right _ m) o h).single) fun b m z => dA b z m
            have := p1 σ c' a'.rel a'.st (by rw [e1, e2])
            rw [l0.2, ← e2']; exact this
      · rw [if_neg n] at p1; exact p1.elim
    · exact p1.elim
  · exact p1.elim
end
end Z

/-! a method of an instance called. -/
namespace Z
open PySem PySem.Spec PyProof.Rows L2
def tMethZ (C : Addr) (m : Str) (sp : Sp) (E : L2.St → XK) (ta : TE) (t : TA) : TE := fun σ H Q => ta σ H fun x H1 => ∃ a dx fs, x = .ref a ∧ H1 a = some (.ins C dx fs) ∧ fs.lookup m = none ∧ t σ H1 fun vs H2 => sp (x :: vs) H2 Q (E σ)
section
variable {X : Cx} {CX : CXT} {k : Nat} {g C : Addr} {fd : FuncData} {ps : List Str} {sp : Sp} {E : L2.St → XK} {m : Str} {pos apos : Pos} {e o : Expr} {es : List Expr} {ta : TE} {t : TA}
theorem pe_methZ {pl : Sem Bool} (ho : PE X o ta) (hc : Cls X.K C) (hm : Meth X.K C m g) (F : FnOk X.prog X.w X.K X.mg X.base CX k g fd ps sp) (hr : Room k X.A) (hb : Binds X.K fd ps []) (hx : ∀ σ, PassesAt CX X σ (E σ)) (ha : PA X (e :: es) t)
    (h1 : starEach (e :: es) X.env = (false, eval e X.env) :: starEach es X.env := by rfl) (h2 : (backTo pos (starEach es X.env)).any (·.1) = false := by rfl)
    (h3 : eval (.Call (.Attribute o m apos) (e :: es) [] pos) X.env = (do
        let ov ← eval o X.env
        standAt apos.atName
        let (f, first) ← holding [ov] (getMethod ov m pl)
        callWith pos f first (backTo pos (starEach (e :: es) X.env)) (backToKw pos (keywordEach [] X.env))) := by rfl) : PE X (.Call (.Attribute o m apos) (e :: es) [] pos) (tMethZ C m sp E ta t) := by
  constructor
  intro pins s σ H Q I hq
  apply PySem.W.methodCall_KW (pl := pl) _ h3
  refine thn (ho.run pins s σ H _ I hq) ?_
  rintro u s1 ⟨x, H1, I1, rx, a, dx, fs, rfl, ea, l, q⟩
  obtain rfl : u = Value.ref a := rx
  refine getmeth_ok I1 ea hc hm l (PySem.W.callWith_K (first := [.ref a]) (h₀ := X.base) I1.ok.mod.kin hm.kp (thn (ha.run pos pins s1 σ H1 _ I1 q) ?_) h1 h2)
  rintro us s2 ⟨vs, H2, I2, r, q2⟩
  exact ⟨I2.kIn, run_fnS (us := .ref a :: us) (vs := .ref a :: vs) F hr hb (hx σ) I2 (.cons rfl r) q2⟩
theorem pe_methZ0 {pl : Sem Bool} (ho : PE X o ta) (hc : Cls X.K C) (hm : Meth X.K C m g) (F : FnOk X.prog X.w X.K X.mg X.base CX k g fd ps sp) (hr : Room k X.A) (hb : Binds X.K fd ps []) (hx : ∀ σ, PassesAt CX X σ (E σ))
    (h3 : eval (.Call (.Attribute o m apos) [] [] pos) X.env = (do
        let ov ← eval o X.env
        standAt apos.atName
        let (f, first) ← holding [ov] (getMethod ov m pl)
        callWith pos f first (backTo pos (starEach [] X.env)) (backToKw pos (keywordEach [] X.env))) := by rfl) : PE X (.Call (.Attribute o m apos) [] [] pos) (tMethZ C m sp E ta tNil) := by
  constructor
  intro pins s σ H Q I hq
  apply PySem.W.methodCall_KW (pl := pl) _ h3
  refine thn (ho.run pins s σ H _ I hq) ?_
  rintro u s1 ⟨x, H1, I1, rx, a, dx, fs, rfl, ea, l, q⟩
  obtain rfl : u = Value.ref a := rx
  refine getmeth_ok I1 ea hc hm l (PySem.W.callWith_K0 (first := [.ref a]) I1.kIn hm.kp ?_)
  exact run_fnS (us := [.ref a]) (vs := [.ref a]) F hr hb (hx σ) I1 (.cons rfl .nil) q
end
/-- a method's promise -/
structure Me (P : Program) (w : World) (K : KC) (mg : Str → Option Value) (base : Heap) (cn m : Str) (k : Nat) (mu : List Bool) (run : List PV → Fr) : Prop where
  cls : Cls K.k (K.C cn)
  ex : ∃ f fd ps, Meth K.k (K.C cn) m f ∧ Binds K.k fd ps [] ∧ FnOk P w K.k mg base (L2.CX P w) k f fd ps (toSp K mu run)
theorem Me.mono {P : Program} {w : World} {K : KC} {mg : Str → Option Value} {base : Heap} {cn m : Str} {j k : Nat} {mu : List Bool} {run : List PV → Fr} (F : Me P w K mg base cn m j mu run) (h : j ≤ k) : Me P w K mg base cn m k mu run := by
  obtain ⟨f, fd, ps, h2, h3, h4⟩ := F.ex
  exact ⟨F.cls, f, fd, ps, h2, h3, h4.mono h⟩
/-- what stands at an argument -/
def insM (s : St) (cn m : Str) (x : PV) : Bool := match lookP s x with
  | some (.cell _ (.ins c ns) _) => decide (c = cn) && (nIx ns m).isNone
  | _ => false
theorem insM_ok {s : St} {cn m : Str} {x : PV} (h : insM s cn m x = true) : ∃ f ns xs, lookP s x = some (.cell f (.ins cn ns) xs) ∧ nIx ns m = none := by
  unfold insM at h
  split at h
  · rename_i f c ns xs e
    rw [Bool.and_eq_true, decide_eq_true_eq] at h
    obtain ⟨rfl, h⟩ := h
    exact ⟨f, ns, xs, e, Option.isNone_iff_eq_none.mp h⟩
  · cases h
theorem Rel.insOf {K : KC} {B : Bs} {c : Cf} {σ : L2.St} {x : PV} {v : V} {f : Fl} {cn : Str} {ns : List Str} {xs : List PV} (R : Rel K B c σ) (h : Vp K B c σ x v) (e : lookP c.s x = some (.cell f (.ins cn ns) xs)) : ∃ a dx ws, v = .ref a ∧ c.H a = some (.ins (K.C cn) dx (ns.zip ws)) ∧ ns.length = ws.length := by
  have key : ∀ {A : List Addr}, Own K (c.F B.D) c.G c.H (.cell f (.ins cn ns) xs) v A → ∃ a dx ws, v = .ref a ∧ c.H a = some (.ins (K.C cn) dx (ns.zip ws)) ∧ ns.length = ws.length := fun o => by
    obtain ⟨a, ws, A0, S, rfl, io, _, _⟩ := o.view F_le G_le
    obtain ⟨dx, h1, _, h3, _⟩ := io
    exact ⟨a, dx, ws, rfl, h1, h3⟩
  rcases h with ⟨i, p, u, rfl, hu, hv⟩ | o
  · obtain ⟨y, h1, h2⟩ := lookP_loc e
    obtain ⟨u', h3, h4⟩ := R.own i y h1
    rw [hu] at h3; cases h3
    obtain ⟨w, A1, A2, g1, g2, _⟩ := h4.path p h2 F_le
    rw [hv] at g1; cases g1
    exact key g2
  · have : lookP c.s x = some x := by
      cases x with
      | loc i p => exact (not_loc o).elim
      | _ => rfl
    rw [this] at e; cases e
    exact key o
section
variable {X : Cx} {B : Bs} {W : WZ} {ms ma mb : List Nat} {o e : Expr} {es : List Expr} {fo : St → Rs PV} {ga : St → Rs (List PV)} {pos apos : Pos} {cn m : Str}
def aM (cn m : Str) (f : St → Rs PV) (g : St → Rs (List PV)) (s : St) : Rs (List PV) := (f s).bind fun x s1 => if insM s1 cn m x then (g s1).bind fun xs s2 => .ok (x :: xs) s2 else .bad
def aMP (cn m : Str) (f : St → Rs PV) (g : St → Rs (List PV)) (s : St) : Rs (List PV) := (f s).bind fun x s1 => if insM s1 cn m x && (erQ s1 x).isSome then (g s1).bind fun xs s2 => .ok (x :: xs) s2 else .bad
theorem meth_imp (mm : List Nat) {mu : List Bool} {run : List PV → Fr} {σ : L2.St} {H : Hp} {Q : VK} (h : evF (kc X B) B W ((ma ++ mb) ++ mm) (callF mm mu run (aM cn m fo ga)) σ H Q) :
    tMethZ (B.C cn) m (toSp (kc X B) mu run) (WE (WP (kc X B) B W)) (evE (kc X B) B W ma fo) (evA (kc X B) B W mb ga) σ H Q := by
  obtain ⟨c, e, R, h⟩ := h
  subst e
  refine evE_run R (Rs.post_bind (Rs.post_bind h)) fun x v c1 a1 v1 p1 => ?_
  by_cases n : insM c1.s cn m x = true
  · rw [if_pos n] at p1
    obtain ⟨f, ns, xs, e1, e2⟩ := insM_ok n
    obtain ⟨a, dx, ws, rfl, h1, h2⟩ := a1.rel.insOf v1.vp e1
    refine ⟨a, dx, _, rfl, a1.rel.lkGet h1 (fun z => z), (nIx_none e2 h2).1, ?_⟩
    refine evA_run a1.rel (Rs.post_bind p1) fun ys vs c2 a2 v2 p2 => ?_
    have p2 : (match argsOf c2.s mu (x :: ys) with
      | some zs => if (okLocs mu (x :: ys) && (mutSlots mu (x :: ys)).all (fun i => mm.contains i)) = true then back c2.s mu (x :: ys) (run zs) else Rs.bad
      | none => .bad).post _ W := p2
    split at p2
    · rename_i zs ea
      by_cases n : (okLocs mu (x :: ys) && (mutSlots mu (x :: ys)).all (fun i => mm.contains i)) = true
      · rw [if_pos n] at p2
        have n := Bool.and_eq_true_iff.mp n
        exact call_end (a1.trans a2) (Vls.cons (v1.step a2.st) v2).vps ea n.1 n.2 p2
      · rw [if_neg n] at p2; exact p2.elim
    · exact p2.elim
  · rw [if_neg n] at p1; exact p1.elim
theorem vf_meth (mm : List Nat) {k : Nat} {mu : List Bool} {run : List PV → Fr} {pl : Sem Bool} (F : Me X.prog X.w (kc X B) X.mg X.base cn m k mu run) (hr : Room k X.A) (tk : Takes X (WP (kc X B) B W)) (ho : VE X B W ma o fo) (ha : VA X B W mb (e :: es) ga)
    (h1 : starEach (e :: es) X.env = (false, eval e X.env) :: starEach es X.env := by rfl) (h2 : (backTo pos (starEach es X.env)).any (·.1) = false := by rfl)
    (h3 : eval (.Call (.Attribute o m apos) (e :: es) [] pos) X.env = (do
        let ov ← eval o X.env
        standAt apos.atName
        let (f, first) ← holding [ov] (getMethod ov m pl)
        callWith pos f first (backTo pos (starEach (e :: es) X.env)) (backToKw pos (keywordEach [] X.env))) := by rfl) : VF X B W ((ma ++ mb) ++ mm) (.Call (.Attribute o m apos) (e :: es) [] pos) (callF mm mu run (aM cn m fo ga)) := by
  obtain ⟨f, fd, ps, hm, bd, ok⟩ := F.ex
  exact pe_imp (pe_methZ (E := WE (WP (kc X B) B W)) ho F.cls hm ok hr bd (fun σ => passAt tk σ) ha h1 h2 h3) fun σ H Q h => meth_imp mm h
theorem vf_meth0 (mm : List Nat) {k : Nat} {mu : List Bool} {run : List PV → Fr} {pl : Sem Bool} (F : Me X.prog X.w (kc X B) X.mg X.base cn m k mu run) (hr : Room k X.A) (tk : Takes X (WP (kc X B) B W)) (ho : VE X B W ma o fo)
    (h3 : eval (.Call (.Attribute o m apos) [] [] pos) X.env = (do
        let ov ← eval o X.env
        standAt apos.atName
        let (f, first) ← holding [ov] (getMethod ov m pl)
        callWith pos f first (backTo pos (starEach [] X.env)) (backToKw pos (keywordEach [] X.env))) := by rfl) : VF X B W ((ma ++ []) ++ mm) (.Call (.Attribute o m apos) [] [] pos) (callF mm mu run (aM cn m fo aNil)) := by
  obtain ⟨f, fd, ps, hm, bd, ok⟩ := F.ex
  refine pe_imp (pe_methZ0 (E := WE (WP (kc X B) B W)) ho F.cls hm ok hr bd (fun σ => passAt tk σ) h3) fun σ H Q h => ?_
  obtain ⟨c, e, R, h⟩ := h
  subst e
  refine evE_run R (Rs.post_bind (Rs.post_bind h)) fun x v c1 a1 v1 p1 => ?_
  by_cases n : insM c1.s cn m x = true
  · rw [if_pos n] at p1
    obtain ⟨f, ns, xs, e1, e2⟩ := insM_ok n
    obtain ⟨a, dx, ws, rfl, h1, h2⟩ := a1.rel.insOf v1.vp e1
    refine ⟨a, dx, _, rfl, a1.rel.lkGet h1 (fun z => z), (nIx_none e2 h2).1, ?_⟩
    have p1 : (match argsOf c1.s mu [x] with
      | some zs => if (okLocs mu [x] && (mutSlots mu [x]).all (fun i => mm.contains i)) = true then back c1.s mu [x] (run zs) else Rs.bad
      | none => .bad).post _ W := p1
    show toSp (kc X B) mu run [.ref a] (c1.R B) Q _
    split at p1
    · rename_i zs ea
      by_cases n : (okLocs mu [x] && (mutSlots mu [x]).all (fun i => mm.contains i)) = true
      · rw [if_pos n] at p1
        have n := Bool.and_eq_true_iff.mp n
        have a1' : Aft (kc X B) B (ma ++ []) [] c σ c1 := by simpa using a1
        exact call_end a1' (Vls.cons v1 .nil).vps ea n.1 n.2 p1
      · rw [if_neg n] at p1; exact p1.elim
    · exact p1.elim
  · rw [if_neg n] at p1; exact p1.elim
/-! .. of an instance at a place -/
theorem vf_methP (mm : List Nat) {k : Nat} {mu : List Bool} {run : List PV → Fr} {pl : Sem Bool} (F : Me X.prog X.w (kc X B) X.mg X.base cn m k mu run) (hr : Room k X.A) (tk : Takes X (WP (kc X B) B W)) (ho : VP X B W o fo) (ha : VPA X B W (e :: es) ga)
    (h1 : starEach (e :: es) X.env = (false, eval e X.env) :: starEach es X.env := by rfl) (h2 : (backTo pos (starEach es X.env)).any (·.1) = false := by rfl)
    (h3 : eval (.Call (.Attribute o m apos) (e :: es) [] pos) X.env = (do
        let ov ← eval o X.env
        standAt apos.atName
        let (f, first) ← holding [ov] (getMethod ov m pl)
        callWith pos f first (backTo pos (starEach (e :: es) X.env)) (backToKw pos (keywordEach [] X.env))) := by rfl) : VF X B W mm (.Call (.Attribute o m apos) (e :: es) [] pos) (callF mm mu run (aMP cn m fo ga)) := by
  obtain ⟨f, fd, ps, hm, bd, ok⟩ := F.ex
  refine pe_imp (pe_methZ (E := WE (WP (kc X B) B W)) ho F.cls hm ok hr bd (fun σ => passAt tk σ) ha h1 h2 h3) fun σ H Q h => ?_
  obtain ⟨c, e, R, h⟩ := h
  subst e
  refine evP_run R (Rs.post_bind (Rs.post_bind h)) fun x v c1 a1 v1 p1 => ?_
  by_cases n : (insM c1.s cn m x && (erQ c1.s x).isSome) = true
  · rw [if_pos n] at p1
    obtain ⟨n0, nQ⟩ := Bool.and_eq_true_iff.mp n
    obtain ⟨f, ns, xs, e1, e2⟩ := insM_ok n0
    obtain ⟨a, dx, ws, rfl, g1, g2⟩ := a1.rel.insOf v1 e1
    refine ⟨a, dx, _, rfl, a1.rel.lkGet g1 (fun z => z), (nIx_none e2 g2).1, ?_⟩
    refine evPA_run a1.rel (Rs.post_bind p1) fun ys vs c2 a2 v2 p2 => ?_
    have p2 : (match argsOf c2.s mu (x :: ys) with
      | some zs => if (okLocs mu (x :: ys) && (mutSlots mu (x :: ys)).all (fun i => mm.contains i)) = true then back c2.s mu (x :: ys) (run zs) else Rs.bad
      | none => .bad).post _ W := p2
    split at p2
    · rename_i zs ea
      by_cases n : (okLocs mu (x :: ys) && (mutSlots mu (x :: ys)).all (fun i => mm.contains i)) = true
      · rw [if_pos n] at p2
        have n := Bool.and_eq_true_iff.mp n
        exact call_end (ms := []) (by simpa using a1.trans a2) (.cons (v1.stay a1.rel a2 nQ) v2) ea n.1 n.2 p2
      · rw [if_neg n] at p2; exact p2.elim
    · exact p2.elim
  · rw [if_neg n] at p1; exact p1.elim
theorem vf_methP0 (mm : List Nat) {k : Nat} {mu : List Bool} {run : List PV → Fr} {pl : Sem Bool} (F : Me X.prog X.w (kc X B) X.mg X.base cn m k mu run) (hr : Room k X.A) (tk : Takes X (WP (kc X B) B W)) (ho : VP X B W o fo)
    (h3 : eval (.Call (.Attribute o m apos) [] [] pos) X.env = (do
        let ov ← eval o X.env
        standAt apos.atName
        let (f, first) ← holding [ov] (getMethod ov m pl)
        callWith pos f first (backTo pos (starEach [] X.env)) (backToKw pos (keywordEach [] X.env))) := by rfl) : VF X B W mm (.Call (.Attribute o m apos) [] [] pos) (callF mm mu run (aMP cn m fo aNil)) := by
  obtain ⟨f, fd, ps, hm, bd, ok⟩ := F.ex
  refine pe_imp (pe_methZ0 (E := WE (WP (kc X B) B W)) ho F.cls hm ok hr bd (fun σ => passAt tk σ) h3) fun σ H Q h => ?_
  obtain ⟨c, e, R, h⟩ := h
  subst e
  refine evP_run R (Rs.post_bind (Rs.post_bind h)) fun x v c1 a1 v1 p1 => ?_
  by_cases n : (insM c1.s cn m x && (erQ c1.s x).isSome) = true
  · rw [if_pos n] at p1
    obtain ⟨n0, nQ⟩ := Bool.and_eq_true_iff.mp n
    obtain ⟨f, ns, xs, e1, e2⟩ := insM_ok n0
    obtain ⟨a, dx, ws, rfl, g1, g2⟩ := a1.rel.insOf v1 e1
    refine ⟨a, dx, _, rfl, a1.rel.lkGet g1 (fun z => z), (nIx_none e2 g2).1, ?_⟩
    have p1 : (match argsOf c1.s mu [x] with
      | some zs => if (okLocs mu [x] && (mutSlots mu [x]).all (fun i => mm.contains i)) = true then back c1.s mu [x] (run zs) else Rs.bad
      | none => .bad).post _ W := p1
    show toSp (kc X B) mu run [.ref a] (c1.R B) Q _
    split at p1
    · rename_i zs ea
      by_cases n : (okLocs mu [x] && (mutSlots mu [x]).all (fun i => mm.contains i)) = true
      · rw [if_pos n] at p1
        have n := Bool.and_eq_true_iff.mp n
        exact call_end (ms := []) a1 (.cons v1 .nil) ea n.1 n.2 p1
      · rw [if_neg n] at p1; exact p1.elim
    · exact p1.elim
  · rw [if_neg n] at p1; exact p1.elim
end
end Z

/-! an instance made. -/
namespace Z
open PySem PySem.Spec PyProof.Rows L2
section
variable {K : KC} {B : Bs} {c c' c1 c2 : Cf} {σ : L2.St}
/-- a slot more, with a new instance in it -/
theorem Rel.withNew (R : Rel K B c σ) {x dx : Addr} {cn : Str} (hx : c.R B x = none) (hdx : c.R B dx = none) (ne : dx ≠ x) :
    let c' : Cf := { s := c.s ++ [some (.cell .own (.ins cn []) [])], H := upd (upd c.H dx (.own x)) x (.ins (K.C cn) dx []), As := fun i => if i = c.s.length then [x, dx] else c.As i, T := c.T }
    Rel K B c' (σ ++ [some (.ref x)]) ∧ Le c.H c'.H ∧ c'.R B = upd (upd (c.R B) dx (.own x)) x (.ins (K.C cn) dx []) := by
  intro c'
  obtain ⟨nx, lx⟩ := R.lkNew hx
  obtain ⟨nd, ld⟩ := R.lkNew hdx
  have le : Le c.H c'.H := fun a o h => by
    have h1 : a ≠ x := fun z => by rw [z, nx] at h; cases h
    have h2 : a ≠ dx := fun z => by rw [z, nd] at h; cases h
    show upd (upd c.H dx (.own x)) x (.ins (K.C cn) dx []) a = _
    rw [upd_ne h1, upd_ne h2]; exact h
  have notIn : ∀ (i : Nat) a, a ∈ c.As i → a ≠ x ∧ a ≠ dx := fun i a m => by
    obtain ⟨o, e, _⟩ := R.cell ⟨i, m⟩
    exact ⟨fun z => (by rw [z, nx] at e; cases e), fun z => (by rw [z, nd] at e; cases e)⟩
  have notT : ∀ a, a ∈ c.T → a ≠ x ∧ a ≠ dx := fun a m => by
    obtain ⟨o, e, _⟩ := R.live a (.inl m)
    exact ⟨fun z => (by rw [z, nx] at e; cases e), fun z => (by rw [z, nd] at e; cases e)⟩
  have dead : c.As c.s.length = [] := R.dead _ fun y z => by
    have := (List.getElem?_eq_some_iff.mp z).1
    omega
  have mine : ∀ a, c'.mine a → c.mine a ∨ a = x ∨ a = dx := fun a ⟨i, m⟩ => by
    by_cases z : i = c.s.length
    · simp only [c', if_pos z] at m
      simp only [List.mem_cons, List.not_mem_nil, or_false] at m
      exact .inr m
    · simp only [c', if_neg z] at m
      exact .inl ⟨i, m⟩
  have mine0 : ∀ a, c.mine a → c'.mine a := fun a ⟨i, m⟩ => by
    refine ⟨i, ?_⟩
    by_cases z : i = c.s.length
    · rw [z, dead] at m; cases m
    · simp only [c', if_neg z]; exact m
  have lF : Le (c.F B.D) (c'.F B.D) := fun a o z => by
    obtain ⟨h1, h2, h3, h4⟩ := F_eq.mp z
    refine F_eq.mpr ⟨h1, h2, fun q => ?_, le a o h4⟩
    rcases mine a q with q | rfl | rfl
    · exact h3 q
    · rw [nx] at h4; cases h4
    · rw [nd] at h4; cases h4
  have lG : Le c.G c'.G := fun a o z => by
    obtain ⟨h2, h3, h4⟩ := G_eq.mp z
    refine G_eq.mpr ⟨h2, fun q => ?_, le a o h4⟩
    rcases mine a q with q | rfl | rfl
    · exact h3 q
    · rw [nx] at h4; cases h4
    · rw [nd] at h4; cases h4
  have getL : ∀ (i : Nat) y, c'.s[i]? = some (some y) → (i < c.s.length ∧ c.s[i]? = some (some y)) ∨ (i = c.s.length ∧ y = .cell .own (.ins cn []) []) := fun i y h => by
    simp only [c'] at h
    by_cases q : i < c.s.length
    · rw [List.getElem?_append_left q] at h; exact .inl ⟨q, h⟩
    · rw [List.getElem?_append_right (by omega)] at h
      have : i = c.s.length := by
        have := (List.getElem?_eq_some_iff.mp h).1
        simp at this; omega
      subst this
      simp at h
      exact .inr ⟨rfl, h.symm⟩
  refine ⟨⟨by simp [c', R.len], fun i y e => ?_, fun i n => ?_, fun i j a m1 m2 => ?_, fun i a m t => ?_, fun a h d => ?_, fun a h => ?_, fun a o n h => ?_, fun a h => ?_, fun i v h => ?_, fun a ob h => ?_⟩, le, ?_⟩
  · rcases getL i y e with ⟨hi, e⟩ | ⟨rfl, rfl⟩
    · obtain ⟨v, h1, h2⟩ := R.own i y e
      have hi2 : i < σ.length := by rw [R.len]; exact hi
      refine ⟨v, by rw [List.getElem?_append_left hi2]; exact h1, ?_⟩
      simp only [c', if_neg (Nat.ne_of_lt hi)]
      exact h2.le lF lG fun a _ o z => le a o z
    · refine ⟨.ref x, by rw [← R.len]; simp, ?_⟩
      have io : IsO K (.ins cn []) c'.H x [] [x, dx] := ⟨dx, upd_same, by show upd (upd c.H dx (.own x)) x _ dx = _; rw [upd_ne ne]; exact upd_same, rfl, rfl⟩
      have := Own.cell (K := K) (F := c'.F B.D) (G := c'.G) io (Owns.nil) (fun b m z => by cases z)
      simpa [c'] using this
  · by_cases z : i = c.s.length
    · exact (n (.cell .own (.ins cn []) []) (by simp [c', z])).elim
    · simp only [c', if_neg z]
      refine R.dead i fun y h => n y ?_
      simp only [c']
      rw [List.getElem?_append_left (List.getElem?_eq_some_iff.mp h).1]; exact h
  · by_cases z : i = c.s.length
    · by_cases z2 : j = c.s.length
      · rw [z, z2]
      · simp only [c', if_pos z] at m1
        simp only [c', if_neg z2] at m2
        have := notIn j a m2
        simp only [List.mem_cons, List.not_mem_nil, or_false] at m1
        rcases m1 with q | q
        · exact (this.1 q).elim
        · exact (this.2 q).elim
    · by_cases z2 : j = c.s.length
      · simp only [c', if_neg z] at m1
        simp only [c', if_pos z2] at m2
        have := notIn i a m1
        simp only [List.mem_cons, List.not_mem_nil, or_false] at m2
        rcases m2 with q | q
        · exact (this.1 q).elim
        · exact (this.2 q).elim
      · simp only [c', if_neg z] at m1
        simp only [c', if_neg z2] at m2
        exact R.dis i j a m1 m2
  · by_cases z : i = c.s.length
    · simp only [c', if_pos z] at m
      have := notT a t
      simp only [List.mem_cons, List.not_mem_nil, or_false] at m
      rcases m with q | q
      · exact this.1 q
      · exact this.2 q
    · simp only [c', if_neg z] at m
      exact R.nT i a m t
  · have fresh : ∀ b, c.H b = none → ¬ B.D b := fun b e q => by
      obtain ⟨o, h, _⟩ := R.live b (.inr q)
      rw [e] at h; cases h
    rcases h with h | h
    · exact R.nD a (.inl h) d
    · rcases mine a h with h | rfl | rfl
      · exact R.nD a (.inr h) d
      · exact fresh _ nx d
      · exact fresh _ nd d
  · obtain ⟨o, e, n⟩ := R.live a h
    exact ⟨o, le a o e, n⟩
  · exact le a o (R.keep a o n h)
  · have none0 : ∀ b, c.H b = none → b ∈ B.A0 ∨ B.H0 b = none := fun b e => by
      by_cases n : b ∈ B.A0
      · exact .inl n
      · cases q : B.H0 b with
        | none => exact .inr rfl
        | some o => rw [R.keep b o n q] at e; cases e
    rcases h with h | h
    · exact R.new a (.inl h)
    · rcases mine a h with h | rfl | rfl
      · exact R.new a (.inr h)
      · exact none0 _ nx
      · exact none0 _ nd
  · have := R.root i v h
    rw [List.getElem?_append_left (List.getElem?_eq_some_iff.mp this).1]; exact this
  · obtain ⟨h1, h2, h3⟩ := R.lkd a ob h
    refine ⟨h1, fun q => ?_, ?_⟩
    · rcases mine a q with q | rfl | rfl
      · exact h2 q
      · rw [lx] at h; cases h
      · rw [ld] at h; cases h
    · cases e : c.H a with
      | none => rw [e] at h3; cases h3
      | some o => rw [le a o e]; rw [e] at h3; exact h3
  · show lk B.L (upd (upd c.H dx (.own x)) x (.ins (K.C cn) dx [])) = _
    rw [← lk_upd lx, ← lk_upd ld]
/-- .. and taken out again -/
theorem Rel.offLast {n : Nat} {y : PV} {v : V} (R : Rel K B c (σ ++ [some v])) (hn : σ.length = n) (hs : c.s[n]? = some (some y)) (hT : ∀ i w, B.root i = some w → σ[i]? = some (some w)) :
    Rel K B { s := c.s.take n, H := c.H, As := fun i => if i = n then [] else c.As i, T := c.As n ++ c.T } σ ∧ Own K (Cf.F { s := c.s.take n, H := c.H, As := fun i => if i = n then [] else c.As i, T := c.As n ++ c.T } B.D) (Cf.G { s := c.s.take n, H := c.H, As := fun i => if i = n then [] else c.As i, T := c.As n ++ c.T }) c.H y v (c.As n) := by
  have hlen : c.s.length = n + 1 := by have := R.len; simp at this; omega
  have mine : ∀ a, (∃ i, a ∈ (if i = n then [] else c.As i)) → c.mine a ∧ a ∉ c.As n := fun a ⟨i, m⟩ => by
    by_cases z : i = n
    · rw [if_pos z] at m; cases m
    · rw [if_neg z] at m
      exact ⟨⟨i, m⟩, fun q => z (R.dis i n a m q)⟩
  have memT : ∀ a, a ∈ c.As n ++ c.T → a ∈ c.T ∨ c.mine a := fun a h => (List.mem_append.mp h).elim (fun h => .inr ⟨n, h⟩) .inl
  have cover : ∀ a, (a ∈ c.As n ++ c.T ∨ ∃ i, a ∈ (if i = n then [] else c.As i)) → a ∈ c.T ∨ c.mine a := fun a h => h.elim (memT a) fun h => .inr (mine a h).1
  have lF : Le (c.F B.D) (Cf.F { s := c.s.take n, H := c.H, As := fun i => if i = n then [] else c.As i, T := c.As n ++ c.T } B.D) := fun a o z => by
    obtain ⟨h1, h2, h3, h4⟩ := F_eq.mp z
    exact F_eq.mpr ⟨h1, fun q => (memT a q).elim h2 h3, fun q => h3 (mine a q).1, h4⟩
  have lG : Le c.G (Cf.G { s := c.s.take n, H := c.H, As := fun i => if i = n then [] else c.As i, T := c.As n ++ c.T }) := fun a o z => by
    obtain ⟨h2, h3, h4⟩ := G_eq.mp z
    exact G_eq.mpr ⟨fun q => (memT a q).elim h2 h3, fun q => h3 (mine a q).1, h4⟩
  obtain ⟨v', h1, h2⟩ := R.own n y hs
  have e1 : (σ ++ [some v])[n]? = some (some v) := by rw [← hn]; simp
  rw [e1] at h1; cases h1
  refine ⟨⟨by simp [hlen, hn], fun i x e => ?_, fun i q => ?_, fun i j a m1 m2 => ?_, fun i a m t => ?_, fun a h => R.nD a (cover a h), fun a h => ?_, R.keep, fun a h => R.new a (cover a h), hT, fun a ob h => ?_⟩, h2.le lF lG fun _ _ _ z => z⟩
  · have hi : i < n := by
      have := (List.getElem?_eq_some_iff.mp e).1
      simp at this; omega
    have e : c.s[i]? = some (some x) := by
      have e' : (c.s.take n)[i]? = some (some x) := e
      rw [List.getElem?_take] at e'
      simpa [hi] using e'
    obtain ⟨w, g1, g2⟩ := R.own i x e
    refine ⟨w, by rw [List.getElem?_append_left (by omega)] at g1; exact g1, ?_⟩
    show Own K _ _ _ x w (if i = n then [] else c.As i)
    rw [if_neg (Nat.ne_of_lt hi)]
    exact g2.le lF lG fun _ _ _ z => z
  · show (if i = n then [] else c.As i) = []
    by_cases z : i = n
    · rw [if_pos z]
    · rw [if_neg z]
      refine R.dead i fun x e => q x ?_
      have hi : i < n := by
        have := (List.getElem?_eq_some_iff.mp e).1
        omega
      show (c.s.take n)[i]? = _
      rw [List.getElem?_take]
      simpa [hi] using e
  · have m1 : a ∈ (if i = n then [] else c.As i) := m1
    have m2 : a ∈ (if j = n then [] else c.As j) := m2
    by_cases z : i = n
    · rw [if_pos z] at m1; cases m1
    · by_cases z2 : j = n
      · rw [if_pos z2] at m2; cases m2
      · rw [if_neg z] at m1; rw [if_neg z2] at m2
        exact R.dis i j a m1 m2
  · have m : a ∈ (if i = n then [] else c.As i) := m
    by_cases z : i = n
    · rw [if_pos z] at m; cases m
    · rw [if_neg z] at m
      rcases List.mem_append.mp t with t | t
      · exact z (R.dis i n a m t)
      · exact R.nT i a m t
  · rcases h with h | h
    · rcases List.mem_append.mp h with h | h
      · exact R.cell ⟨n, h⟩
      · exact R.live a (.inl h)
    · exact R.live a (.inr h)
  · obtain ⟨g1, g2, g3⟩ := R.lkd a ob h
    exact ⟨fun q => (memT a q).elim g1 g2, fun q => g2 (mine a q).1, g3⟩
end
end Z

/-! an instance made, by its __init__. -/
namespace Z
open PySem PySem.Spec PyProof.Rows L2
theorem toSp_imp {K : KC} {mu : List Bool} {run : List PV → Fr} {vs : List V} {H : Hp} {Q : VK} {E E' : XK} (h : toSp K mu run vs H Q E) (i : ∀ a b c, E a b c → E' a b c) : toSp K mu run vs H Q E' := by
  obtain ⟨h1, B, c, xs, h2, h3, h4, h5, h6, h7, h8, h9, hm⟩ := h
  refine ⟨h1, B, c, xs, h2, h3, h4, h5, h6, h7, h8, h9, ?_⟩
  revert hm
  cases run xs with
  | bad => exact fun q => q
  | ok y ys => exact fun q => q
  | ex n ys => exact fun q a b c d e => i _ _ _ (q a b c d e)
theorem lookP_app {s t : St} {x y : PV} (h : lookP s x = some y) : lookP (s ++ t) x = some y := by
  cases x with
  | loc i p =>
    obtain ⟨z, h1, h2⟩ := lookP_loc h
    have hi := (List.getElem?_eq_some_iff.mp h1).1
    show (match (s ++ t)[i]? with | some (some x) => getP x p | _ => none) = some y
    rw [List.getElem?_append_left hi, h1]; exact h2
  | _ => exact h
theorem argsOf_app {s t : St} : ∀ {mu : List Bool} {xs zs : List PV}, argsOf s mu xs = some zs → argsOf (s ++ t) mu xs = some zs
  | [], [], _, h => h
  | [], _ :: _, _, h => by cases h
  | _ :: _, [], _, h => by cases h
  | m :: mu, x :: xs, zs, h => by
    rw [argsOf] at h ⊢
    cases e1 : argOf s m x with
    | none => rw [e1] at h; cases h
    | some y =>
      cases e2 : argsOf s mu xs with
      | none => rw [e1, e2] at h; cases h
      | some ys =>
        rw [e1, e2] at h; cases h
        have e3 : argOf (s ++ t) m x = some y := by
          cases m with
          | true =>
            cases x with
            | loc i p => simp only [argOf, if_true] at e1 ⊢; exact lookP_app e1
            | _ => simp [argOf] at e1
          | false =>
            cases x with
            | loc i p =>
              simp only [argOf, Bool.false_eq_true, if_false, Option.map_eq_some_iff] at e1 ⊢
              obtain ⟨w, h1, h2⟩ := e1
              exact ⟨w, lookP_app h1, h2⟩
            | _ => exact e1
        rw [e3, argsOf_app e2]
theorem locs_lt {s : St} : ∀ {mu : List Bool} {xs zs : List PV}, argsOf s mu xs = some zs → ∀ i ∈ locSlots xs, i < s.length
  | [], [], _, _, i, m => by cases m
  | [], _ :: _, _, h, _, _ => by cases h
  | _ :: _, [], _, h, _, _ => by cases h
  | m :: mu, x :: xs, zs, h, i, mi => by
    rw [argsOf] at h
    cases e1 : argOf s m x with
    | none => rw [e1] at h; cases h
    | some y =>
      cases e2 : argsOf s mu xs with
      | none => rw [e1, e2] at h; cases h
      | some ys =>
        cases x with
        | loc j p =>
          rw [locSlots] at mi
          rcases List.mem_cons.mp mi with rfl | mi
          · have : ∃ w, lookP s (.loc i p) = some w := by
              cases m with
              | true => exact ⟨y, by simpa [argOf] using e1⟩
              | false =>
                simp only [argOf, Bool.false_eq_true, if_false, Option.map_eq_some_iff] at e1
                obtain ⟨w, h1, _⟩ := e1
                exact ⟨w, h1⟩
            obtain ⟨w, hw⟩ := this
            obtain ⟨z, h1, _⟩ := lookP_loc hw
            exact (List.getElem?_eq_some_iff.mp h1).1
          · exact locs_lt e2 i mi
        | _ => exact locs_lt e2 i mi
theorem noMut : ∀ {mu : List Bool} {xs : List PV}, mu.all (fun b => !b) = true → mutSlots mu xs = []
  | [], [], _ => rfl
  | [], _ :: _, _ => rfl
  | false :: mu, [], _ => rfl
  | false :: mu, x :: xs, h => by
    have : mutSlots (false :: mu) (x :: xs) = mutSlots mu xs := by cases x <;> rfl
    rw [this]
    exact noMut (by simpa using h)
  | true :: mu, xs, h => by simp at h
theorem noPut : ∀ {mu : List Bool} {xs : List PV} {ys s : St}, mu.all (fun b => !b) = true → xs.length = mu.length → ys.length = mu.length → putBack s mu xs ys = some s
  | [], [], [], _, _, _, _ => rfl
  | false :: mu, x :: xs, y :: ys, s, h, h1, h2 => by
    rw [putBack]
    exact noPut (by simpa using h) (Nat.succ.inj h1) (Nat.succ.inj h2)
  | true :: mu, xs, ys, s, h, _, _ => by simp at h
  | [], _ :: _, _, _, _, h, _ => by cases h
  | [], [], _ :: _, _, _, _, h => by cases h
  | false :: mu, [], _, _, _, h, _ => by cases h
  | false :: mu, _ :: _, [], _, _, _, h => by cases h
structure Mm (P : Program) (w : World) (K : KC) (mg : Str → Option Value) (base : Heap) (cn : Str) (k : Nat) (mu : List Bool) (run : List PV → Fr) : Prop where
  g : mg cn = some (.ref (K.C cn))
  ex : ∃ f fd ps, L2.Mk K.k (K.C cn) f ∧ Binds K.k fd ps [] ∧ FnOk P w K.k mg base (L2.CX P w) k f fd ps (toSp K (true :: mu) run)
section
variable {X : Cx} {B : Bs} {W : WZ} {ms : List Nat} {e : Expr} {es : List Expr} {ga : St → Rs (List PV)} {pos p : Pos} {cn : Str}
def fMake (cn : Str) (mu : List Bool) (run : List PV → Fr) (ga : St → Rs (List PV)) (s : St) : Rs PV := (ga s).bind fun xs s1 => match argsOf s1 mu xs with
  | some zs => if mu.all (fun b => !b) then match run (.cell .own (.ins cn []) [] :: zs) with
      | .ok .non (some y :: ys) => if ys.length = mu.length then .ok y s1 else .bad
      | _ => .bad
    else .bad
  | none => .bad
theorem make_core {mu : List Bool} {run : List PV → Fr} {c c1 : Cf} {σ : L2.St} {xs : List PV} {vs : List V} {Q : VK} (a1 : Aft (kc X B) B ms [] c σ c1) (hv : Vls (kc X B) B c1 σ xs vs)
    (h : (match argsOf c1.s mu xs with
      | some zs => if mu.all (fun b => !b) then match run (.cell .own (.ins cn []) [] :: zs) with
          | .ok .non (some y :: ys) => if ys.length = mu.length then Rs.ok y c1.s else .bad
          | _ => .bad
        else .bad
      | none => .bad).post (fun x s' => ∀ v A c', Aft (kc X B) B ms A c σ c' → c'.s = s' → Own (kc X B) (c'.F B.D) c'.G c'.H x v A → Q v (c'.R B)) W)
    {x dx : Addr} (hx : c1.R B x = none) (hdx : c1.R B dx = none) (ne : dx ≠ x) :
    toSp (kc X B) (true :: mu) run (.ref x :: vs) (upd (upd (c1.R B) dx (.own x)) x (.ins (B.C cn) dx [])) (fun v H2 => v = .non ∧ Q (.ref x) H2) (fun _ _ _ => False) := by
  split at h
  · rename_i zs ea
    by_cases nm : mu.all (fun b => !b) = true
    · rw [if_pos nm] at h
      split at h
      · rename_i y ys er
        by_cases nl : ys.length = mu.length
        · rw [if_pos nl] at h
          obtain ⟨R', le, eR⟩ := a1.rel.withNew (K := kc X B) (cn := cn) hx hdx ne
          have nx := (a1.rel.lkNew hx).1
          have nd := (a1.rel.lkNew hdx).1
          obtain ⟨lm, lz, _⟩ := argsOf_get ea
          have hlen := a1.rel.len
          generalize hc1' : ({ s := c1.s ++ [some (.cell .own (.ins cn []) [])], H := upd (upd c1.H dx (.own x)) x (.ins ((kc X B).C cn) dx []), As := fun i => if i = c1.s.length then [x, dx] else c1.As i, T := c1.T } : Cf) = c1' at R' le eR
          have es : c1'.s = c1.s ++ [some (.cell .own (.ins cn []) [])] := by rw [← hc1']
          have eA : ∀ i, c1'.As i = if i = c1.s.length then [x, dx] else c1.As i := fun i => by rw [← hc1']
          have eT : c1'.T = c1.T := by rw [← hc1']
          have hvp : Vps (kc X B) B c1' (σ ++ [some (.ref x)]) (.loc c1.s.length [] :: xs) (.ref x :: vs) := by
            refine .cons (.inl ⟨_, [], .ref x, rfl, by rw [← hlen]; simp, by rw [atP]⟩) ?_
            have lF : Le (c1.F B.D) (c1'.F B.D) := fun a o z => by
              obtain ⟨h1, h2, h3, h4⟩ := F_eq.mp z
              refine F_eq.mpr ⟨h1, by rw [eT]; exact h2, fun ⟨i, m⟩ => ?_, le a o h4⟩
              rw [eA] at m
              by_cases q : i = c1.s.length
              · rw [if_pos q] at m
                simp only [List.mem_cons, List.not_mem_nil, or_false] at m
                rcases m with rfl | rfl
                · rw [nx] at h4; cases h4
                · rw [nd] at h4; cases h4
              · rw [if_neg q] at m; exact h3 ⟨i, m⟩
            have lG : Le c1.G c1'.G := fun a o z => by
              obtain ⟨h2, h3, h4⟩ := G_eq.mp z
              refine G_eq.mpr ⟨by rw [eT]; exact h2, fun ⟨i, m⟩ => ?_, le a o h4⟩
              rw [eA] at m
              by_cases q : i = c1.s.length
              · rw [if_pos q] at m
                simp only [List.mem_cons, List.not_mem_nil, or_false] at m
                rcases m with rfl | rfl
                · rw [nx] at h4; cases h4
                · rw [nd] at h4; cases h4
              · rw [if_neg q] at m; exact h3 ⟨i, m⟩
            have lift : ∀ {xs : List PV} {vs : List V}, Vls (kc X B) B c1 σ xs vs → Vps (kc X B) B c1' (σ ++ [some (.ref x)]) xs vs := fun {xs vs} hv => by
              induction hv with
              | nil => exact .nil
              | cons h t ih =>
                refine .cons ?_ ih
                rcases h with ⟨i, rfl, hu⟩ | o
                · exact .inl ⟨i, [], _, rfl, by rw [List.getElem?_append_left (List.getElem?_eq_some_iff.mp hu).1]; exact hu, by rw [atP]⟩
                · exact .inr (o.le lF lG fun _ m => by cases m)
            exact lift hv
          have ea' : argsOf c1'.s (true :: mu) (.loc c1.s.length [] :: xs) = some (.cell .own (.ins cn []) [] :: zs) := by
            rw [argsOf]
            have e1 : argOf c1'.s true (.loc c1.s.length []) = some (.cell .own (.ins cn []) []) := by
              simp [argOf, lookP, es, getP]
            rw [e1, es, argsOf_app ea]
          have ok : okLocs (true :: mu) (.loc c1.s.length [] :: xs) = true := by
            have : mutSlots (true :: mu) (.loc c1.s.length [] :: xs) = [c1.s.length] := by rw [mutSlots, noMut nm]
            unfold okLocs
            rw [this]
            have h0 : (locSlots xs).count c1.s.length = 0 := List.count_eq_zero.mpr fun m => Nat.lt_irrefl _ (locs_lt ea _ m)
            simp [locSlots, h0]
          have pb : putBack c1'.s (true :: mu) (.loc c1.s.length [] :: xs) (some y :: ys) = some (c1.s ++ [some y]) := by
            rw [putBack]
            have : putB1 c1'.s (.loc c1.s.length []) (some y) = some (c1.s ++ [some y]) := by
              simp [putB1, es, setP]
            rw [this]
            exact noPut nm lm.symm nl
          rw [← eR]
          refine toSp_imp (call_end (X := X) (B := B) (W := fun _ _ => False) (ms := []) (mm := [c1.s.length]) (.refl R') hvp ea' ok (by rw [mutSlots, noMut nm]; simp) ?_) fun a b c' z => ?_
          · unfold back
            rw [er]
            dsimp only
            rw [pb]
            intro v A c2 a2 e2 o
            have eA0 : A = [] := o.nown rfl
            subst eA0
            refine ⟨o.nonEq, ?_⟩
            have hs2 : c2.s[c1.s.length]? = some (some y) := by rw [e2]; simp
            obtain ⟨R3, o3⟩ := a2.rel.offLast (σ := σ) (n := c1.s.length) hlen hs2 (fun i w q => a1.rel.root i w q)
            refine h (.ref x) (c2.As c1.s.length) { s := c2.s.take c1.s.length, H := c2.H, As := fun i => if i = c1.s.length then [] else c2.As i, T := c2.As c1.s.length ++ c2.T } ⟨R3, ⟨fun a o n q => ?_, fun a q => ?_, ?_⟩, fun i ni => ?_⟩ ?_ o3
            · have q1 := a1.st.keep a o n q
              have n1 : ¬ c1'.mine a := fun ⟨i, m⟩ => by
                rw [eA] at m
                by_cases z : i = c1.s.length
                · rw [if_pos z] at m
                  simp only [List.mem_cons, List.not_mem_nil, or_false] at m
                  rcases m with rfl | rfl
                  · rw [nx] at q1; cases q1
                  · rw [nd] at q1; cases q1
                · rw [if_neg z] at m
                  rcases a1.st.new a (.inr ⟨i, m⟩) with z | z
                  · exact n z
                  · rw [q] at z; cases z
              exact a2.st.keep a o n1 (le a o q1)
            · have back0 : c1.H a = none → c.mine a ∨ c.H a = none := fun z => by
                by_cases w : c.mine a
                · exact .inl w
                · cases e : c.H a with
                  | none => exact .inr rfl
                  | some o => rw [a1.st.keep a o w e] at z; cases z
              have q2 : c2.mine a := by
                rcases q with q | ⟨i, q⟩
                · exact ⟨_, q⟩
                · have q : a ∈ (if i = c1.s.length then [] else c2.As i) := q
                  by_cases z : i = c1.s.length
                  · rw [if_pos z] at q; cases q
                  · rw [if_neg z] at q; exact ⟨i, q⟩
              rcases a2.st.new a (.inr q2) with ⟨i, m⟩ | z
              · rw [eA] at m
                by_cases z : i = c1.s.length
                · rw [if_pos z] at m
                  simp only [List.mem_cons, List.not_mem_nil, or_false] at m
                  rcases m with rfl | rfl
                  · exact back0 nx
                  · exact back0 nd
                · rw [if_neg z] at m
                  exact a1.st.new a (.inr ⟨i, m⟩)
              · refine back0 ?_
                cases e : c1.H a with
                | none => rfl
                | some o => rw [le a o e] at z; cases z
            · show c2.As c1.s.length ++ c2.T = c2.As c1.s.length ++ c.T
              rw [a2.st.T, eT, a1.st.T]; rfl
            · refine (a1.fr i ni).trans ?_
              by_cases z : i = c1.s.length
              · subst z
                have d0 : c1.As c1.s.length = [] := a1.rel.dead _ fun y w => by
                  have := (List.getElem?_eq_some_iff.mp w).1
                  omega
                refine ⟨?_, ?_, fun a m => by rw [d0] at m; cases m⟩
                · show (c2.s.take c1.s.length)[c1.s.length]? = c1.s[c1.s.length]?
                  rw [e2]; simp
                · show (if c1.s.length = c1.s.length then [] else c2.As c1.s.length) = c1.As c1.s.length
                  rw [if_pos rfl, d0]
              · have sm := a2.fr i (by simpa using z)
                refine ⟨?_, ?_, fun a m => ?_⟩
                · show (c2.s.take c1.s.length)[i]? = c1.s[i]?
                  rw [e2]; simp
                · show (if i = c1.s.length then [] else c2.As i) = c1.As i
                  rw [if_neg z, sm.As, eA, if_neg z]
                · have := sm.H a (by rw [eA, if_neg z]; exact m)
                  show c2.H a = c1.H a
                  rw [this]
                  obtain ⟨o, e, _⟩ := a1.rel.cell ⟨i, m⟩
                  rw [e, le a o e]
            · show c2.s.take c1.s.length = c1.s
              rw [e2]; simp
          · obtain ⟨_, _, _, _, _, _, hf⟩ := z
            exact hf.elim
        · rw [if_neg nl] at h; exact h.elim
      · exact h.elim
    · rw [if_neg nm] at h; exact h.elim
  · exact h.elim
theorem passes0 : Passes (L2.CX X.prog X.w) X (fun _ _ _ => False) := fun pins σ H s e s' I q => takes0 e s' (XE.of_call (W := fun _ _ _ _ => False) I (fun _ _ _ h => h) q)
theorem vf_make {k : Nat} {mu : List Bool} {run : List PV → Fr} (M : Mm X.prog X.w (kc X B) X.mg X.base cn k mu run) (hr : Room (k + 1) X.A) (ha : VA X B W ms (e :: es) ga) (hg : Gl X cn) (hdb : (cn == ("__debug__" : Str)) = false := by decide)
    (he : starEach (e :: es) X.env = (false, eval e X.env) :: starEach es X.env := by rfl) (hpl : (backTo pos (starEach es X.env)).any (·.1) = false := by rfl) : VF X B W ms (.Call (.Name cn p) (e :: es) [] pos) (fMake cn mu run ga) := by
  obtain ⟨f, fd, ps, hm, bd, ok⟩ := M.ex
  refine pe_imp (pe_make hm ok hr hg M.g bd .nil passes0 ha hdb he hpl) fun σ H Q ⟨c, e, R, h⟩ => ?_
  subst e
  refine evA_run R (Rs.post_bind h) fun xs vs c1 a1 v1 p1 => ?_
  intro x dx hx hdx ne
  rw [List.append_nil]
  exact make_core a1 v1 p1 hx hdx ne
theorem vf_make0 {k : Nat} {run : List PV → Fr} (M : Mm X.prog X.w (kc X B) X.mg X.base cn k [] run) (hr : Room (k + 1) X.A) (hg : Gl X cn) (hdb : (cn == ("__debug__" : Str)) = false := by decide) : VF X B W [] (.Call (.Name cn p) [] [] pos) (fMake cn [] run aNil) := by
  obtain ⟨f, fd, ps, hm, bd, ok⟩ := M.ex
  refine pe_imp (pe_make0 hm ok hr hg M.g bd .nil passes0 hdb) fun σ H Q ⟨c, e, R, h⟩ => ?_
  subst e
  intro x dx hx hdx ne
  exact make_core (ms := []) (cn := cn) (mu := []) (run := run) (xs := []) (vs := []) (Q := Q) (W := W) (.refl R) .nil h hx hdx ne
end
end Z

/-! try with except clauses that give no name. -/
namespace Z
open PySem PySem.Spec PyProof.Rows L2
abbrev Hs := List ((Str → Option Bool) × Sm)
def tryGo (n : Str) : Hs → Sm
  | [], s => .ex n s
  | (cat, g) :: r, s => match cat n with
    | some true => noEx (g s)
    | some false => tryGo n r s
    | none => .bad
def sTryM (hs : Hs) (f : Sm) : Sm := fun s => match f s with
  | .ok fl s1 => .ok fl s1
  | .ex n s1 => tryGo n hs s1
  | .bad => .bad
inductive HZ (X : Cx) (B : Bs) : List ExceptHandler → Hs → Prop
  | nil : HZ X B [] []
  | cons {x : Str} {c : Value} {b₀ : Stmt} {suite : List Stmt} {np pos' : Pos} {hds : List ExceptHandler} {cat : Str → Option Bool} {g : Sm} {l : Hs} (hc : Names X x c) (hcat : ∀ m b, cat m = some b → PySem.W.exmOne X.K (.ref (B.C m)) c = some b)
      (hsu : ∀ (a : Addr) (pn : List (Addr × Obj)), VSs (X.suite a pn) B (fun _ _ => False) (b₀ :: suite) g) (r : HZ X B hds l) : HZ X B (.ExceptHandler (some (.Name x np)) none (b₀ :: suite) pos' :: hds) ((cat, g) :: l)
/-- the clauses as the rule wants them -/
inductive HL (X : Cx) (B : Bs) : Hs → List (Value × (Addr → Value → Option Addr → TS)) → Prop
  | nil : HL X B [] []
  | cons {c : Value} {cat : Str → Option Bool} {g : Sm} {l : Hs} {r : List (Value × (Addr → Value → Option Addr → TS))} (hcat : ∀ m b, cat m = some b → PySem.W.exmOne X.K (.ref (B.C m)) c = some b) (h : HL X B l r) : HL X B ((cat, g) :: l) ((c, fun _ _ _ => evS (kc X B) B (fun _ _ => False) g) :: r)
theorem HZ.ok {X : Cx} {B : Bs} {hds : List ExceptHandler} {l : Hs} (h : HZ X B hds l) : ∃ r, HdsOk X hds r ∧ HL X B l r := by
  induction h with
  | nil => exact ⟨[], .nil, .nil⟩
  | cons hc hcat hsu _ ih =>
    rename_i x c b₀ suite np pos' hds cat g l _
    obtain ⟨r, h1, h2⟩ := ih
    exact ⟨(c, fun _ _ _ => evS (kc X B) B (fun _ _ => False) g) :: r, .cons hc (fun a oe cls d pn _ _ => hsu a ((a, oe) :: pn)) h1, .cons hcat h2⟩
theorem vs_tryM {X : Cx} {B : Bs} {W : WZ} {body : List Stmt} {h₀ : ExceptHandler} {hds : List ExceptHandler} {l : Hs} {pos : Pos} {f : Sm} (hs : X.stack = X.env :: X.outer) (hf : X.env.frame = some X.env.locals) (tk : Takes X (WP (kc X B) B W))
    (hb : ∀ (h : Hp) (l : List Addr) (W' : WZ) (pn : List (Addr × Obj)) (xe : Value → Shared → Prop), Takes (X.tr pn xe) (WP (kc X B) (B.at h l) W') → PassesOwn (model X.prog X.w) X.A X.env xe → VSs (X.tr pn xe) (B.at h l) W' body f)
    (hh : HZ X B (h₀ :: hds) l) : VS X B W (.Try body (h₀ :: hds) [] [] pos) (sTryM l f) := by
  obtain ⟨r, hk, hl⟩ := hh.ok
  refine ⟨fun pn0 s σ H D I ⟨c0, e, R, T0, h⟩ => ?_⟩
  subst e
  let W' : WZ := fun n s' => (tryGo n l s').post (fwd (kc X B) B c0 D) W
  have step : ∀ {c' : Cf} {σ' : L2.St}, Rel (kc X B) (B.at c0.H c0.mineL) c' σ' → Rel (kc X B) B { c' with T := [] } σ' ∧ Step [] c0 { c' with T := [] } := fun {c' σ'} R' => by
    have R2 : Rel (kc X B) (B.at c0.H c0.mineL) { c' with T := [] } σ' := R'.drop (A := c'.T) (by simp)
    exact ⟨R.unat R2, R2.stepOf (c := c0) rfl (fun a => R.mineL a) (by simp [T0]) T0⟩
  have key : ∀ {l : Hs} {r : List (Value × (Addr → Value → Option Addr → TS))}, HL X B l r → ∀ (m : Str) (c' : Cf) (τ : L2.St), Rel (kc X B) (B.at c0.H c0.mineL) c' τ → (tryGo m l c'.s).post (fwd (kc X B) B c0 D) W → wMany X.K (WP (kc X B) B W) D r (.ref (B.C m)) none τ (c'.R B) := by
    intro l r hl
    induction hl with
    | nil => exact fun m c' τ R' hw => ⟨rfl, m, c', rfl, rfl, R.unat R', hw⟩
    | cons hcat _ ih =>
      rename_i c cat g l r _
      intro m c' τ R' hw
      have hw : (match cat m with
        | some true => noEx (g c'.s)
        | some false => tryGo m l c'.s
        | none => .bad).post (fwd (kc X B) B c0 D) W := hw
      cases q : cat m with
      | none => rw [q] at hw; exact hw.elim
      | some b =>
        rw [q] at hw
        refine ⟨b, hcat m b q, fun eb a na => ?_, fun eb => ?_⟩
        · subst eb
          obtain ⟨R1, st1⟩ := step R'
          have hg := noEx_post hw
          show evS (kc X B) B (fun _ _ => False) g D τ (Cf.R { c' with T := [] } B)
          refine evS_run R1 rfl hg fun fl s2 p => ?_
          cases fl with
          | nx => exact fun σ3 c3 R4 st3 e3 => p σ3 c3 R4 (st1.trans0 st3) e3
          | bk => exact fun σ3 c3 R4 st3 e3 => p σ3 c3 R4 (st1.trans0 st3) e3
          | ct => exact fun σ3 c3 R4 st3 e3 => p σ3 c3 R4 (st1.trans0 st3) e3
          | rt y => exact fun v A σ3 c3 R4 st3 e3 o => p v A σ3 c3 R4 (by simpa using st1.trans st3) e3 o
        · subst eb
          exact ih m c' τ R' hw
  refine (ps_try_many (tb := fun W1 D1 σ1 H1 => ∃ Wz : WZ, (∀ cls d τ M, WP (kc X B) (B.at c0.H c0.mineL) Wz cls d τ M → W1 cls d τ M) ∧ evS (kc X B) (B.at c0.H c0.mineL) Wz f D1 σ1 H1) hs hf tk (fun W1 pn xe t1 p1 => ?_) hk).run pn0 s σ (c0.R B) D I ⟨W', ?_, c0, rfl, R.at T0, T0, ?_⟩
  · refine ⟨fun pins' s' σ' H' D' I' ⟨Wz, hw, ev⟩ => ?_⟩
    exact (hb c0.H c0.mineL Wz pn xe (t1.imp hw) p1).run pins' s' σ' H' D' I' ev
  · intro cls d τ M hw
    obtain ⟨rfl, m, c', rfl, rfl, R', hw⟩ := hw
    exact key hl m c' τ R' hw
  · unfold sTryM at h
    cases q : f c0.s with
    | bad => rw [q] at h; exact h
    | ex m s1 => rw [q] at h; exact h
    | ok fl s1 =>
      rw [q] at h
      show fwd (kc X B) (B.at c0.H c0.mineL) c0 D fl s1
      cases fl with
      | nx => exact fun σ' c' R' st' e' => h σ' c' (R.unat R') st' e'
      | bk => exact fun σ' c' R' st' e' => h σ' c' (R.unat R') st' e'
      | ct => exact fun σ' c' R' st' e' => h σ' c' (R.unat R') st' e'
      | rt y => exact fun v A σ' c' R' st' e' o => h v A σ' c' (R.unat R') st' e' o
end Z

/-! classes at the top; a slice of what stands at a place; a op b op c op d. -/
namespace Z
open PySem PySem.Spec PyProof.Rows L2
/-- a statement of a class -/
def subS (st : Stmt) (j : Nat) : Stmt := match st with
  | .ClassDef _ _ _ body _ _ _ _ _ _ _ => body.getD j (.Pass ⟨0, 0, 0, 0⟩)
  | s => s
structure MethAt (K : PySem.W.Frag) (C : Addr) (m qual : Str) (st : Stmt) (ps : List Str) : Prop where
  ex : ∃ f fd, Fun K m qual st f fd ∧ Meth K C m f ∧ Binds K fd ps []
structure MkAt (K : PySem.W.Frag) (mg : Str → Option Value) (cn : Str) (C : Addr) (qual : Str) (st : Stmt) (ps : List Str) : Prop where
  g : mg cn = some (.ref C)
  ex : ∃ f fd, Fun K "__init__" qual st f fd ∧ L2.Mk K C f ∧ Binds K fd ps []
theorem me_at {P : Program} {w : World} {K : KC} {mg : Str → Option Value} {base : Heap} {cn m qual : Str} {st : Stmt} {N ps : List Str} {k : Nat} {mu : List Bool} {fb : Sm} (hc : Cls K.k (K.C cn)) (Df : MethAt K.k (K.C cn) m qual st ps) (sc : FnScope N ps (defScope st)) (hn : ps.length = mu.length)
    (hb : ∀ (f : Addr) (cdv : Value) (A : Around) (outer : List Env) (s : Shared) (H : Hp) (E : XK) (B : Bs) (W : WZ), Room k (A.deeper (envOfC qual (defScope st) s.heap.objs.size f cdv)) → B.C = K.C →
      Takes (cxOf (L2.CX P w) P w K.k mg base N qual (defScope st) f cdv A outer s H E) (WP K B W) → (∀ i, mu[i]? ≠ some true → B.root i = none) →
      VSs (cxOf (L2.CX P w) P w K.k mg base N qual (defScope st) f cdv A outer s H E) B W (defBody st) fb) : Me P w K mg base cn m (k + 1) mu (runB mu N.length fb) := by
  obtain ⟨f, fd, F, M, b⟩ := Df.ex
  exact ⟨hc, f, fd, ps, M, b, fnok_mk F sc hn (hb f)⟩
theorem mm_at {P : Program} {w : World} {K : KC} {mg : Str → Option Value} {base : Heap} {cn qual : Str} {st : Stmt} {N ps : List Str} {k : Nat} {mu : List Bool} {fb : Sm} (Df : MkAt K.k mg cn (K.C cn) qual st ps) (sc : FnScope N ps (defScope st)) (hn : ps.length = (true :: mu).length)
    (hb : ∀ (f : Addr) (cdv : Value) (A : Around) (outer : List Env) (s : Shared) (H : Hp) (E : XK) (B : Bs) (W : WZ), Room k (A.deeper (envOfC qual (defScope st) s.heap.objs.size f cdv)) → B.C = K.C →
      Takes (cxOf (L2.CX P w) P w K.k mg base N qual (defScope st) f cdv A outer s H E) (WP K B W) → (∀ i, (true :: mu)[i]? ≠ some true → B.root i = none) →
      VSs (cxOf (L2.CX P w) P w K.k mg base N qual (defScope st) f cdv A outer s H E) B W (defBody st) fb) : Mm P w K mg base cn (k + 1) mu (runB (true :: mu) N.length fb) := by
  obtain ⟨f, fd, F, M, b⟩ := Df.ex
  exact ⟨Df.g, f, fd, ps, M, b, fnok_mk F sc hn (hb f)⟩
theorem Mm.mono {P : Program} {w : World} {K : KC} {mg : Str → Option Value} {base : Heap} {cn : Str} {j k : Nat} {mu : List Bool} {run : List PV → Fr} (F : Mm P w K mg base cn j mu run) (h : j ≤ k) : Mm P w K mg base cn k mu run := by
  obtain ⟨f, fd, ps, h2, h3, h4⟩ := F.ex
  exact ⟨F.g, f, fd, ps, h2, h3, h4.mono h⟩
/-! ### a slice of what stands at a place -/
theorem Rel.seqP {K : KC} {B : Bs} {c : Cf} {σ : L2.St} {x : PV} {v : V} {f : Fl} {xs : List PV} (R : Rel K B c σ) (h : Vp K B c σ x v) (e : lookP c.s x = some (.cell f .lst xs)) (n : PV.nowns xs = true) : ∃ a ws, v = .ref a ∧ c.H a = some (.lst ws) ∧ Os K (c.F B.D) c.G c.H xs ws := by
  have key : ∀ {A : List Addr}, Own K (c.F B.D) c.G c.H (.cell f .lst xs) v A → ∃ a ws, v = .ref a ∧ c.H a = some (.lst ws) ∧ Os K (c.F B.D) c.G c.H xs ws := fun o => by
    obtain ⟨a, ws, A0, S, rfl, io, os, _⟩ := o.view F_le G_le
    exact ⟨a, ws, rfl, io.1, os.os (os.nown n)⟩
  rcases h with ⟨i, p, u, rfl, hu, hv⟩ | o
  · obtain ⟨y, h1, h2⟩ := lookP_loc e
    obtain ⟨u', h3, h4⟩ := R.own i y h1
    rw [hu] at h3; cases h3
    obtain ⟨w, A1, A2, g1, g2, _⟩ := h4.path p h2 F_le
    rw [hv] at g1; cases g1
    exact key g2
  · have : lookP c.s x = some x := by
      cases x with
      | loc i p => exact (not_loc o).elim
      | _ => rfl
    rw [this] at e; cases e
    exact key o
section
variable {X : Cx} {B : Bs} {W : WZ} {ma mb mc md : List Nat} {a b c d e : Expr} {fa fb fc fd : St → Rs PV} {pos p2 : Pos}
def gCutP (s : St) (x : PV) (l u : Option Int) : Option PV := match lookP s x with
  | some (.cell _ .lst xs) => if PV.nowns xs then some (.cell .own .lst (cutA xs l u)) else none
  | _ => none
def fCutP (f : St → Rs PV) (lo hi : St → Rs (Option Int)) (s : St) : Rs PV := (f s).bind fun x s1 => if (erQ s1 x).isSome then (lo s1).bind fun l s2 => (hi s2).bind fun u s3 => ofO (gCutP s3 x l u) s3 else .bad
theorem vf_sliceP {lo hi : Option Expr} {fl fh : St → Rs (Option Int)} (h : VP X B W e fa) (hl : VO X B W [] lo fl) (hh : VO X B W [] hi fh) : VF X B W [] (.Subscript e (.Slice lo hi none p2) pos) (fCutP fa fl fh) := by
  refine pe_imp (pe_slice sl_list h hl hh) fun σ H Q ⟨c, e, R, h⟩ => ?_
  subst e
  refine evP_run R (Rs.post_bind h) fun x v c1 a1 v1 p1 => ?_
  by_cases nq : (erQ c1.s x).isSome = true
  · rw [if_pos nq] at p1
    refine evO_run a1.rel (Rs.post_bind p1) fun l c2 a2 p2 => ?_
    refine evO_run a2.rel (Rs.post_bind p2) fun u c3 a3 p3 => ?_
    obtain ⟨z, hz, p4⟩ := ofO_post p3
    have a23 : Aft (kc X B) B [] [] c1 σ c3 := by simpa using a2.trans a3
    have aa : Aft (kc X B) B [] [] c σ c3 := by simpa using a1.trans a23
    have v3 := v1.stay a1.rel a23 nq
    unfold gCutP at hz
    split at hz
    · rename_i f xs el
      by_cases n : PV.nowns xs = true
      · rw [if_pos n] at hz; cases hz
        obtain ⟨q, ws, rfl, h1, r⟩ := a3.rel.seqP v3 el n
        refine ⟨q, ws, rfl, a3.rel.lkSqL (.inl (.inl h1)), fun t ht => ?_⟩
        obtain ⟨ht, hl⟩ := a3.rel.lkNew ht
        obtain ⟨c4, a4, e3, e4, o⟩ := aa.newL ht (r.cut l u)
        have := p4 _ _ c4 a4 e3 o
        rw [lk_upd hl, ← e4]; exact this
      · rw [if_neg n] at hz; cases hz
    · cases hz
  · rw [if_neg nq] at p1; exact p1.elim
end
/-! ### a op b op c op d -/
section
variable {X : Cx} {pos : Pos} {a b c d : Expr} {ta tb tc td : TE}
def tChn3 (r r' r'' : R2) (ta tb tc td : TE) : TT := fun σ H Q => ta σ H fun x H1 => tb σ H1 fun y H2 => r x y H2 fun z H3 => ∃ k, z = .bl k ∧ (if k = true then tc σ H3 fun x2 H4 => r' y x2 H4 fun z2 H5 => ∃ k2, z2 = .bl k2 ∧ (if k2 = true then td σ H5 fun x3 H6 => r'' x2 x3 H6 fun z3 H7 => ∃ k3, z3 = .bl k3 ∧ Q k3 H7 else Q false H5) else Q false H3)
theorem pt_chn3 {op op' op'' : CmpOp} {r r' r'' : R2} (ho : OpR X (compareOp op) r) (ho' : OpR X (compareOp op') r') (ho'' : OpR X (compareOp op'') r'') (ha : PE X a ta) (hb : PE X b tb) (hc : PE X c tc) (hd : PE X d td)
    (hm : lastMarks [op, op', op''] [b, c, d] = false := by with_unfolding_all rfl) : PT X (.Compare a [op, op', op''] [b, c, d] pos) (tChn3 r r' r'' ta tb tc td) := by
  constructor
  intro pins s σ H Q I h
  refine isTrue_chain (thn (ha.run pins s σ H _ I h) ?_) hm
  rintro v s1 ⟨x, H1, I1, r1, q1⟩
  refine test_link (thn (hb.run pins s1 σ H1 _ I1 q1) ?_)
  rintro u s2 ⟨y, H2, I2, r2, q2⟩
  refine thn (ho pins s2 σ H2 x y v u _ I2 r1 r2 q2) ?_
  rintro d1 s3 ⟨z, H3, I3, r3, k, rfl, q3⟩
  cases r3
  refine wpAny_truthy_bool ?_
  cases k with
  | false => exact ite_ff ⟨H3, I3, q3⟩
  | true =>
    refine ite_tt (test_link (thn (hc.run pins s3 σ H3 _ I3 q3) ?_))
    rintro u2 s4 ⟨y2, H4, I4, r4, q4⟩
    refine thn (ho' pins s4 σ H4 y y2 u u2 _ I4 r2 r4 q4) ?_
    rintro d2 s5 ⟨z2, H5, I5, r5, k2, rfl, q5⟩
    cases r5
    refine wpAny_truthy_bool ?_
    cases k2 with
    | false => exact ite_ff ⟨H5, I5, q5⟩
    | true =>
      refine ite_tt (test_last (thn (hd.run pins s5 σ H5 _ I5 q5) ?_))
      rintro u3 s6 ⟨y3, H6, I6, r6, q6⟩
      refine thn (ho'' pins s6 σ H6 y2 y3 u2 u3 _ I6 r4 r6 q6) ?_
      rintro d3 s7 ⟨z3, H7, I7, r7, k3, rfl, q7⟩
      cases r7
      exact wpAny_truthy_bool ⟨H7, I7, q7⟩
end
section
variable {X : Cx} {B : Bs} {W : WZ} {ma mb mc md : List Nat} {a b c d e : Expr} {fa fb fc fd : St → Rs PV} {pos p2 : Pos}
def tChain3 (g g' g'' : G2) (fa fb fc fd : St → Rs PV) (s : St) : Rs Bool := (fa s).bind fun x s1 => (fb s1).bind fun y s2 => match g s2 x y with
  | some (.bl true) => (fc s2).bind fun z s3 => match g' s3 y z with
    | some (.bl true) => (fd s3).bind fun w s4 => match g'' s4 z w with
      | some (.bl k) => .ok k s4
      | _ => .bad
    | some (.bl false) => .ok false s3
    | _ => .bad
  | some (.bl false) => .ok false s2
  | _ => .bad
theorem vt_chain3 {op op' op'' : CmpOp} {r r' r'' : R2} {g g' g'' : G2} (ho : OpR X (compareOp op) r) (ho' : OpR X (compareOp op') r') (ho'' : OpR X (compareOp op'') r'') (hp : POp X B r g) (hp' : POp X B r' g') (hp'' : POp X B r'' g'') (ha : VE X B W ma a fa) (hb : VE X B W mb b fb) (hc : VE X B W mc c fc) (hd : VE X B W md d fd)
    (hm : lastMarks [op, op', op''] [b, c, d] = false := by with_unfolding_all rfl) : VT X B W (((ma ++ mb) ++ mc) ++ md) (.Compare a [op, op', op''] [b, c, d] pos) (tChain3 g g' g'' fa fb fc fd) := by
  refine pt_imp (pt_chn3 ho ho' ho'' ha hb hc hd hm) fun σ H Q ⟨c0, e, R, h⟩ => ?_
  subst e
  refine evE_run R (Rs.post_bind h) fun x v c1 a1 v1 p1 => ?_
  refine evE_run a1.rel (Rs.post_bind p1) fun y w c2 a2 v2 p2 => ?_
  split at p2
  · rename_i hz
    refine hp c2 σ x y (.bl true) v w _ a2.rel (v1.step a2.st) v2 hz fun u H' le o => ?_
    have gr := a2.rel.grow (ms := []) le
    refine ⟨true, o.blEq, ?_⟩
    rw [if_pos rfl]
    refine evE_run gr.rel (Rs.post_bind p2) fun z w3 c3 a3 v3 p3 => ?_
    have a03 : Aft (kc X B) B ((ma ++ mb) ++ mc) [] c0 σ c3 := by simpa using ((a1.trans a2).trans gr).trans a3
    have v23 := (v2.step gr.st).step a3.st
    split at p3
    · rename_i hz2
      refine hp' c3 σ y z (.bl true) w w3 _ a3.rel v23 v3 hz2 fun u2 H2 le2 o2 => ?_
      have gr2 := a3.rel.grow (ms := []) le2
      refine ⟨true, o2.blEq, ?_⟩
      rw [if_pos rfl]
      refine evE_run gr2.rel (Rs.post_bind p3) fun z4 w4 c4 a4 v4 p4 => ?_
      have a04 : Aft (kc X B) B (((ma ++ mb) ++ mc) ++ md) [] c0 σ c4 := by simpa using (a03.trans gr2).trans a4
      have v34 := (v3.step gr2.st).step a4.st
      split at p4
      · rename_i k hz3
        refine hp'' c4 σ z z4 (.bl k) w3 w4 _ a4.rel v34 v4 hz3 fun u3 H3 le3 o3 => ?_
        exact ⟨k, o3.blEq, p4 { c4 with H := H3 } (a04.grow le3) rfl⟩
      · exact p4.elim
    · rename_i hz2
      refine hp' c3 σ y z (.bl false) w w3 _ a3.rel v23 v3 hz2 fun u2 H2 le2 o2 => ?_
      refine ⟨false, o2.blEq, ?_⟩
      rw [if_neg (by decide)]
      exact p3 { c3 with H := H2 } ((a03.grow le2).more fun i m => List.mem_append_left _ m) rfl
    · exact p3.elim
  · rename_i hz
    refine hp c2 σ x y (.bl false) v w _ a2.rel (v1.step a2.st) v2 hz fun u H' le o => ?_
    refine ⟨false, o.blEq, ?_⟩
    rw [if_neg (by decide)]
    have t : Aft (kc X B) B (ma ++ mb) [] c0 σ { c2 with H := H' } := by simpa using (a1.trans a2).grow le
    exact p2 { c2 with H := H' } (t.more fun i m => List.mem_append_left _ (List.mem_append_left _ m)) rfl
  · exact p2.elim
theorem vt_le3 (ha : VE X B W ma a fa) (hb : VE X B W mb b fb) (hc : VE X B W mc c fc) (hd : VE X B W md d fd) (hm : lastMarks [.LtE, .LtE, .LtE] [b, c, d] = false := by with_unfolding_all rfl) : VT X B W (((ma ++ mb) ++ mc) ++ md) (.Compare a [.LtE, .LtE, .LtE] [b, c, d] pos) (tChain3 gLe gLe gLe fa fb fc fd) := vt_chain3 op_le op_le op_le (pop_I0 fun _ _ _ _ _ => .bl _) (pop_I0 fun _ _ _ _ _ => .bl _) (pop_I0 fun _ _ _ _ _ => .bl _) ha hb hc hd hm
theorem vt_le2 (ha : VE X B W ma a fa) (hb : VE X B W mb b fb) (hc : VE X B W mc c fc) (hm : lastMarks [.LtE, .LtE] [b, c] = false := by with_unfolding_all rfl) : VT X B W ((ma ++ mb) ++ mc) (.Compare a [.LtE, .LtE] [b, c] pos) (Z.tB (eChain gLe gLe fa fb fc)) := vt_chain op_le op_le (pop_I0 fun _ _ _ _ _ => .bl _) (pop_I0 fun _ _ _ _ _ => .bl _) ha hb hc hm
end
end Z

/-! names set to the items of a list at a place. -/
namespace Z
open PySem PySem.Spec PyProof.Rows L2
section
variable {X : Cx} {B : Bs} {W : WZ} {e : Expr} {fa : St → Rs PV} {pos : Pos}
def selP (s : St) (x : PV) : Option (List PV) := match lookP s x with
  | some (.cell _ .lst xs) => if PV.nowns xs then some xs else none
  | _ => none
def sUnP (is : List Nat) (f : St → Rs PV) : Sm := fun s => (f s).bind fun x s1 => match selP s1 x with
  | some xs => if xs.length = is.length ∧ is.all (fun i => decide (i < s1.length)) then .ok .nx (setAll is xs s1) else .bad
  | none => .bad
theorem vs_unP {is : List Nat} {tg : Expr} {g : TG} (hg : PG X tg g) (h : VP X B W e fa) (hr : ∀ i ∈ is, B.root i = none)
    (hgs : ∀ (a : Addr) (ws : List V) (σ : L2.St) (H : Hp) (Q : L2.St → Hp → Prop), SqL X.K H a ws → ws.length = is.length → Q ((is.zip ws).foldl (fun r q => r.set q.1 (some q.2)) σ) H → g (.ref a) σ H Q)
    (hs : swapsWithSole [tg] e pos.line X.env = pure false := by rfl) (hw : swappedStores [tg] e X.env = pure none := by rfl)
    (h1 : (assignEach [tg] X.env).map (·.2) = [assign tg X.env] := by rfl) : VS X B W (.Assign [tg] e pos) (sUnP is fa) := by
  refine ps_imp (ps_asg h hg hs hw h1) fun D σ H ⟨c, e, R, T0, h⟩ => ?_
  subst e
  refine evP_run R (Rs.post_bind h) fun x v c1 a1 v1 p1 => ?_
  split at p1
  · rename_i xs ex
    unfold selP at ex
    split at ex
    · rename_i f ys el
      by_cases no : PV.nowns ys = true
      · rw [if_pos no] at ex; cases ex
        obtain ⟨q, ws, rfl, hq, os⟩ := a1.rel.seqP v1 el no
        by_cases n : xs.length = is.length ∧ is.all (fun i => decide (i < c1.s.length)) = true
        · rw [if_pos n] at p1
          obtain ⟨c2, R2, e1, e2, e3, e4, _⟩ := Rel.putAll (S := []) (T := c1.T) is a1.rel rfl (fun a m => by cases m) os.owns n.1 (fun i m => by simpa using List.all_eq_true.mp n.2 i m) hr
          have st : Step [] c c2 := ⟨fun a o n h => by rw [e2]; exact a1.st.keep a o n h, fun a h => by
            rcases h with h | h
            · cases h
            · exact a1.st.new a ((e4 a h).imp_left fun z => by cases z), by rw [e3, a1.st.T]⟩
          refine hgs q ws σ (c1.R B) _ (a1.rel.lkSqL (.inl (.inl hq))) (by rw [← os.length]; exact n.1) ?_
          have := p1 _ c2 R2 st (by rw [e1]; rfl)
          have e2' : c2.H = c1.H := e2
          show D.nx _ (lk B.L c1.H)
          rw [← e2']; exact this
        · rw [if_neg n] at p1; exact p1.elim
      · rw [if_neg no] at ex; cases ex
    · cases ex
  · exact p1.elim
end
end Z

/-! a, b = x, y of values. -/
namespace Z
open PySem PySem.Spec PyProof.Rows L2
section
variable {X : Cx} {B : Bs} {W : WZ} {ms : List Nat} {ga : St → Rs (List PV)} {pos : Pos} {a b : Expr}
def sPar (i j : Nat) (g : St → Rs (List PV)) : Sm := fun s => (g s).bind fun xs s1 => match xs with
  | [x, y] => if x.nown && y.nown && decide (i < s1.length) && decide (j < s1.length) then .ok .nx (setAll [i, j] [x, y] s1) else .bad
  | _ => .bad
theorem Vl.plain {K : KC} {B : Bs} {c : Cf} {σ : L2.St} {x : PV} {v : V} (h : Vl K B c σ x v) (n : x.nown = true) : Own K (c.F B.D) c.G c.H x v [] := by
  rcases h with ⟨i, rfl, _⟩ | o
  · cases n
  · exact o
theorem vs_par {i j : Nat} {x y : Str} {px py pt : Pos} {kt k2 : Nat} {pt2 : Pos} (hc : X.calm = true) (hN : X.N.Nodup) (ha : VA X B W ms [a, b] ga) (hr : ∀ k ∈ [i, j], B.root k = none) (hij : i ≠ j) (hi : X.N[i]? = some x := by rfl) (hj : X.N[j]? = some y := by rfl)
    (hx : X.env.scope.names.lookup x = some .local := by rfl) (hy : X.env.scope.names.lookup y = some .local := by rfl) (hw : swappedStores [.Tuple [.Name x px, .Name y py] kt pt] (.Tuple [a, b] k2 pt2) X.env = pure (some [x, y]) := by rfl)
    (hs : swapsWithSole [.Tuple [.Name x px, .Name y py] kt pt] (.Tuple [a, b] k2 pt2) pos.line X.env = pure false := by rfl) :
    VS X B W (.Assign [.Tuple [.Name x px, .Name y py] kt pt] (.Tuple [a, b] k2 pt2) pos) (sPar i j ga) := by
  refine ps_imp (ps_par hc hN hi hj hij hx hy ha hw hs) fun D σ H ⟨c, e, R, T0, h⟩ => ?_
  subst e
  refine evA_run R (Rs.post_bind h) fun xs vs c1 a1 v1 p1 => ?_
  split at p1
  · rename_i x0 y0
    cases v1 with
    | cons v1 v2 =>
      rename_i v vs
      cases v2 with
      | cons v2 v3 =>
        rename_i w ws
        cases v3
        refine ⟨v, w, rfl, ?_⟩
        by_cases n : (x0.nown && y0.nown && decide (i < c1.s.length) && decide (j < c1.s.length)) = true
        · rw [if_pos n] at p1
          simp only [Bool.and_eq_true, decide_eq_true_eq] at n
          obtain ⟨⟨⟨n1, n2⟩, n3⟩, n4⟩ := n
          have os : Os (kc X B) (c1.F B.D) c1.G c1.H [x0, y0] [v, w] := .cons (v1.plain n1) (.cons (v2.plain n2) .nil)
          obtain ⟨c2, R2, e1, e2, e3, e4, _⟩ := Rel.putAll (S := []) (T := c1.T) [i, j] a1.rel rfl (fun a m => by cases m) os.owns rfl (fun k m => by
            simp only [List.mem_cons, List.not_mem_nil, or_false] at m
            rcases m with rfl | rfl
            · exact n3
            · exact n4) hr
          have st : Step [] c c2 := ⟨fun a o n h => by rw [e2]; exact a1.st.keep a o n h, fun a h => by
            rcases h with h | h
            · cases h
            · exact a1.st.new a ((e4 a h).imp_left fun z => by cases z), by rw [e3, a1.st.T]⟩
          have := p1 _ c2 R2 st (by rw [e1]; rfl)
          show D.nx _ (lk B.L c1.H)
          rw [← show c2.H = c1.H from e2]; exact this
        · rw [if_neg n] at p1; exact p1.elim
  · exact p1.elim
end
end Z

/-! sorted(d) of a dict with whole numbers as keys. -/
namespace Z
open PySem PySem.Spec PyProof.Rows L2
section
variable {X : Cx} {B : Bs}
def keysI : List Key → Option (List Int)
  | [] => some []
  | .inl i :: ks => (keysI ks).map fun l => i :: l
  | .inr _ :: _ => none
theorem keysI_eq : ∀ {ks : List Key} {ns : List Int}, keysI ks = some ns → ks = ns.map Sum.inl
  | [], ns, h => by cases h; rfl
  | .inl i :: ks, ns, h => by
    rw [keysI] at h
    cases e : keysI ks with
    | none => rw [e] at h; cases h
    | some l =>
      rw [e] at h; cases h
      rw [List.map_cons, keysI_eq e]
  | .inr _ :: _, ns, h => by cases h
def cSortedD : GC := fun s xs => match xs with
  | [x] => match look s x with
    | .cell _ (.dK ks) _ => match keysI ks with
      | some ns => if ns.length < 64 then some (.cell .own .lst ((srt ns).map PV.int)) else none
      | none => none
    | _ => none
  | _ => none
theorem fc_sortD : FCall X B (fun xs H Q => ∃ (a : Addr) (kvs : List (Key × V)) (ks : List Int), xs = [.ref a] ∧ Rd H a (.dK kvs) ∧ kvs.map (·.1) = ks.map Sum.inl ∧ ks.length < 64 ∧
    ∀ (ys : List Int) (p : Addr), ys.Perm ks → ys.Pairwise (· ≤ ·) → H p = none → Q (.ref p) (upd H p (.lst (ys.map V.int)))) cSortedD := by
  intro ms c0 c σ xs vs z Q a hx g k
  have R := a.rel
  unfold cSortedD at g
  split at g
  · rename_i x
    obtain ⟨v, rfl, r⟩ := hx.one
    split at g
    · rename_i f ks ys e
      split at g
      · rename_i ns en
        by_cases n : ns.length < 64
        · rw [if_pos n] at g
          cases g
          obtain ⟨q, ws, A0, S, rfl, io, os⟩ := R.cellOf r e
          refine ⟨q, _, ns, rfl, lk_rd io.1, ?_, n, fun ys' t h2 h3 ht => ?_⟩
          · rw [List.map_fst_zip (Nat.le_of_eq io.2.1), keysI_eq en]
          · obtain ⟨ht, hl⟩ := R.lkNew ht
            obtain ⟨c2, a2, e3, e4, o⟩ := a.newL ht (Os.ints ys')
            have := k (.ref t) [t] c2 a2 e3 (by rw [← srt_unique h2 h3]; exact o)
            rw [lk_upd hl, ← e4]; exact this
        · rw [if_neg n] at g; cases g
      · cases g
    · cases g
  · cases g
end
end Z

/-! Texts: s[i], c in s, s[a:b], str(n), int(s), sep.join(xs), s.split(sep), walks over a text. -/
namespace Z
open PySem PySem.Spec PyProof.Rows L2
section
variable {X : Cx} {B : Bs} {W : WZ} {ms ma mb mc : List Nat} {tg a b e o : Expr} {es : List Expr} {fa fb fc : St → Rs PV} {ga : St → Rs (List PV)} {pos p p2 p1 p3 apos cpos : Pos}
def gIxS : G2 := fun s x y => match look s x, y with
  | .str z, .int i => if z.length ≤ sizeLine then (atI z.cps.toList i).map fun c => .str ⟨#[c]⟩ else none
  | _, _ => none
theorem pop_ixS : POp X B rIxS gIxS := by
  intro c σ x y z v w Q R hx hy g k
  unfold gIxS at g
  split at g
  · rename_i t i e
    by_cases n : t.length ≤ sizeLine
    · rw [if_pos n] at g
      cases h : atI t.cps.toList i with
      | none => rw [h] at g; cases g
      | some q =>
        rw [h] at g; cases g
        exact ⟨t, i, q, lookStr R hx e, hy.int, n, h, k (.str ⟨#[q]⟩) c.H (Le.refl _) (.str _)⟩
    · rw [if_neg n] at g; cases g
  · cases g
theorem ve_itemS (ha : VE X B W ma a fa) (hb : VE X B W mb b fb) (hs : PlainIx b := by exact fun _ _ => rfl) : VE X B W (ma ++ mb) (.Subscript a b pos) (e2 gIxS fa fb) := ve_ix ix_str pop_ixS ha hb hs
/-! one sign in a text -/
def oneS (x : Str) : Option Nat := match x.cps.toList with
  | [c] => some c
  | _ => none
theorem oneS_eq {x : Str} {c : Nat} (h : oneS x = some c) : x = ⟨#[c]⟩ := by
  unfold oneS at h
  split at h
  · rename_i d e
    cases h
    obtain ⟨xs⟩ := x
    have : xs = #[c] := by
      have := congrArg List.toArray e
      simpa using this
    rw [this]
  · cases h
def gInS (f : Bool → Bool) : G2 := fun s x y => match look s x, look s y with
  | .str x, .str z => (oneS x).map fun c => .bl (f (decide (c ∈ z.cps.toList)))
  | _, _ => none
theorem pop_inS : POp X B (fun x y H Q => ∃ (c : Nat) (z : Str), x = .str ⟨#[c]⟩ ∧ y = .str z ∧ Q (.bl (decide (c ∈ z.cps.toList))) H) (gInS id) := by
  intro c σ x y z v w Q R hx hy g k
  unfold gInS at g
  split at g
  · rename_i x' z' e1 e2
    cases h : oneS x' with
    | none => rw [h] at g; cases g
    | some q =>
      rw [h] at g; cases g
      have := oneS_eq h
      subst this
      exact ⟨q, z', lookStr R hx e1, lookStr R hy e2, k (.bl _) c.H (Le.refl _) (.bl _)⟩
  · cases g
theorem pop_notinS : POp X B (fun x y H Q => ∃ (c : Nat) (z : Str), x = .str ⟨#[c]⟩ ∧ y = .str z ∧ Q (.bl (!decide (c ∈ z.cps.toList))) H) (gInS not) := by
  intro c σ x y z v w Q R hx hy g k
  unfold gInS at g
  split at g
  · rename_i x' z' e1 e2
    cases h : oneS x' with
    | none => rw [h] at g; cases g
    | some q =>
      rw [h] at g; cases g
      have := oneS_eq h
      subst this
      exact ⟨q, z', lookStr R hx e1, lookStr R hy e2, k (.bl _) c.H (Le.refl _) (.bl _)⟩
  · cases g
theorem ve_inS (ha : VE X B W ma a fa) (hb : VE X B W mb b fb) (hm : behindInMarks .In b = false := by rfl) : VE X B W (ma ++ mb) (.Compare a [.In] [b] pos) (e2 (gInS id) fa fb) := ve_cmp op_in_sign pop_inS ha hb hm
theorem ve_notinS (ha : VE X B W ma a fa) (hb : VE X B W mb b fb) (hm : behindInMarks .NotIn b = false := by rfl) : VE X B W (ma ++ mb) (.Compare a [.NotIn] [b] pos) (e2 (gInS not) fa fb) := ve_cmp op_notIn_sign pop_notinS ha hb hm
theorem vt_inS (ha : VE X B W ma a fa) (hb : VE X B W mb b fb) (hm : behindInMarks .In b = false := by rfl) : VT X B W (ma ++ mb) (.Compare a [.In] [b] pos) (tB (e2 (gInS id) fa fb)) := vt_cmp op_in_sign pop_inS ha hb hm
theorem vt_notinS (ha : VE X B W ma a fa) (hb : VE X B W mb b fb) (hm : behindInMarks .NotIn b = false := by rfl) : VT X B W (ma ++ mb) (.Compare a [.NotIn] [b] pos) (tB (e2 (gInS not) fa fb)) := vt_cmp op_notIn_sign pop_notinS ha hb hm
/-! s[a:b] -/
def gCutS (s : St) (x : PV) (l u : Option Int) : Option PV := match look s x with
  | .str z => if z.length ≤ sizeLine then some (.str (cutS z l u)) else none
  | _ => none
def eCutS (f : St → Rs PV) (lo hi : St → Rs (Option Int)) (s : St) : Rs PV := (f s).bind fun x s1 => (lo s1).bind fun l s2 => (hi s2).bind fun u s3 => ofO (gCutS s3 x l u) s3
theorem ve_sliceS {lo hi : Option Expr} {fl fh : St → Rs (Option Int)} (h : VE X B W ma e fa) (hl : VO X B W mb lo fl) (hh : VO X B W mc hi fh) : VE X B W (ma ++ mb ++ mc) (.Subscript e (.Slice lo hi none p2) pos) (eCutS fa fl fh) := by
  refine pe_imp (pe_slice sl_str h hl hh) fun σ H Q ⟨c, e, R, h⟩ => ?_
  subst e
  refine evE_run R (Rs.post_bind h) fun x v c1 a1 v1 p1 => ?_
  refine evO_run a1.rel (Rs.post_bind p1) fun l c2 a2 p2 => ?_
  refine evO_run a2.rel (Rs.post_bind p2) fun u c3 a3 p3 => ?_
  obtain ⟨z, hz, p4⟩ := ofO_post p3
  have aa := (a1.trans a2).trans a3
  unfold gCutS at hz
  split at hz
  · rename_i t e
    by_cases n : t.length ≤ sizeLine
    · rw [if_pos n] at hz; cases hz
      refine ⟨t, lookStr a3.rel ((v1.step a2.st).step a3.st) e, n, p4 _ c3 (by simpa using aa) rfl (.inr (.str _))⟩
    · rw [if_neg n] at hz; cases hz
  · cases hz
/-! str(n), int(s) -/
def cStr : GC := fun s xs => match xs with
  | [x] => (match look s x with
    | .int i => if i.natAbs.log2 < 1920 then some (.str (toString i)) else none
    | _ => none)
  | _ => none
theorem pc_str : PCall X B (fun xs H Q => ∃ i, xs = [.int i] ∧ i.natAbs.log2 < 1920 ∧ Q (.str (toString i)) H) cStr := by
  intro c σ xs vs z Q R hx g k
  unfold cStr at g
  split at g
  · obtain ⟨v, rfl, r⟩ := hx.one
    split at g
    · rename_i i e
      by_cases n : i.natAbs.log2 < 1920
      · rw [if_pos n] at g; cases g
        exact ⟨i, by rw [lookInt R r e], n, k (.str _) c.H (Le.refl _) (.str _)⟩
      · rw [if_neg n] at g; cases g
    · cases g
  · cases g
def cIntS : GC := fun s xs => match xs with
  | [x] => (match look s x with
    | .str a => if a.length ≤ 640 then (PySem.intText? a).map PV.int else none
    | _ => none)
  | _ => none
theorem pc_intS : PCall X B (fun xs H Q => ∃ a n, xs = [.str a] ∧ PySem.intText? a = some n ∧ a.length ≤ 640 ∧ Q (.int n) H) cIntS := by
  intro c σ xs vs z Q R hx g k
  unfold cIntS at g
  split at g
  · obtain ⟨v, rfl, r⟩ := hx.one
    split at g
    · rename_i a e
      by_cases n : a.length ≤ 640
      · rw [if_pos n] at g
        cases h : PySem.intText? a with
        | none => rw [h] at g; cases g
        | some m =>
          rw [h] at g; cases g
          exact ⟨a, m, by rw [lookStr R r e], h, n, k (.int m) c.H (Le.refl _) (.int _)⟩
      · rw [if_neg n] at g; cases g
    · cases g
  · cases g
/-! sep.join(xs), s.split(sep) -/
def PV.strs : List PV → Option (List Str)
  | [] => some []
  | .str x :: xs => (PV.strs xs).map fun ys => x :: ys
  | _ :: _ => none
theorem PV.strs_map : ∀ ys : List Str, PV.strs (ys.map PV.str) = some ys
  | [] => rfl
  | y :: ys => by rw [List.map_cons, PV.strs, PV.strs_map ys]; rfl
theorem strs_nowns : ∀ {xs : List PV} {ys : List Str}, PV.strs xs = some ys → PV.nowns xs = true
  | [], _, _ => rfl
  | x :: xs, ys, h => by
    cases x with
    | str y =>
      rw [PV.strs] at h
      cases q : PV.strs xs with
      | none => rw [q] at h; cases h
      | some zs => rw [PV.nowns, strs_nowns q]; rfl
    | _ => cases h
theorem Os.strsEq {K : KC} {F G H : Hp} : ∀ {xs : List PV} {ys : List Str} {vs : List V}, PV.strs xs = some ys → Os K F G H xs vs → vs = ys.map V.str
  | [], _, _, h, .nil => by cases h; rfl
  | x :: xs, ys, _, h, .cons a b => by
    cases x with
    | str y =>
      rw [PV.strs] at h
      cases q : PV.strs xs with
      | none => rw [q] at h; cases h
      | some zs =>
        rw [q] at h; cases h
        rw [a.strEq, Os.strsEq q b]; rfl
    | _ => cases h
def gJoin (s : St) (x y : PV) : Option PV := match look s x, look s y with
  | .str a, .cell _ .lst xs => match PV.strs xs with
    | some ys => if (ys.map (·.length)).sum + ys.length * a.length ≤ 16777216 then some (.str (Txt.join a ys)) else none
    | none => none
  | _, _ => none
def eJoin (fo fe : St → Rs PV) (s : St) : Rs PV := (fo s).bind fun x s1 => if isStr (look s1 x) then (fe s1).bind fun y s2 => ofO (gJoin s2 x y) s2 else .bad
where isStr : PV → Bool
  | .str _ => true
  | _ => false
theorem isStr_eq {x : PV} (h : eJoin.isStr x = true) : ∃ a, x = .str a := by
  cases x with
  | str a => exact ⟨a, rfl⟩
  | _ => cases h
theorem ve_join (ho : VE X B W ma o fa) (he : VE X B W mb e fb) (hs : starEach [e] X.env = [(false, eval e X.env)] := by rfl) (hbase : attributeBase o "join" X.env (eval o X.env) = eval o X.env := by rfl) (hline : (apos.endLine == pos.line) = true := by rfl) :
    VE X B W (ma ++ mb) (.Call (.Attribute o "join" apos) [e] [] pos) (eJoin fa fb) := by
  refine pe_imp (pe_join ho he hs hbase hline) fun σ H Q ⟨c, e, R, h⟩ => ?_
  subst e
  show evE (kc X B) B W ma fa σ (c.R B) fun x H1 => (∃ a, x = .str a) ∧ evE (kc X B) B W mb fb σ H1 fun y H2 => _
  refine evE_run R (Rs.post_bind h) fun x v c1 a1 v1 p1 => ?_
  by_cases n : eJoin.isStr (look c1.s x) = true
  · rw [if_pos n] at p1
    obtain ⟨t, ht⟩ := isStr_eq n
    refine ⟨⟨t, lookStr a1.rel v1 ht⟩, evE_run a1.rel (Rs.post_bind p1) fun y w c2 a2 v2 p2 => ?_⟩
    obtain ⟨z, hz, p3⟩ := ofO_post p2
    unfold gJoin at hz
    split at hz
    · rename_i t2 f xs e1 e2
      split at hz
      · rename_i ys hy
        by_cases m : (ys.map (·.length)).sum + ys.length * t2.length ≤ 16777216
        · rw [if_pos m] at hz; cases hz
          obtain ⟨q, ws, rfl, h1, r⟩ := a2.rel.lstOf v2 e2 (strs_nowns hy)
          have := r.strsEq hy
          subst this
          exact ⟨t2, q, ys, lookStr a2.rel (v1.step a2.st) e1, rfl, .inl (a2.rel.lkSqL (.inl (.inl h1))), m, p3 _ c2 (a1.trans a2) rfl (.inr (.str _))⟩
        · rw [if_neg m] at hz; cases hz
      · cases hz
    · cases hz
  · rw [if_neg n] at p1; exact p1.elim
def fSplit (fo fe : St → Rs PV) (s : St) : Rs PV := (fo s).bind fun x s1 => if eJoin.isStr (look s1 x) then (fe s1).bind fun y s2 => match look s2 x, look s2 y with
  | .str a, .str b => if (b.length == 0) = false ∧ a.length + 2 ≤ sizeLine then .ok (.cell .own .lst ((Txt.split a b).map PV.str)) s2 else .bad
  | _, _ => .bad
  else .bad
theorem vf_split (ho : VE X B W ma o fa) (he : VE X B W mb e fb) (hs : starEach [e] X.env = [(false, eval e X.env)] := by rfl) (hbase : attributeBase o "split" X.env (eval o X.env) = eval o X.env := by rfl) (hline : (apos.endLine == pos.line) = true := by rfl) :
    VF X B W (ma ++ mb) (.Call (.Attribute o "split" apos) [e] [] pos) (fSplit fa fb) := by
  refine pe_imp (pe_split ho he hs hbase hline) fun σ H Q ⟨c, e, R, h⟩ => ?_
  subst e
  show evE (kc X B) B W ma fa σ (c.R B) fun x H1 => (∃ a, x = .str a) ∧ evE (kc X B) B W mb fb σ H1 fun y H2 => _
  refine evE_run R (Rs.post_bind h) fun x v c1 a1 v1 p1 => ?_
  by_cases n : eJoin.isStr (look c1.s x) = true
  · rw [if_pos n] at p1
    obtain ⟨t, ht⟩ := isStr_eq n
    refine ⟨⟨t, lookStr a1.rel v1 ht⟩, evE_run a1.rel (Rs.post_bind p1) fun y w c2 a2 v2 p2 => ?_⟩
    split at p2
    · rename_i t2 b2 e1 e2
      by_cases m : (b2.length == 0) = false ∧ t2.length + 2 ≤ sizeLine
      · rw [if_pos m] at p2
        refine ⟨t2, b2, lookStr a2.rel (v1.step a2.st) e1, by rw [lookStr a2.rel v2 e2], m.1, m.2, fun q hq => ?_⟩
        obtain ⟨hq, hl⟩ := a2.rel.lkNew hq
        obtain ⟨c4, a4, e3, e4, o4⟩ := (a1.trans a2).newL hq (Os.strs (Txt.split t2 b2))
        have := p2 _ _ c4 a4 e3 o4
        rw [lk_upd hl, ← e4]; exact this
      · rw [if_neg m] at p2; exact p2.elim
    · exact p2.elim
  · rw [if_neg n] at p1; exact p1.elim
/-! a text, sign by sign -/
def signs (z : Str) : List PV := z.cps.toList.map fun c => .str ⟨#[c]⟩
def iStrF (f : St → Rs PV) (s : St) : Rs (List PV) := (f s).bind fun x s1 => match look s1 x with
  | .str z => .ok (signs z) s1
  | _ => .bad
theorem vi_str (he : VE X B W ms e fa) : VI X B W ms tg e (iStrF fa) := by
  refine ⟨fun pins s σ H R I ⟨c, ec, Rl, h⟩ => (pi_str (tg := tg) he).run pins s σ H R I ?_⟩
  subst ec
  refine evE_run Rl (Rs.post_bind h) fun x v c1 a1 v1 p1 => ?_
  split at p1
  · rename_i z hz
    refine ⟨z, lookStr a1.rel v1 hz, p1 _ c1 a1 rfl ⟨fun _ => True, _, by rw [signs, List.length_map]; exact walk_str (z := z), fun _ _ _ _ => trivial, fun i c' σ' u H' R' st hi y => ?_⟩⟩
    obtain ⟨y1, q, y2, y3⟩ := y
    subst y1 y3
    refine ⟨c'.H, .str ⟨#[q]⟩, rfl, Le.refl _, ?_, .str _⟩
    rw [signs, List.getElem?_map, Array.getElem?_toList, y2]
    rfl
  · exact p1.elim
end
end Z
/-! Trees, plainly. -/
namespace A
inductive Tr where
  | nil : Tr
  | node (l : Tr) (x : Int) (r : Tr) : Tr
namespace Tr
def pre : Tr → List Int
  | nil => []
  | node l x r => x :: (l.pre ++ r.pre)
def ino : Tr → List Int
  | nil => []
  | node l x r => l.ino ++ x :: r.ino
def size : Tr → Nat
  | nil => 0
  | node l _ r => l.size + r.size + 1
def bst : Tr → Prop
  | nil => True
  | node l x r => l.bst ∧ r.bst ∧ (∀ y ∈ l.pre, y < x) ∧ ∀ y ∈ r.pre, x < y
theorem len_pre : ∀ t : Tr, t.pre.length = t.size
  | nil => rfl
  | node l x r => by simp [pre, size, len_pre l, len_pre r]
theorem mem_ino : ∀ {t : Tr} {y : Int}, y ∈ t.ino ↔ y ∈ t.pre
  | nil, _ => by simp [pre, ino]
  | node l x r, y => by
    simp only [pre, ino, List.mem_append, List.mem_cons, mem_ino (t := l), mem_ino (t := r)]
    constructor
    · rintro (h | h | h)
      · exact .inr (.inl h)
      · exact .inl h
      · exact .inr (.inr h)
    · rintro (h | h | h)
      · exact .inr (.inl h)
      · exact .inl h
      · exact .inr (.inr h)
theorem perm_ino : ∀ t : Tr, t.ino.Perm t.pre
  | nil => List.Perm.refl _
  | node l x r => by
    have h1 := perm_ino l
    have h2 := perm_ino r
    have : (l.ino ++ x :: r.ino).Perm (x :: (l.ino ++ r.ino)) := List.perm_middle
    exact this.trans ((h1.append h2).cons x)
theorem bst_iff : ∀ t : Tr, t.bst ↔ t.ino.Pairwise (· < ·)
  | nil => by simp [bst, ino]
  | node l x r => by
    simp only [bst, ino, List.pairwise_append, List.pairwise_cons, bst_iff l, bst_iff r]
    constructor
    · rintro ⟨h1, h2, h3, h4⟩
      refine ⟨h1, ⟨fun y hy => h4 y (mem_ino.mp hy), h2⟩, fun a ha b hb => ?_⟩
      have ha' := h3 a (mem_ino.mp ha)
      rcases List.mem_cons.mp hb with rfl | hb
      · exact ha'
      · have := h4 b (mem_ino.mp hb); omega
    · rintro ⟨h1, ⟨h2, h3⟩, h4⟩
      exact ⟨h1, h3, fun y hy => h4 y (mem_ino.mpr hy) x List.mem_cons_self, fun y hy => h2 y (mem_ino.mpr hy)⟩
/-- the left part's numbers are those less than the top -/
theorem lo_node {l r : Tr} {x : Int} (h : (node l x r).bst) : ((node l x r).pre.filter fun y => decide (y < x)) = l.pre := by
  obtain ⟨_, _, h3, h4⟩ := h
  rw [pre, List.filter_cons]
  rw [if_neg (by simp), List.filter_append]
  rw [List.filter_eq_self.mpr (fun y hy => by simpa using h3 y hy)]
  rw [List.filter_eq_nil_iff.mpr (fun y hy => by have := h4 y hy; simp; omega)]
  simp
theorem take_node {l r : Tr} {x : Int} : (l.pre ++ r.pre).take l.pre.length = l.pre := by simp
theorem drop_node {l r : Tr} {x : Int} : (l.pre ++ r.pre).drop l.pre.length = r.pre := by simp
/-! ### the way -/
def way (n : Int) : Tr → List Int
  | nil => []
  | node l x r => x :: (if n < x then l.way n else if x < n then r.way n else [])
/-! ### one turn: the number n, somewhere below the top -/
def rot (n : Int) : Tr → Tr
  | nil => nil
  | node l x r => match l, r with
    | node a y b, r => if y = n then node a y (node b x r) else
      (match r with
      | node c z d => if z = n then node (node (node a y b) x c) z d else if n < x then node (rot n (node a y b)) x (node c z d) else node (node a y b) x (rot n (node c z d))
      | nil => if n < x then node (rot n (node a y b)) x nil else node (node a y b) x nil)
    | nil, node c z d => if z = n then node (node nil x c) z d else if n < x then node nil x (node c z d) else node nil x (rot n (node c z d))
    | nil, nil => node nil x nil
def topIs (n : Int) : Tr → Bool
  | nil => false
  | node _ x _ => decide (x = n)
/-- the same, by cases that one asks -/
theorem rot_eq (n x : Int) (l r : Tr) : rot n (node l x r) = if l.topIs n then (match l with | node a y b => node a y (node b x r) | nil => nil) else if r.topIs n then (match r with | node c z d => node (node l x c) z d | nil => nil) else if n < x then node (rot n l) x r else node l x (rot n r) := by
  cases l with
  | nil =>
    cases r with
    | nil => simp [rot, topIs]
    | node c z d =>
      simp only [rot, topIs]
      by_cases h : z = n <;> by_cases g : n < x <;> simp [h, g]
  | node a y b =>
    cases r with
    | nil =>
      simp only [rot, topIs]
      by_cases h : y = n <;> by_cases g : n < x <;> simp [h, g, rot]
    | node c z d =>
      simp only [rot, topIs]
      by_cases h : y = n <;> by_cases h2 : z = n <;> by_cases g : n < x <;> simp [h, h2, g]
theorem ino_rot (n : Int) : ∀ t : Tr, (rot n t).ino = t.ino
  | nil => rfl
  | node l x r => by
    rw [rot_eq]
    cases l with
    | nil =>
      cases r with
      | nil => by_cases g : n < x <;> simp [topIs, g, rot, ino]
      | node c z d =>
        have := ino_rot n (node c z d)
        by_cases h : z = n <;> by_cases g : n < x <;> simp [topIs, h, g, ino, rot] at this ⊢
        · exact this
    | node a y b =>
      have h1 := ino_rot n (node a y b)
      cases r with
      | nil => by_cases h : y = n <;> by_cases g : n < x <;> simp [topIs, h, g, ino, rot] at h1 ⊢ <;> simp [h1]
      | node c z d =>
        have h2 := ino_rot n (node c z d)
        by_cases h : y = n <;> by_cases h' : z = n <;> by_cases g : n < x <;> simp [topIs, h, h', g, ino] at h1 h2 ⊢ <;> first | (rw [h1]; simp) | (rw [h2])
theorem bst_rot {n : Int} {t : Tr} (h : t.bst) : (rot n t).bst := by
  rw [bst_iff, ino_rot, ← bst_iff]; exact h
theorem size_eq (t : Tr) : t.size = t.ino.length := by rw [(perm_ino t).length_eq, len_pre]
theorem size_rot (n : Int) (t : Tr) : (rot n t).size = t.size := by rw [size_eq, ino_rot, ← size_eq]
theorem mem_rot {n y : Int} {t : Tr} : y ∈ (rot n t).pre ↔ y ∈ t.pre := by rw [← mem_ino, ino_rot, mem_ino]
end Tr
/-! ### what is_tree reckons -/
def popW (n : Int) : Option Int → List Int → Option Int × List Int
  | low, [] => (low, [])
  | low, w :: ws => if w < n then popW n (some w) ws else (low, w :: ws)
def lowBad : Option Int → Int → Bool
  | some l, n => decide (n ≤ l)
  | none, _ => false
def isStep (st : Option Int × List Int) (n : Int) : Option (Option Int × List Int) :=
  if 1000000000 ≤ n.natAbs ∨ lowBad st.1 n = true then none
  else if (popW n st.1 st.2).2.head? = some n then none
  else some ((popW n st.1 st.2).1, n :: (popW n st.1 st.2).2)
def isRun : Option Int × List Int → List Int → Option (Option Int × List Int)
  | st, [] => some st
  | st, n :: ns => match isStep st n with
    | some st' => isRun st' ns
    | none => none
def isTree (l : List Int) : Bool := (isRun (none, []) l).isSome && decide (l.length ≤ 60)
end A

namespace A
theorem popW_stay {n : Int} {low : Option Int} : ∀ {st : List Int}, (∀ y ∈ st, n < y) → popW n low st = (low, st)
  | [], _ => rfl
  | w :: ws, h => by
    have := h w List.mem_cons_self
    rw [popW, if_neg (by omega)]
theorem popW_over {n x : Int} {st : List Int} (hx : x < n) (hst : ∀ y ∈ st, n < y) : ∀ {S : List Int} {low : Option Int}, (∀ y ∈ S, y < n) → popW n low (S ++ x :: st) = (some x, st)
  | [], low, _ => by
    rw [List.nil_append, popW, if_pos hx, popW_stay hst]
  | w :: S, low, h => by
    rw [List.cons_append, popW, if_pos (h w List.mem_cons_self)]
    exact popW_over hx hst fun y m => h y (List.mem_cons_of_mem _ m)
theorem isRun_append : ∀ (a : List Int) (st : Option Int × List Int) (b : List Int), isRun st (a ++ b) = (isRun st a).bind fun st' => isRun st' b
  | [], st, b => rfl
  | n :: a, st, b => by
    rw [List.cons_append, isRun, isRun]
    cases isStep st n with
    | none => rfl
    | some st' => exact isRun_append a st' b
theorem head_ne {n : Int} : ∀ {st : List Int}, (∀ y ∈ st, n < y) → ¬ st.head? = some n
  | [], _ => by simp
  | w :: ws, h => by
    have := h w List.mem_cons_self
    simp; omega
theorem isRun_tr : ∀ (t : Tr) (low : Option Int) (st : List Int), t.bst → (∀ y ∈ t.pre, y.natAbs < 1000000000) → (∀ y ∈ t.pre, lowBad low y = false) → (∀ y ∈ t.pre, ∀ z ∈ st, y < z) →
    ∃ low' S, isRun (low, st) t.pre = some (low', S ++ st) ∧ (∀ y ∈ S, y ∈ t.pre) ∧ (low' = low ∨ ∃ y ∈ t.pre, low' = some y)
  | .nil, low, st, _, _, _, _ => ⟨low, [], rfl, fun y m => (by cases m), .inl rfl⟩
  | .node l x r, low, st, hb, hn, hl, hs => by
    obtain ⟨b1, b2, b3, b4⟩ := hb
    have mx : x ∈ (Tr.node l x r).pre := List.mem_cons_self
    have ml : ∀ y ∈ l.pre, y ∈ (Tr.node l x r).pre := fun y m => List.mem_cons_of_mem _ (List.mem_append_left _ m)
    have mr : ∀ y ∈ r.pre, y ∈ (Tr.node l x r).pre := fun y m => List.mem_cons_of_mem _ (List.mem_append_right _ m)
    have s1 : isStep (low, st) x = some (low, x :: st) := by
      unfold isStep
      have h1 := hn x mx
      have h2 := hl x mx
      rw [if_neg (by simp only [h2]; simp; omega)]
      simp only [popW_stay (hs x mx)]
      rw [if_neg (head_ne (hs x mx))]
    obtain ⟨low1, S1, e1, i1, g1⟩ := isRun_tr l low (x :: st) b1 (fun y m => hn y (ml y m)) (fun y m => hl y (ml y m)) (fun y m z hz => by
      rcases List.mem_cons.mp hz with rfl | hz
      · exact b3 y m
      · exact hs y (ml y m) z hz)
    have run : isRun (low, st) (Tr.node l x r).pre = isRun (low1, S1 ++ x :: st) r.pre := by
      show isRun (low, st) (x :: (l.pre ++ r.pre)) = _
      rw [isRun, s1]
      show isRun (low, x :: st) (l.pre ++ r.pre) = _
      rw [isRun_append, e1]; rfl
    rw [run]
    cases hr : r with
    | nil =>
      refine ⟨low1, S1 ++ [x], by simp [Tr.pre, isRun], fun y m => ?_, ?_⟩
      · rw [← hr]
        rcases List.mem_append.mp m with m | m
        · exact ml y (i1 y m)
        · cases List.mem_singleton.mp m; exact mx
      · rw [← hr]
        rcases g1 with g | ⟨y, m, g⟩
        · exact .inl g
        · exact .inr ⟨y, ml y m, g⟩
    | node rl n rr =>
      rw [← hr]
      have mn : n ∈ r.pre := by rw [hr]; exact List.mem_cons_self
      have xn := b4 n mn
      have lb : lowBad low1 n = false := by
        rcases g1 with g | ⟨y, m, g⟩
        · rw [g]; exact hl n (mr n mn)
        · have := b3 y m
          rw [g]; simp [lowBad]; omega
      have hso : ∀ y ∈ st, n < y := fun y m => hs n (mr n mn) y m
      have same : isStep (low1, S1 ++ x :: st) n = isStep (some x, st) n := by
        unfold isStep
        have p1 : popW n low1 (S1 ++ x :: st) = (some x, st) := popW_over xn hso (fun y m => by have := b3 y (i1 y m); omega)
        have p2 : popW n (some x) st = (some x, st) := popW_stay hso
        have p3 : lowBad (some x) n = false := by simp [lowBad]; omega
        simp only [p1, p2, lb, p3]
      have run2 : isRun (low1, S1 ++ x :: st) r.pre = isRun (some x, st) r.pre := by
        rw [hr]
        show isRun _ (n :: (rl.pre ++ rr.pre)) = isRun _ (n :: (rl.pre ++ rr.pre))
        rw [isRun, isRun, same]
      obtain ⟨low2, S2, e2, i2, g2⟩ := isRun_tr r (some x) st b2 (fun y m => hn y (mr y m)) (fun y m => by have := b4 y m; simp [lowBad]; omega) (fun y m z hz => hs y (mr y m) z hz)
      refine ⟨low2, S2, run2.trans e2, fun y m => mr y (i2 y m), ?_⟩
      rcases g2 with g | ⟨y, m, g⟩
      · exact .inr ⟨x, mx, g⟩
      · exact .inr ⟨y, mr y m, g⟩
/-- a tree that may be handed in -/
structure Tr.ok (t : Tr) : Prop where
  b : t.bst
  n : ∀ y ∈ t.pre, y.natAbs < 1000000000
  s : t.size ≤ 60
theorem isTree_pre {t : Tr} (h : t.ok) : isTree t.pre = true := by
  obtain ⟨low, S, e, _⟩ := isRun_tr t none [] h.b h.n (fun _ _ => rfl) (fun _ _ _ m => (by cases m))
  unfold isTree
  rw [e, t.len_pre]
  have := h.s
  simp [this]
theorem Tr.ok.rot {t : Tr} (h : t.ok) (n : Int) : (t.rot n).ok := ⟨Tr.bst_rot h.b, fun y m => h.n y (Tr.mem_rot.mp m), by rw [Tr.size_rot]; exact h.s⟩
theorem Tr.ok.left {l r : Tr} {x : Int} (h : (Tr.node l x r).ok) : l.ok := ⟨h.b.1, fun y m => h.n y (List.mem_cons_of_mem _ (List.mem_append_left _ m)), by have := h.s; simp [Tr.size] at this; omega⟩
theorem Tr.ok.right {l r : Tr} {x : Int} (h : (Tr.node l x r).ok) : r.ok := ⟨h.b.2.1, fun y m => h.n y (List.mem_cons_of_mem _ (List.mem_append_right _ m)), by have := h.s; simp [Tr.size] at this; omega⟩
end A

/-! More of trees. -/
namespace A

/-- the parts under a number -/
def Tr.sub (n : Int) : Tr → Tr × Tr
  | .nil => (.nil, .nil)
  | .node l x r => if n < x then l.sub n else if x < n then r.sub n else (l, r)
theorem Tr.mem_side {l r : Tr} {x n : Int} (b : (Tr.node l x r).bst) (h : n ∈ (Tr.node l x r).pre) (ne : x ≠ n) : (n < x ∧ n ∈ l.pre) ∨ (x < n ∧ n ∈ r.pre) := by
  rw [Tr.pre] at h
  rcases List.mem_cons.mp h with z | h
  · exact absurd z.symm ne
  · rcases List.mem_append.mp h with h | h
    · exact .inl ⟨b.2.2.1 n h, h⟩
    · exact .inr ⟨b.2.2.2 n h, h⟩
theorem Tr.top_pre {t : Tr} {k : Int} : t.topIs k = true ↔ ∃ l r, t = .node l k r := by
  cases t with
  | nil => simp [Tr.topIs]
  | node l x r =>
    simp only [Tr.topIs, decide_eq_true_eq]
    constructor
    · rintro rfl; exact ⟨l, r, rfl⟩
    · rintro ⟨a, b, e⟩; injection e
theorem head_top {t : Tr} {k : Int} (h : t ≠ .nil) : ∃ x l, t.pre = x :: l ∧ decide (x = k) = t.topIs k := by
  cases t with
  | nil => exact absurd rfl h
  | node l x r => exact ⟨x, _, rfl, rfl⟩
theorem pre_nil {t : Tr} : decide (t.pre = []) = (match t with | .nil => true | _ => false) := by
  cases t <;> simp [Tr.pre]
theorem way_len (n : Int) : ∀ t : Tr, (t.way n).length ≤ t.size
  | .nil => Nat.le_refl _
  | .node l x r => by
    have h1 := way_len n l
    have h2 := way_len n r
    rw [Tr.way, Tr.size, List.length_cons]
    by_cases c : n < x
    · rw [if_pos c]; omega
    · rw [if_neg c]
      by_cases d : x < n
      · rw [if_pos d]; omega
      · rw [if_neg d]; simp
def Tr.deps : Tr → Int → List (Int × Int)
  | .nil, _ => []
  | .node l x r, d => (x, d) :: (r.deps (d + 1) ++ l.deps (d + 1))
theorem deps_perm : ∀ (t : Tr) (d : Int), ((t.deps d).map Prod.fst).Perm t.pre
  | .nil, _ => .refl _
  | .node l x r, d => by
    rw [Tr.deps, Tr.pre, List.map_cons, List.map_append]
    exact (((deps_perm r (d + 1)).append (deps_perm l (d + 1))).trans List.perm_append_comm).cons x
theorem Tr.nodup {t : Tr} (h : t.bst) : t.pre.Nodup := by
  rw [← (Tr.perm_ino t).nodup_iff]
  exact ((Tr.bst_iff t).mp h).imp fun h => Int.ne_of_lt h
theorem deps_nodup {t : Tr} (h : t.bst) (d : Int) : ((t.deps d).map Prod.fst).Nodup := (deps_perm t d).nodup_iff.mpr (Tr.nodup h)
theorem deps_len (t : Tr) (d : Int) : (t.deps d).length = t.size := by
  have := (deps_perm t d).length_eq
  rw [List.length_map, Tr.len_pre] at this; exact this
def dM : List (Tr × Int) → Nat
  | [] => 0
  | p :: S => 2 * p.1.size + 1 + dM S
theorem dM_len : ∀ S : List (Tr × Int), S.length ≤ dM S
  | [] => Nat.le_refl _
  | p :: S => by have := dM_len S; rw [dM, List.length_cons]; omega
end A

/-! One turn, seen from outside. -/
namespace A

theorem sorted_eq : ∀ {l m : List Int}, l.Perm m → l.Pairwise (· ≤ ·) → m.Pairwise (· ≤ ·) → l = m
  | [], m, p, _, _ => (List.nil_perm.mp p).symm
  | a :: l, [], p, _, _ => absurd p.length_eq (by simp)
  | a :: l, b :: m, p, h1, h2 => by
    have h3 := List.pairwise_cons.mp h1
    have h4 := List.pairwise_cons.mp h2
    have e : a = b := by
      have x1 : a ∈ b :: m := p.subset List.mem_cons_self
      have x2 : b ∈ a :: l := p.symm.subset List.mem_cons_self
      rcases List.mem_cons.mp x1 with z | z
      · exact z
      · rcases List.mem_cons.mp x2 with y | y
        · exact y.symm
        · have := h3.1 b y; have := h4.1 a z; omega
    subst e
    rw [sorted_eq p.cons_inv h3.2 h4.2]
inductive Turn (n o : Int) (a b c : Tr) : Bool → List Int → Tr → Tr → Prop
  | L : n < o → Turn n o a b c false [] (.node (.node a n b) o c) (.node a n (.node b o c))
  | R : o < n → Turn n o a b c true [] (.node a o (.node b n c)) (.node (.node a o b) n c)
  | inL {s : Bool} {ws : List Int} {l l' r : Tr} {x : Int} : n < x → o < x → Turn n o a b c s ws l l' → Turn n o a b c s (x :: ws) (.node l x r) (.node l' x r)
  | inR {s : Bool} {ws : List Int} {l r r' : Tr} {x : Int} : x < n → x < o → Turn n o a b c s ws r r' → Turn n o a b c s (x :: ws) (.node l x r) (.node l x r')
theorem top_false {t : Tr} {n : Int} (h : n ∉ t.pre) : t.topIs n = false := by
  cases t with
  | nil => rfl
  | node l x r => simp only [Tr.topIs, decide_eq_false_iff_not]; rintro rfl; exact h (by simp [Tr.pre])
theorem Turn.mem {n o : Int} {a b c t t' : Tr} {s : Bool} {ws : List Int} (h : Turn n o a b c s ws t t') : n ∈ t.pre ∧ o ∈ t.pre := by
  induction h with
  | L _ => simp [Tr.pre]
  | R _ => simp [Tr.pre]
  | inL _ _ _ ih => simp [Tr.pre, ih.1, ih.2]
  | inR _ _ _ ih => simp [Tr.pre, ih.1, ih.2]
theorem turn_ex (n : Int) : ∀ (t : Tr), t.bst → n ∈ t.pre → t.topIs n = false → ∃ o a b c s ws, Turn n o a b c s ws t (t.rot n)
  | .nil, _, h, _ => by simp [Tr.pre] at h
  | .node l x r, hb, hm, ht => by
    have ne : x ≠ n := by simpa [Tr.topIs] using ht
    rw [Tr.rot_eq]
    by_cases c1 : l.topIs n = true
    · obtain ⟨a, b, rfl⟩ := Tr.top_pre.mp c1
      rw [if_pos c1]
      exact ⟨x, a, b, r, false, [], .L (hb.2.2.1 n (by simp [Tr.pre]))⟩
    · rw [if_neg c1]
      by_cases c2 : r.topIs n = true
      · obtain ⟨a, b, rfl⟩ := Tr.top_pre.mp c2
        rw [if_pos c2]
        exact ⟨x, l, a, b, true, [], .R (hb.2.2.2 n (by simp [Tr.pre]))⟩
      · rw [if_neg c2]
        rcases Tr.mem_side hb hm ne with ⟨h1, h2⟩ | ⟨h1, h2⟩
        · rw [if_pos h1]
          obtain ⟨o, a, b, c, s, ws, T⟩ := turn_ex n l hb.1 h2 (by simpa using c1)
          exact ⟨o, a, b, c, s, _, .inL h1 (hb.2.2.1 o T.mem.2) T⟩
        · rw [if_neg (by omega)]
          obtain ⟨o, a, b, c, s, ws, T⟩ := turn_ex n r hb.2.1 h2 (by simpa using c2)
          exact ⟨o, a, b, c, s, _, .inR h1 (hb.2.2.2 o T.mem.2) T⟩
def pick (s : Bool) (p : Tr × Tr) : Tr := if s then p.2 else p.1
def Tr.dp : Tr → Int → Int → Int
  | .nil, _, d => d
  | .node l x r, y, d => if y < x then l.dp y (d + 1) else if x < y then r.dp y (d + 1) else d
section
variable {n o : Int} {a b c t t' : Tr} {s : Bool} {ws : List Int}
theorem Turn.ne (h : Turn n o a b c s ws t t') : decide (o < n) = s ∧ n ≠ o := by
  induction h with
  | L h => exact ⟨decide_eq_false (by omega), by omega⟩
  | R h => exact ⟨decide_eq_true h, by omega⟩
  | inL _ _ _ ih => exact ih
  | inR _ _ _ ih => exact ih
theorem Turn.way (h : Turn n o a b c s ws t t') : t.way n = ws ++ [o, n] ∧ t'.way n = ws ++ [n] ∧ t'.way o = ws ++ [n, o] := by
  induction h with
  | L h => simp [Tr.way, h]; omega
  | R h => simp [Tr.way, h]; omega
  | inL h1 h2 _ ih => simp [Tr.way, h1, h2, ih.1, ih.2.1, ih.2.2]
  | inR h1 h2 _ ih =>
    have c1 : ¬ n < _ := Int.not_lt.mpr (Int.le_of_lt h1)
    have c2 : ¬ o < _ := Int.not_lt.mpr (Int.le_of_lt h2)
    simp [Tr.way, h1, h2, c1, c2, ih.1, ih.2.1, ih.2.2]
theorem Turn.top (h : Turn n o a b c s ws t t') : t'.topIs o = false := by
  cases h with
  | L h => simp [Tr.topIs]; omega
  | R h => simp [Tr.topIs]; omega
  | inL h1 h2 _ => simp [Tr.topIs]; omega
  | inR h1 h2 _ => simp [Tr.topIs]; omega
theorem Turn.back (h : Turn n o a b c s ws t t') (hb : t.bst) : t'.rot o = t := by
  induction h with
  | L h =>
    have ha : a.topIs o = false := top_false fun m => by have := hb.1.2.2.1 o m; omega
    rw [Tr.rot_eq, ha]; simp [Tr.topIs]
  | R h =>
    rw [Tr.rot_eq]; simp [Tr.topIs]
  | inL h1 h2 h ih =>
    rename_i r x
    have hr : r.topIs o = false := top_false fun m => by have := hb.2.2.2 o m; omega
    rw [Tr.rot_eq, h.top, hr, ih hb.1]; simp [h2]
  | inR h1 h2 h ih =>
    rename_i l r r' x
    have hl : l.topIs o = false := top_false fun m => by have := hb.2.2.1 o m; omega
    have c2 : ¬ o < x := by omega
    rw [Tr.rot_eq, h.top, hl, ih hb.2.1]; simp [c2]
theorem Turn.subs (h : Turn n o a b c s ws t t') : pick s (t'.sub o) = pick (!s) (t.sub n) ∧ pick (!s) (t'.sub o) = pick (!s) (t.sub o) ∧ pick s (t'.sub n) = pick s (t.sub n) := by
  induction h with
  | L h =>
    have h2 : ¬ o < n := by omega
    simp [Tr.sub, pick, h, h2]
  | R h =>
    have h2 : ¬ n < o := by omega
    simp [Tr.sub, pick, h, h2]
  | inL h1 h2 _ ih => simpa [Tr.sub, h1, h2] using ih
  | inR h1 h2 _ ih =>
    rename_i x _
    have c1 : ¬ n < x := by omega
    have c2 : ¬ o < x := by omega
    simpa [Tr.sub, h1, h2, c1, c2] using ih
theorem Turn.sub (h : Turn n o a b c s ws t t') : pick (!s) (t'.sub o) = (if s then a else c) ∧ pick s (t.sub n) = (if s then c else a) := by
  induction h with
  | L h =>
    have h2 : ¬ o < n := by omega
    simp [Tr.sub, pick, h, h2]
  | R h =>
    have h2 : ¬ n < o := by omega
    simp [Tr.sub, pick, h, h2]
  | inL h1 h2 _ ih => simpa [Tr.sub, h1, h2] using ih
  | inR h1 h2 _ ih =>
    rename_i x _
    have c1 : ¬ n < x := by omega
    have c2 : ¬ o < x := by omega
    simpa [Tr.sub, h1, h2, c1, c2] using ih
def i01 (p : Prop) [Decidable p] : Int := if p then 1 else 0
theorem dp_add (t : Tr) : ∀ (y d e : Int), t.dp y (d + e) = t.dp y d + e := by
  induction t with
  | nil => intro y d e; rfl
  | node l x r h1 h2 =>
    intro y d e
    simp only [Tr.dp]
    rw [show d + e + 1 = d + 1 + e by omega, h1, h2]
    by_cases c1 : y < x
    · simp [c1]
    · by_cases c2 : x < y
      · simp [c1, c2]
      · simp [c1, c2]
theorem Turn.mem_abc (h : Turn n o a b c s ws t t') : (∀ y ∈ a.pre, y ∈ t.pre) ∧ ∀ y ∈ c.pre, y ∈ t.pre := by
  induction h with
  | L h => constructor <;> intro y m <;> simp [Tr.pre, m]
  | R h => constructor <;> intro y m <;> simp [Tr.pre, m]
  | inL h1 h2 _ ih => constructor <;> intro y m <;> simp [Tr.pre, ih.1 _, ih.2 _, m]
  | inR h1 h2 _ ih => constructor <;> intro y m <;> simp [Tr.pre, ih.1 _, ih.2 _, m]
theorem i01_t {p : Prop} [Decidable p] (h : p) : i01 p = 1 := if_pos h
theorem i01_f {p : Prop} [Decidable p] (h : ¬ p) : i01 p = 0 := if_neg h
theorem Turn.deps (h : Turn n o a b c s ws t t') (hb : t.bst) : ∀ (y d : Int), y ∈ t.pre → t'.dp y d = t.dp y d + i01 (y ∈ o :: (if s then a else c).pre) - i01 (y ∈ n :: (if s then c else a).pre) := by
  induction h with
  | L h =>
    intro y d hm
    obtain ⟨⟨ha, hbb, h1, h2⟩, hc, h3, h4⟩ := hb
    have g1 : ∀ {y : Int}, y ∈ n :: a.pre → y ≤ n := fun m => by
      rcases List.mem_cons.mp m with z | z
      · omega
      · have := h1 _ z; omega
    have g2 : ∀ {y : Int}, y ∈ o :: c.pre → o ≤ y := fun m => by
      rcases List.mem_cons.mp m with z | z
      · omega
      · have := h4 _ z; omega
    have g3 : ∀ {y : Int}, y ∈ b.pre → y < o := fun m => h3 _ (by simp [Tr.pre, m])
    simp only [Bool.false_eq_true, if_false]
    by_cases c1 : y ≤ n
    · have e1 : y ∈ n :: a.pre := by
        simp only [Tr.pre, List.mem_cons, List.mem_append] at hm
        rcases hm with z | (z | z | z) | z
        · omega
        · exact z ▸ List.mem_cons_self
        · exact List.mem_cons_of_mem _ z
        · have := h2 y z; omega
        · have := h4 y z; omega
      rw [i01_t e1, i01_f (p := y ∈ o :: c.pre) fun m => by have := g2 m; omega]
      simp only [Tr.dp]
      have c3 : y < o := by omega
      have c4 : ¬ n < y := by omega
      by_cases c2 : y < n
      · simp only [c2, c3, if_true]; rw [dp_add a y (d + 1) 1]; omega
      · simp only [c2, c3, c4, if_true, if_false]; omega
    · rw [i01_f (p := y ∈ n :: a.pre) fun m => c1 (g1 m)]
      simp only [Tr.dp]
      rw [if_neg (show ¬ y < n by omega), if_pos (show n < y by omega)]
      by_cases c2 : y < o
      · rw [if_pos c2, if_pos c2, if_neg (show ¬ y < n by omega), if_pos (show n < y by omega), i01_f (p := y ∈ o :: c.pre) fun m => by have := g2 m; omega]; omega
      · have e1 : y ∈ o :: c.pre := by
          simp only [Tr.pre, List.mem_cons, List.mem_append] at hm
          rcases hm with z | (z | z | z) | z
          · exact z ▸ List.mem_cons_self
          · omega
          · have := h1 y z; omega
          · have := g3 z; omega
          · exact List.mem_cons_of_mem _ z
        rw [i01_t e1, if_neg c2, if_neg c2]
        by_cases c3 : o < y
        · rw [if_pos c3, if_pos c3, dp_add c y (d + 1) 1]; omega
        · rw [if_neg c3, if_neg c3]; omega
  | R h =>
    intro y d hm
    obtain ⟨ha, ⟨hbb, hc, h1, h2⟩, h3, h4⟩ := hb
    have g1 : ∀ {y : Int}, y ∈ o :: a.pre → y ≤ o := fun m => by
      rcases List.mem_cons.mp m with z | z
      · omega
      · have := h3 _ z; omega
    have g2 : ∀ {y : Int}, y ∈ n :: c.pre → n ≤ y := fun m => by
      rcases List.mem_cons.mp m with z | z
      · omega
      · have := h2 _ z; omega
    have g3 : ∀ {y : Int}, y ∈ b.pre → o < y := fun m => h4 _ (by simp [Tr.pre, m])
    simp only [if_true]
    by_cases c1 : y ≤ o
    · have e1 : y ∈ o :: a.pre := by
        simp only [Tr.pre, List.mem_cons, List.mem_append] at hm
        rcases hm with z | z | (z | z | z)
        · exact z ▸ List.mem_cons_self
        · exact List.mem_cons_of_mem _ z
        · omega
        · have := g3 z; omega
        · have := h2 y z; omega
      rw [i01_t e1, i01_f (p := y ∈ n :: c.pre) fun m => by have := g2 m; omega]
      simp only [Tr.dp]
      have c3 : y < n := by omega
      have c4 : ¬ o < y := by omega
      by_cases c2 : y < o
      · simp only [c2, c3, if_true]; rw [dp_add a y (d + 1) 1]; omega
      · simp only [c2, c3, c4, if_true, if_false]; omega
    · rw [i01_f (p := y ∈ o :: a.pre) fun m => c1 (g1 m)]
      simp only [Tr.dp]
      rw [if_neg (show ¬ y < o by omega), if_pos (show o < y by omega)]
      by_cases c2 : y < n
      · rw [if_pos c2, if_pos c2, i01_f (p := y ∈ n :: c.pre) fun m => by have := g2 m; omega]; omega
      · have e1 : y ∈ n :: c.pre := by
          simp only [Tr.pre, List.mem_cons, List.mem_append] at hm
          rcases hm with z | z | (z | z | z)
          · omega
          · have := h3 y z; omega
          · exact z ▸ List.mem_cons_self
          · have := h1 y z; omega
          · exact List.mem_cons_of_mem _ z
        rw [i01_t e1, if_neg c2, if_neg c2]
        by_cases c3 : n < y
        · rw [if_pos c3, if_pos c3, dp_add c y (d + 1) 1]; omega
        · rw [if_neg c3, if_neg c3]; omega
  | inL h1 h2 h ih =>
    rename_i s ws l l' r x
    intro y d hm
    have hA := h.mem_abc
    have out : ¬ y < x → y ∉ o :: (if s then a else c).pre ∧ y ∉ n :: (if s then c else a).pre := by
      intro cy
      have q : ∀ z ∈ l.pre, y ≠ z := fun z m => by have := hb.2.2.1 z m; omega
      refine ⟨fun m => ?_, fun m => ?_⟩
      · rcases List.mem_cons.mp m with z | z
        · omega
        · cases s
          · exact q y (hA.2 y z) rfl
          · exact q y (hA.1 y z) rfl
      · rcases List.mem_cons.mp m with z | z
        · omega
        · cases s
          · exact q y (hA.1 y z) rfl
          · exact q y (hA.2 y z) rfl
    simp only [Tr.dp]
    by_cases cy : y < x
    · rw [if_pos cy, if_pos cy]
      refine ih hb.1 y (d + 1) ?_
      rcases Tr.mem_side hb hm (by omega) with z | z
      · exact z.2
      · omega
    · rw [i01_f (out cy).1, i01_f (out cy).2, if_neg cy, if_neg cy]; omega
  | inR h1 h2 h ih =>
    rename_i s ws l r r' x
    intro y d hm
    have hA := h.mem_abc
    have out : ¬ x < y → y ∉ o :: (if s then a else c).pre ∧ y ∉ n :: (if s then c else a).pre := by
      intro cy
      have q : ∀ z ∈ r.pre, y ≠ z := fun z m => by have := hb.2.2.2 z m; omega
      refine ⟨fun m => ?_, fun m => ?_⟩
      · rcases List.mem_cons.mp m with z | z
        · omega
        · cases s
          · exact q y (hA.2 y z) rfl
          · exact q y (hA.1 y z) rfl
      · rcases List.mem_cons.mp m with z | z
        · omega
        · cases s
          · exact q y (hA.1 y z) rfl
          · exact q y (hA.2 y z) rfl
    simp only [Tr.dp]
    by_cases cy : x < y
    · rw [if_neg (show ¬ y < x by omega), if_neg (show ¬ y < x by omega), if_pos cy, if_pos cy]
      refine ih hb.2.1 y (d + 1) ?_
      rcases Tr.mem_side hb hm (by omega) with z | z
      · omega
      · exact z.2
    · rw [i01_f (out cy).1, i01_f (out cy).2, if_neg cy, if_neg cy]; omega
end
end A

/-! The rules. -/
namespace A
open PySem
theorem way_mem {n y : Int} : ∀ {t : Tr}, y ∈ t.way n → y ∈ t.pre
  | .nil, h => by simp [Tr.way] at h
  | .node l x r, h => by
    rw [Tr.way] at h
    rw [Tr.pre]
    rcases List.mem_cons.mp h with h | h
    · exact h ▸ List.mem_cons_self
    · refine List.mem_cons_of_mem _ ?_
      by_cases c : n < x
      · rw [if_pos c] at h; exact List.mem_append_left _ (way_mem h)
      · rw [if_neg c] at h
        by_cases d : x < n
        · rw [if_pos d] at h; exact List.mem_append_right _ (way_mem h)
        · rw [if_neg d] at h; cases h
/-- the way to one on the way -/
theorem way_pre {n y : Int} : ∀ {t : Tr} {u v : List Int}, t.bst → t.way n = u ++ y :: v → t.way y = u ++ [y]
  | .nil, u, v, _, h => by simp [Tr.way] at h
  | .node l x r, u, v, hb, h => by
    rw [Tr.way] at h
    cases u with
    | nil =>
      injection h with h1 h2
      subst h1
      simp [Tr.way]
    | cons a u =>
      injection h with h1 h2
      subst h1
      by_cases c : n < x
      · rw [if_pos c] at h2
        have hy : y < x := hb.2.2.1 y (way_mem (n := n) (by rw [h2]; simp))
        rw [Tr.way, if_pos hy, way_pre hb.1 h2]; rfl
      · rw [if_neg c] at h2
        by_cases d : x < n
        · rw [if_pos d] at h2
          have hy : x < y := hb.2.2.2 y (way_mem (n := n) (by rw [h2]; simp))
          rw [Tr.way, if_neg (by omega), if_pos hy, way_pre hb.2.1 h2]; rfl
        · rw [if_neg d] at h2; simp at h2
theorem way_one {x : Int} {t : Tr} (hm : x ∈ t.pre) (h : (t.way x).length ≤ 1) (hb : t.bst) : t.topIs x = true := by
  cases t with
  | nil => simp [Tr.pre] at hm
  | node l y r =>
    by_cases e : y = x
    · exact decide_eq_true e
    · exfalso
      rw [Tr.way] at h
      rcases Tr.mem_side hb hm e with ⟨h1, h2⟩ | ⟨h1, h2⟩
      · rw [if_pos h1] at h
        cases l with
        | nil => simp [Tr.pre] at h2
        | node a z b => rw [Tr.way] at h; simp at h
      · rw [if_neg (by omega), if_pos h1] at h
        cases r with
        | nil => simp [Tr.pre] at h2
        | node a z b => rw [Tr.way] at h; simp at h
theorem way_top {x : Int} {t : Tr} (h : t.topIs x = true) : t.way x = [x] := by
  obtain ⟨l, r, rfl⟩ := Tr.top_pre.mp h
  simp [Tr.way]
theorem way_long {x : Int} {t : Tr} (h : 1 < (t.way x).length) : t.topIs x = false := by
  cases c : t.topIs x with
  | false => rfl
  | true => rw [way_top c] at h; simp at h
theorem Turn.low {n o y : Int} {a b c t t' : Tr} {s : Bool} {ws v : List Int} (h : Turn n o a b c s ws t t') (hb : t.bst) (hw : t.way y = ws ++ o :: n :: v) (hs : decide (y < n) = !s) (hn : y ≠ n) : t'.way y = ws ++ n :: v := by
  induction h with
  | L h1 =>
    have hy : y < n := of_decide_eq_true hs
    have hyo : y < o := by omega
    simp only [Tr.way, hy, hyo, if_true, List.nil_append] at hw ⊢
    injection hw with _ hw
  | R h1 =>
    have hy : ¬ y < n := of_decide_eq_false hs
    have hy2 : n < y := by omega
    have hyo : o < y := by omega
    have hyo2 : ¬ y < o := by omega
    simp only [Tr.way, hy, hy2, hyo, hyo2, if_true, if_false, List.nil_append] at hw ⊢
    injection hw with _ hw
  | inL h1 h2 h ih =>
    rename_i s ws l l' r x
    rw [Tr.way, List.cons_append] at hw
    injection hw with _ hw
    by_cases cy : y < x
    · rw [if_pos cy] at hw
      rw [Tr.way, if_pos cy, ih hb.1 hw hs]; rfl
    · rw [if_neg cy] at hw
      exfalso
      by_cases cz : x < y
      · rw [if_pos cz] at hw
        have := hb.2.2.2 o (way_mem (n := y) (by rw [hw]; simp))
        omega
      · rw [if_neg cz] at hw; simp at hw
  | inR h1 h2 h ih =>
    rename_i s ws l r r' x
    rw [Tr.way, List.cons_append] at hw
    injection hw with _ hw
    by_cases cy : y < x
    · rw [if_pos cy] at hw
      exfalso
      have := hb.2.2.1 o (way_mem (n := y) (by rw [hw]; simp))
      omega
    · rw [if_neg cy] at hw
      by_cases cz : x < y
      · rw [if_pos cz] at hw
        rw [Tr.way, if_neg cy, if_pos cz, ih hb.2.1 hw hs]; rfl
      · rw [if_neg cz] at hw; simp at hw
/-- one step of one, seen by the ways -/
theorem rot_way {x p : Int} {t : Tr} {w : List Int} (hb : t.bst) (hw : t.way x = w ++ [p, x]) : (t.rot x).way x = w ++ [x] := by
  have hm : x ∈ t.pre := way_mem (n := x) (by rw [hw]; simp)
  have ht : t.topIs x = false := way_long (by rw [hw]; simp)
  obtain ⟨o, a, b, c, s, ws, T⟩ := turn_ex x t hb hm ht
  have h1 := T.way
  rw [hw] at h1
  have e := List.append_inj' h1.1 rfl
  rw [h1.2.1, e.1]
/-- the one over it first, both on one side -/
theorem same_way {x p g : Int} {t : Tr} {w : List Int} (hb : t.bst) (hw : t.way x = w ++ [g, p, x]) (hs : decide (x < p) = decide (p < g)) : (t.rot p).way x = w ++ [p, x] := by
  have hp : t.way p = w ++ [g, p] := by
    have := way_pre (y := p) (u := w ++ [g]) (v := [x]) hb (by rw [hw]; simp)
    rw [this]; simp
  have hm : p ∈ t.pre := way_mem (n := p) (by rw [hp]; simp)
  have ht : t.topIs p = false := way_long (by rw [hp]; simp)
  obtain ⟨o, a, b, c, s, ws, T⟩ := turn_ex p t hb hm ht
  have h1 := T.way
  rw [hp] at h1
  have e := List.append_inj' h1.1 rfl
  have eo : g = o := by have := e.2; simpa using this
  have hx : x ≠ p := by
    rintro rfl
    rw [hw] at hp
    have := congrArg List.length hp
    simp at this
  rw [e.1]
  refine T.low hb (v := [x]) (by rw [hw, e.1, eo]) ?_ hx
  rw [hs, eo]
  have := T.ne
  by_cases c1 : p < o
  · have : ¬ o < p := by omega
    rw [← T.ne.1]; simp [c1, this]
  · have h2 : o < p := by have := T.ne.2; omega
    rw [← T.ne.1]; simp [c1, h2]
inductive Rule where
  | twos | ones | once | none
deriving DecidableEq
def Rule.txt : Rule → Str
  | .twos => "twos"
  | .ones => "ones"
  | .once => "once"
  | .none => "none"
theorem Rule.ok (R : Rule) : PyData.strOk R.txt = true := by cases R <;> decide +kernel
/-- one step of two: x, the one over it, the one over that -/
def step2 (t : Tr) (g p x : Int) : Tr × (Str × Int) :=
  if decide (x < p) = decide (p < g) then ((t.rot p).rot x, ("same", x)) else ((t.rot x).rot x, ("cross", x))
/-- the last three of a list -/
def last3 (l : List Int) : Option (Int × Int × Int) := match l.reverse with
  | x :: p :: g :: _ => some (g, p, x)
  | _ => none
def stepT (R : Rule) (x : Int) (t : Tr) : Tr × (Str × Int) :=
  match R, last3 (t.way x) with
  | .twos, some (g, p, _) => step2 t g p x
  | _, _ => (t.rot x, ("one", x))
def runF (R : Rule) (x : Int) : Nat → Tr → Tr × List (Str × Int)
  | 0, u => (u, [])
  | k + 1, u => if (u.way x).length ≤ 1 then (u, []) else
      if R = .once then ((stepT R x u).1, [(stepT R x u).2]) else ((runF R x k (stepT R x u).1).1, (stepT R x u).2 :: (runF R x k (stepT R x u).1).2)
def mvd (R : Rule) (t : Tr) (n : Int) : Tr × List (Str × Int) := if R = .none then (t, []) else match (t.way n).getLast? with
  | some x => runF R x (t.way n).length t
  | none => (t, [])
theorem last3_some {l : List Int} {g p x : Int} (h : last3 l = some (g, p, x)) : ∃ w, l = w ++ [g, p, x] := by
  unfold last3 at h
  split at h
  · rename_i x' p' g' w e
    cases h
    exact ⟨w.reverse, by rw [← List.reverse_reverse l, e]; simp⟩
  · cases h
theorem last3_none {l : List Int} (h : last3 l = none) : l.length ≤ 2 := by
  unfold last3 at h
  split at h
  · cases h
  · rename_i e
    rw [← List.length_reverse]
    match q : l.reverse with
    | [] => simp
    | [_] => simp
    | [_, _] => simp
    | x :: p :: g :: w => exact absurd q (e x p g w)
theorem way_end {t : Tr} {x y : Int} {w : List Int} (hb : t.bst) (h : t.way x = w ++ [y]) (hm : x ∈ t.pre) : y = x := by
  have h1 := way_pre (v := []) hb h
  induction t generalizing w with
  | nil => simp [Tr.pre] at hm
  | node l z r i1 i2 =>
    rw [Tr.way] at h h1
    by_cases e : z = x
    · subst e
      simp at h
      cases w with
      | nil => simp at h; exact h.symm
      | cons a w => simp at h
    · rcases Tr.mem_side hb hm e with ⟨c1, c2⟩ | ⟨c1, c2⟩
      · rw [if_pos c1] at h
        cases w with
        | nil =>
          simp at h
          cases l with
          | nil => simp [Tr.pre] at c2
          | node a b c => rw [Tr.way] at h; simp at h
        | cons a w =>
          injection h with _ h
          exact i1 hb.1 h c2 (way_pre (v := []) hb.1 h)
      · rw [if_neg (by omega), if_pos c1] at h
        cases w with
        | nil =>
          simp at h
          cases r with
          | nil => simp [Tr.pre] at c2
          | node a b c => rw [Tr.way] at h; simp at h
        | cons a w =>
          injection h with _ h
          exact i2 hb.2.1 h c2 (way_pre (v := []) hb.2.1 h)
theorem same_one : ("same" : Str) ≠ "one" := by decide +kernel
theorem cross_one : ("cross" : Str) ≠ "one" := by decide +kernel
/-- what a step does to the way -/
theorem step_way {R : Rule} {x : Int} {t : Tr} (ht : t.ok) (hm : x ∈ t.pre) (hl : 1 < (t.way x).length) :
    (stepT R x t).1.ok ∧ x ∈ (stepT R x t).1.pre ∧ (stepT R x t).1.size = t.size ∧ (stepT R x t).1.ino = t.ino ∧ (stepT R x t).2.2 = x ∧
    (((stepT R x t).1.way x).length + 1 = (t.way x).length ∧ (stepT R x t).2.1 = "one" ∨ ((stepT R x t).1.way x).length + 2 = (t.way x).length ∧ (stepT R x t).2.1 ≠ "one" ∧ R = .twos) ∧ (R = .twos → 2 < (t.way x).length → (stepT R x t).2.1 ≠ "one") := by
  have one : ∀ R' : Rule, (t.rot x).ok ∧ x ∈ (t.rot x).pre ∧ (t.rot x).size = t.size ∧ (t.rot x).ino = t.ino ∧ ((t.rot x).way x).length + 1 = (t.way x).length := fun _ => by
    refine ⟨ht.rot x, Tr.mem_rot.mpr hm, Tr.size_rot _ _, Tr.ino_rot _ _, ?_⟩
    obtain ⟨o, a, b, c, s, ws, T⟩ := turn_ex x t ht.b hm (way_long hl)
    rw [T.way.1, T.way.2.1]; simp
  unfold stepT
  split
  · rename_i g p y e
    obtain ⟨w, hw⟩ := last3_some e
    have hy : y = x := way_end (w := w ++ [g, p]) ht.b (by rw [hw]; simp) hm
    subst hy
    unfold step2
    by_cases c : decide (y < p) = decide (p < g)
    · rw [if_pos c]
      have h1 := same_way ht.b hw c
      have h2 := rot_way (ht.rot p).b h1
      refine ⟨(ht.rot p).rot y, Tr.mem_rot.mpr (Tr.mem_rot.mpr hm), by rw [Tr.size_rot, Tr.size_rot], by rw [Tr.ino_rot, Tr.ino_rot], rfl, .inr ⟨?_, same_one, rfl⟩, fun _ _ => same_one⟩
      rw [h2, hw]; simp
    · rw [if_neg c]
      have h1 := rot_way (p := p) (w := w ++ [g]) ht.b (by rw [hw]; simp)
      have h2 := rot_way (p := g) (w := w) (ht.rot y).b (by rw [h1]; simp)
      refine ⟨(ht.rot y).rot y, Tr.mem_rot.mpr (Tr.mem_rot.mpr hm), by rw [Tr.size_rot, Tr.size_rot], by rw [Tr.ino_rot, Tr.ino_rot], rfl, .inr ⟨?_, cross_one, rfl⟩, fun _ _ => cross_one⟩
      rw [h2, hw]; simp
  · rename_i e
    obtain ⟨h1, h2, h3, h4, h5⟩ := one .ones
    refine ⟨h1, h2, h3, h4, rfl, .inl ⟨h5, rfl⟩, fun hR hl3 => ?_⟩
    exfalso
    cases q : last3 (t.way x) with
    | none => have := last3_none q; omega
    | some v => obtain ⟨g, p, y⟩ := v; exact e g p y hR q
theorem runF_ok {R : Rule} {x : Int} : ∀ {f : Nat} {u : Tr}, u.ok → x ∈ u.pre → (runF R x f u).1.ok ∧ (runF R x f u).1.ino = u.ino ∧ x ∈ (runF R x f u).1.pre ∧ (∀ p ∈ (runF R x f u).2, p.2 = x) ∧ (runF R x f u).2.length ≤ (u.way x).length
  | 0, u, h, m => ⟨h, rfl, m, (fun p z => (by cases z)), Nat.zero_le _⟩
  | f + 1, u, h, m => by
    rw [runF]
    by_cases c : (u.way x).length ≤ 1
    · rw [if_pos c]; exact ⟨h, rfl, m, (fun p z => (by cases z)), Nat.zero_le _⟩
    · rw [if_neg c]
      obtain ⟨o1, o2, o3, o4, o5, o6, o7⟩ := step_way (R := R) h m (by omega)
      by_cases d : R = .once
      · rw [if_pos d]
        exact ⟨o1, o4, o2, (fun p z => (by cases List.mem_singleton.mp z; exact o5)), by simp; omega⟩
      · rw [if_neg d]
        obtain ⟨i1, i2, i3, i4, i5⟩ := runF_ok (R := R) (f := f) o1 o2
        refine ⟨i1, i2.trans o4, i3, fun p z => ?_, ?_⟩
        · rcases List.mem_cons.mp z with rfl | z
          · exact o5
          · exact i4 p z
        · rw [List.length_cons]; rcases o6 with ⟨z, _⟩ | ⟨z, _⟩ <;> omega
theorem mvd_ok {R : Rule} {t : Tr} {n : Int} (h : t.ok) : (mvd R t n).1.ok ∧ (mvd R t n).1.ino = t.ino ∧ (mvd R t n).2.length ≤ 60 := by
  unfold mvd
  by_cases c : R = .none
  · rw [if_pos c]; exact ⟨h, rfl, Nat.zero_le _⟩
  · rw [if_neg c]
    cases q : (t.way n).getLast? with
    | none => exact ⟨h, rfl, Nat.zero_le _⟩
    | some x =>
      have hm : x ∈ t.pre := way_mem (n := n) (List.mem_of_getLast? q)
      obtain ⟨i1, i2, i3, i4, i5⟩ := runF_ok (R := R) (x := x) (f := (t.way n).length) h hm
      have := way_len x t
      have := h.s
      exact ⟨i1, i2, by show (runF R x (t.way n).length t).2.length ≤ 60; omega⟩
end A

/-! Links: left, right, over. -/
namespace A
open PySem
structure Tri where
  l : Option Int
  r : Option Int
  p : Option Int
def Tri.at (t : Tri) (j : Nat) : Option Int := if j = 0 then t.l else if j = 1 then t.r else t.p
def Tri.to (t : Tri) (j : Nat) (v : Option Int) : Tri := if j = 0 then ⟨v, t.r, t.p⟩ else if j = 1 then ⟨t.l, v, t.p⟩ else ⟨t.l, t.r, v⟩
abbrev Lks := Int → Tri
def Lks.up (φ : Lks) (k : Int) (j : Nat) (v : Option Int) : Lks := fun x => if x = k then (φ k).to j v else φ x
def Tr.topO : Tr → Option Int
  | .nil => none
  | .node _ x _ => some x
def Rep (φ : Lks) : Option Int → Tr → Prop
  | _, .nil => True
  | p, .node l x r => φ x = ⟨l.topO, r.topO, p⟩ ∧ Rep φ (some x) l ∧ Rep φ (some x) r
theorem Rep.congr {φ ψ : Lks} : ∀ {t : Tr} {p : Option Int}, (∀ k ∈ t.pre, ψ k = φ k) → Rep φ p t → Rep ψ p t
  | .nil, _, _, _ => trivial
  | .node l x r, p, h, ⟨h1, h2, h3⟩ => ⟨by rw [h x (by simp [Tr.pre])]; exact h1, h2.congr fun k m => h k (by simp [Tr.pre, m]), h3.congr fun k m => h k (by simp [Tr.pre, m])⟩
theorem topO_mem {t : Tr} {w : Int} (h : t.topO = some w) : w ∈ t.pre := by
  cases t with
  | nil => cases h
  | node l x r => cases h; simp [Tr.pre]
/-- what is over a part is another one -/
theorem Rep.par {φ ψ : Lks} {t : Tr} {p q : Option Int} (hn : t.pre.Nodup) (h : Rep φ p t) (h1 : ∀ k ∈ t.pre, t.topO ≠ some k → ψ k = φ k) (h2 : ∀ w, t.topO = some w → ψ w = ⟨(φ w).l, (φ w).r, q⟩) : Rep ψ q t := by
  cases t with
  | nil => trivial
  | node l x r =>
    obtain ⟨e, hl, hr⟩ := h
    have e2 := h2 x rfl
    rw [e] at e2
    simp only [Tr.pre, List.nodup_cons, List.mem_append] at hn
    have nx : ∀ k, k ∈ l.pre ∨ k ∈ r.pre → (Tr.node l x r).topO ≠ some k := fun k m z => by cases z; exact hn.1 m
    exact ⟨e2, hl.congr fun k m => h1 k (by simp [Tr.pre, m]) (nx k (.inl m)), hr.congr fun k m => h1 k (by simp [Tr.pre, m]) (nx k (.inr m))⟩
/-! ### a number more, at its place below -/
def Tr.ins (n : Int) : Tr → Tr
  | .nil => .node .nil n .nil
  | .node l x r => if x < n then .node l x (r.ins n) else .node (l.ins n) x r
abbrev insN (t : Tr) (n : Int) : Tr := t.ins n
theorem ins_mem {n k : Int} : ∀ {t : Tr}, k ∈ (t.ins n).pre ↔ k = n ∨ k ∈ t.pre
  | .nil => by simp [Tr.ins, Tr.pre]
  | .node l x r => by
    unfold Tr.ins
    split
    · simp only [Tr.pre, List.mem_cons, List.mem_append, ins_mem (t := r)]
      constructor
      · rintro (h | h | h | h)
        · exact .inr (.inl h)
        · exact .inr (.inr (.inl h))
        · exact .inl h
        · exact .inr (.inr (.inr h))
      · rintro (h | h | h | h)
        · exact .inr (.inr (.inl h))
        · exact .inl h
        · exact .inr (.inl h)
        · exact .inr (.inr (.inr h))
    · simp only [Tr.pre, List.mem_cons, List.mem_append, ins_mem (t := l)]
      constructor
      · rintro (h | (h | h) | h)
        · exact .inr (.inl h)
        · exact .inl h
        · exact .inr (.inr (.inl h))
        · exact .inr (.inr (.inr h))
      · rintro (h | h | h | h)
        · exact .inr (.inl (.inl h))
        · exact .inl h
        · exact .inr (.inl (.inr h))
        · exact .inr (.inr h)
theorem ins_size (n : Int) : ∀ t : Tr, (t.ins n).size = t.size + 1
  | .nil => rfl
  | .node l x r => by
    unfold Tr.ins
    split
    · simp [Tr.size, ins_size n r]; omega
    · simp [Tr.size, ins_size n l]; omega
theorem ins_topO {n : Int} {t : Tr} (h : t ≠ .nil) : (t.ins n).topO = t.topO := by
  cases t with
  | nil => exact absurd rfl h
  | node l x r =>
    unfold Tr.ins
    split <;> rfl
/-- all numbers of a part go down on its side -/
theorem foldl_R {x : Int} {l : Tr} : ∀ (ns : List Int) (r : Tr), (∀ y ∈ ns, x < y) → ns.foldl insN (Tr.node l x r) = Tr.node l x (ns.foldl insN r)
  | [], r, _ => rfl
  | n :: ns, r, h => by
    rw [List.foldl_cons, List.foldl_cons, insN, Tr.ins, if_pos (h n List.mem_cons_self), foldl_R ns _ fun y m => h y (List.mem_cons_of_mem _ m)]
theorem foldl_L {x : Int} {r : Tr} : ∀ (ns : List Int) (l : Tr), (∀ y ∈ ns, y < x) → ns.foldl insN (Tr.node l x r) = Tr.node (ns.foldl insN l) x r
  | [], l, _ => rfl
  | n :: ns, l, h => by
    have := h n List.mem_cons_self
    rw [List.foldl_cons, List.foldl_cons, insN, Tr.ins, if_neg (by omega), foldl_L ns _ fun y m => h y (List.mem_cons_of_mem _ m)]
theorem foldl_ins : ∀ {t : Tr}, t.bst → t.pre.foldl insN .nil = t
  | .nil, _ => rfl
  | .node l x r, h => by
    obtain ⟨h1, h2, h3, h4⟩ := h
    rw [Tr.pre, List.foldl_cons, List.foldl_append]
    show r.pre.foldl insN (l.pre.foldl insN (Tr.node .nil x .nil)) = _
    rw [foldl_L l.pre _ h3, foldl_ins h1, foldl_R r.pre _ h4, foldl_ins h2]
/-! ### a turn of the links -/
def repl (t : Tri) (o n : Int) : Tri := if t.l = some o then ⟨some n, t.r, t.p⟩ else ⟨t.l, some n, t.p⟩
def upW (φ : Lks) (w : Option Int) (o : Int) : Lks := match w with
  | some k => φ.up k 2 (some o)
  | none => φ
def upF (φ : Lks) (far : Option Int) (o n : Int) : Lks := match far with
  | some f => fun x => if x = f then repl (φ f) o n else φ x
  | none => φ
/-- side m, below it w, over both far -/
def turn5 (φ : Lks) (n o : Int) (m : Nat) (w far : Option Int) : Lks := (((upW (φ.up o m w) w o).up n (1 - m) (some o)).up o 2 (some n)).up n 2 far
def turnL (φ : Lks) (n : Int) : Lks := match (φ n).p with
  | none => φ
  | some o => upF (turn5 φ n o (if (φ o).l = some n then 0 else 1) ((φ n).at (1 - if (φ o).l = some n then 0 else 1)) (φ o).p) (φ o).p o n
theorem turnL_eq {φ : Lks} {n o : Int} {s : Nat} {w far : Option Int} (hn : (φ n).p = some o) (no : n ≠ o) (hs : (if (φ o).l = some n then 0 else 1) = s) (hw : (φ n).at (1 - s) = w) (hf : (φ o).p = far) (wn : w ≠ some n) (wo : w ≠ some o) (fn : far ≠ some n) (fo : far ≠ some o) (fw : ∀ f, far = some f → w ≠ some f) (k : Int) :
    turnL φ n k = if k = n then ((φ n).to (1 - s) (some o)).to 2 far else if k = o then ((φ o).to s w).to 2 (some n) else if far = some k then repl (φ k) o n else if w = some k then (φ k).to 2 (some o) else φ k := by
  unfold turnL
  rw [hn]
  simp only [hs, hw, hf, turn5]
  have on : o ≠ n := Ne.symm no
  cases w with
  | none =>
    cases far with
    | none =>
      simp only [Lks.up, upW, upF]
      by_cases k1 : k = n
      · subst k1; simp [no, on]
      · by_cases k2 : k = o
        · subst k2; simp [no, on]
        · simp [k1, k2]
    | some f =>
      have f1 : ¬ f = n := fun z => fn (by rw [z])
      have f2 : ¬ f = o := fun z => fo (by rw [z])
      have f3 : ¬ n = f := fun z => fn (by rw [z])
      have f4 : ¬ o = f := fun z => fo (by rw [z])
      simp only [Lks.up, upW, upF]
      by_cases k1 : k = n
      · subst k1; simp [no, on, f1, f3]
      · by_cases k2 : k = o
        · subst k2; simp [no, on, f2, f4]
        · by_cases k3 : k = f
          · subst k3; simp [k1, k2]
          · simp [k1, k2, k3, Ne.symm k3]
  | some v =>
    have v1 : ¬ v = n := fun z => wn (by rw [z])
    have v2 : ¬ v = o := fun z => wo (by rw [z])
    have v3 : ¬ n = v := fun z => wn (by rw [z])
    have v4 : ¬ o = v := fun z => wo (by rw [z])
    cases far with
    | none =>
      simp only [Lks.up, upW, upF]
      by_cases k1 : k = n
      · subst k1; simp [no, on, v3]
      · by_cases k2 : k = o
        · subst k2; simp [no, on, v4]
        · by_cases k3 : k = v
          · subst k3; simp [k1, k2]
          · simp [k1, k2, k3, Ne.symm k3]
    | some f =>
      have f1 : ¬ f = n := fun z => fn (by rw [z])
      have f2 : ¬ f = o := fun z => fo (by rw [z])
      have f3 : ¬ n = f := fun z => fn (by rw [z])
      have f4 : ¬ o = f := fun z => fo (by rw [z])
      have f5 : ¬ v = f := fun z => fw f rfl (by rw [z])
      simp only [Lks.up, upW, upF]
      by_cases k1 : k = n
      · subst k1; simp [no, on, f3, v3]
      · by_cases k2 : k = o
        · subst k2; simp [no, on, f4, v4]
        · by_cases k3 : k = f
          · subst k3; simp [k1, k2, f5, Ne.symm f5]
          · by_cases k4 : k = v
            · subst k4; simp [k1, k2, k3, Ne.symm k3]
            · simp [k1, k2, k3, k4, Ne.symm k3, Ne.symm k4]
theorem Turn.topO {n o : Int} {a b c t t' : Tr} {s : Bool} {ws : List Int} (h : Turn n o a b c s ws t t') : t'.topO = if t.topIs o then some n else t.topO := by
  cases h with
  | L h => simp [Tr.topO, Tr.topIs]
  | R h => simp [Tr.topO, Tr.topIs]
  | inL h1 h2 h => exact (if_neg (by simp [Tr.topIs]; omega)).symm
  | inR h1 h2 h => exact (if_neg (by simp [Tr.topIs]; omega)).symm
theorem Turn.over {n o : Int} {a b c t t' : Tr} {s : Bool} {ws : List Int} (h : Turn n o a b c s ws t t') {φ : Lks} : ∀ {p : Option Int}, Rep φ p t → (φ n).p = some o := by
  induction h with
  | L h => exact fun r => by rw [r.2.1.1]
  | R h => exact fun r => by rw [r.2.2.1]
  | inL h1 h2 h ih => exact fun r => ih r.2.1
  | inR h1 h2 h ih => exact fun r => ih r.2.2
theorem Turn.rep {n o : Int} {a b c t t' : Tr} {s : Bool} {ws : List Int} (h : Turn n o a b c s ws t t') {φ : Lks} : ∀ {p : Option Int}, t.bst → (∀ f, p = some f → f ∉ t.pre) → Rep φ p t → Rep (turnL φ n) p t' ∧ ∀ k, k ∉ t.pre → turnL φ n k = if p = some k ∧ t.topIs o = true then repl (φ k) o n else φ k := by
  induction h with
  | L h =>
    intro p hb hp ⟨e1, ⟨e2, ra, rb⟩, rc⟩
    have nd := Tr.nodup hb
    obtain ⟨hb1, hb2, hb3, hb4⟩ := hb
    obtain ⟨hb5, hb6, hb7, hb8⟩ := hb1
    have ndb := Tr.nodup hb6
    simp only [Tr.pre] at hp hb3
    have no : n ≠ o := by omega
    have A1 : ∀ k ∈ a.pre, k ≠ n ∧ k ≠ o ∧ b.topO ≠ some k ∧ p ≠ some k := fun k m => ⟨by have := hb7 k m; omega, by have := hb3 k (by simp [m]); omega, fun z => by have := hb8 k (topO_mem z); have := hb7 k m; omega, fun z => hp k z (by simp [m])⟩
    have B1 : ∀ k ∈ b.pre, k ≠ n ∧ k ≠ o ∧ p ≠ some k := fun k m => ⟨by have := hb8 k m; omega, by have := hb3 k (by simp [m]); omega, fun z => hp k z (by simp [m])⟩
    have C1 : ∀ k ∈ c.pre, k ≠ n ∧ k ≠ o ∧ b.topO ≠ some k ∧ p ≠ some k := fun k m => ⟨by have := hb4 k m; omega, by have := hb4 k m; omega, fun z => by have := hb3 k (by simp [topO_mem z]); have := hb4 k m; omega, fun z => hp k z (by simp [m])⟩
    have pn : p ≠ some n := fun z => hp n z (by simp)
    have po : p ≠ some o := fun z => hp o z (by simp)
    have bn : b.topO ≠ some n := fun z => (B1 n (topO_mem z)).1 rfl
    have bo : b.topO ≠ some o := fun z => (B1 o (topO_mem z)).2.1 rfl
    have key : ∀ k, turnL φ n k = if k = n then ⟨a.topO, some o, p⟩ else if k = o then ⟨b.topO, c.topO, some n⟩ else if p = some k then repl (φ k) o n else if b.topO = some k then ⟨(φ k).l, (φ k).r, some o⟩ else φ k := by
      intro k
      rw [turnL_eq (s := 0) (w := b.topO) (far := p) (by rw [e2]) no (by rw [e1]; exact if_pos rfl) (by rw [e2]; rfl) (by rw [e1]) bn bo pn po (fun f e z => (B1 f (topO_mem z)).2.2 e), e1, e2]
      rfl
    refine ⟨⟨by rw [key, if_pos rfl]; rfl, ra.congr fun k m => ?_, ⟨by rw [key, if_neg (Ne.symm no), if_pos rfl], rb.par ndb (fun k m z => ?_) fun w z => ?_, rc.congr fun k m => ?_⟩⟩, fun k m => ?_⟩
    · obtain ⟨x1, x2, x3, x4⟩ := A1 k m
      rw [key, if_neg x1, if_neg x2, if_neg x4, if_neg x3]
    · obtain ⟨x1, x2, x4⟩ := B1 k m
      rw [key, if_neg x1, if_neg x2, if_neg x4, if_neg z]
    · obtain ⟨x1, x2, x4⟩ := B1 w (topO_mem z)
      rw [key, if_neg x1, if_neg x2, if_neg x4, if_pos z]
    · obtain ⟨x1, x2, x3, x4⟩ := C1 k m
      rw [key, if_neg x1, if_neg x2, if_neg x4, if_neg x3]
    · simp only [Tr.pre, List.mem_cons, List.mem_append, not_or] at m
      have x3 : b.topO ≠ some k := fun z => m.2.1.2.2 (topO_mem z)
      rw [key, if_neg m.2.1.1, if_neg m.1]
      by_cases z : p = some k
      · rw [if_pos z, if_pos ⟨z, by simp [Tr.topIs]⟩]
      · rw [if_neg z, if_neg x3, if_neg (fun q => z q.1)]
  | R h =>
    intro p hb hp ⟨e1, ra, ⟨e2, rb, rc⟩⟩
    obtain ⟨hb1, hb2, hb3, hb4⟩ := hb
    obtain ⟨hb5, hb6, hb7, hb8⟩ := hb2
    have ndb := Tr.nodup hb5
    simp only [Tr.pre] at hp hb4
    have no : n ≠ o := by omega
    have A1 : ∀ k ∈ a.pre, k ≠ n ∧ k ≠ o ∧ b.topO ≠ some k ∧ p ≠ some k := fun k m => ⟨by have := hb3 k m; omega, by have := hb3 k m; omega, fun z => by have := hb4 k (by simp [topO_mem z]); have := hb3 k m; omega, fun z => hp k z (by simp [m])⟩
    have B1 : ∀ k ∈ b.pre, k ≠ n ∧ k ≠ o ∧ p ≠ some k := fun k m => ⟨by have := hb7 k m; omega, by have := hb4 k (by simp [m]); omega, fun z => hp k z (by simp [m])⟩
    have C1 : ∀ k ∈ c.pre, k ≠ n ∧ k ≠ o ∧ b.topO ≠ some k ∧ p ≠ some k := fun k m => ⟨by have := hb8 k m; omega, by have := hb4 k (by simp [m]); omega, fun z => by have := hb7 k (topO_mem z); have := hb8 k m; omega, fun z => hp k z (by simp [m])⟩
    have pn : p ≠ some n := fun z => hp n z (by simp)
    have po : p ≠ some o := fun z => hp o z (by simp)
    have bn : b.topO ≠ some n := fun z => (B1 n (topO_mem z)).1 rfl
    have bo : b.topO ≠ some o := fun z => (B1 o (topO_mem z)).2.1 rfl
    have an : a.topO ≠ some n := fun z => (A1 n (topO_mem z)).1 rfl
    have key : ∀ k, turnL φ n k = if k = n then ⟨some o, c.topO, p⟩ else if k = o then ⟨a.topO, b.topO, some n⟩ else if p = some k then repl (φ k) o n else if b.topO = some k then ⟨(φ k).l, (φ k).r, some o⟩ else φ k := by
      intro k
      rw [turnL_eq (s := 1) (w := b.topO) (far := p) (by rw [e2]) no (by rw [e1]; exact if_neg an) (by rw [e2]; rfl) (by rw [e1]) bn bo pn po (fun f e z => (B1 f (topO_mem z)).2.2 e), e1, e2]
      rfl
    refine ⟨⟨by rw [key, if_pos rfl]; rfl, ⟨by rw [key, if_neg (Ne.symm no), if_pos rfl], ra.congr fun k m => ?_, rb.par ndb (fun k m z => ?_) fun w z => ?_⟩, rc.congr fun k m => ?_⟩, fun k m => ?_⟩
    · obtain ⟨x1, x2, x3, x4⟩ := A1 k m
      rw [key, if_neg x1, if_neg x2, if_neg x4, if_neg x3]
    · obtain ⟨x1, x2, x4⟩ := B1 k m
      rw [key, if_neg x1, if_neg x2, if_neg x4, if_neg z]
    · obtain ⟨x1, x2, x4⟩ := B1 w (topO_mem z)
      rw [key, if_neg x1, if_neg x2, if_neg x4, if_pos z]
    · obtain ⟨x1, x2, x3, x4⟩ := C1 k m
      rw [key, if_neg x1, if_neg x2, if_neg x4, if_neg x3]
    · simp only [Tr.pre, List.mem_cons, List.mem_append, not_or] at m
      have x3 : b.topO ≠ some k := fun z => m.2.2.2.1 (topO_mem z)
      rw [key, if_neg m.2.2.1, if_neg m.1]
      by_cases z : p = some k
      · rw [if_pos z, if_pos ⟨z, by simp [Tr.topIs]⟩]
      · rw [if_neg z, if_neg x3, if_neg (fun q => z q.1)]
  | @inL s ws l l' r x h1 h2 h ih =>
    intro p hb hp ⟨e1, rl, rr⟩
    obtain ⟨hb1, hb2, hb3, hb4⟩ := hb
    obtain ⟨i1, i2⟩ := ih hb1 (fun f e m => by cases e; have := hb3 x m; omega) rl
    have nx : x ∉ l.pre := fun m => by have := hb3 x m; omega
    refine ⟨⟨?_, i1, rr.congr fun k m => ?_⟩, fun k m => ?_⟩
    · rw [i2 x nx, h.topO, e1]
      by_cases q : l.topIs o = true
      · rw [if_pos ⟨rfl, q⟩, if_pos q]
        obtain ⟨l1, l2, rfl⟩ := Tr.top_pre.mp q
        simp [repl, Tr.topO]
      · rw [if_neg (fun z => q z.2), if_neg q]
    · have : k ∉ l.pre := fun z => by have := hb3 k z; have := hb4 k m; omega
      rw [i2 k this, if_neg]
      rintro ⟨z, _⟩; cases z; have := hb4 x m; omega
    · simp only [Tr.pre, List.mem_cons, List.mem_append, not_or] at m
      rw [i2 k m.2.1, if_neg (by rintro ⟨z, _⟩; cases z; exact m.1 rfl), if_neg]
      rintro ⟨_, z⟩; simp [Tr.topIs] at z; omega
  | @inR s ws l r r' x h1 h2 h ih =>
    intro p hb hp ⟨e1, rl, rr⟩
    obtain ⟨hb1, hb2, hb3, hb4⟩ := hb
    obtain ⟨i1, i2⟩ := ih hb2 (fun f e m => by cases e; have := hb4 x m; omega) rr
    have nx : x ∉ r.pre := fun m => by have := hb4 x m; omega
    refine ⟨⟨?_, rl.congr fun k m => ?_, i1⟩, fun k m => ?_⟩
    · rw [i2 x nx, h.topO, e1]
      by_cases q : r.topIs o = true
      · rw [if_pos ⟨rfl, q⟩, if_pos q]
        obtain ⟨l1, l2, rfl⟩ := Tr.top_pre.mp q
        have : l.topO ≠ some o := fun z => by have := hb3 o (topO_mem z); omega
        unfold repl
        rw [if_neg this]
      · rw [if_neg (fun z => q z.2), if_neg q]
    · have : k ∉ r.pre := fun z => by have := hb4 k z; have := hb3 k m; omega
      rw [i2 k this, if_neg]
      rintro ⟨z, _⟩; cases z; have := hb3 x m; omega
    · simp only [Tr.pre, List.mem_cons, List.mem_append, not_or] at m
      rw [i2 k m.2.2, if_neg (by rintro ⟨z, _⟩; cases z; exact m.1 rfl), if_neg]
      rintro ⟨_, z⟩; simp [Tr.topIs] at z; omega
theorem rep_turn {φ : Lks} {t : Tr} {n : Int} (hb : t.bst) (hm : n ∈ t.pre) (ht : t.topIs n = false) (h : Rep φ none t) : Rep (turnL φ n) none (t.rot n) := by
  obtain ⟨o, a, b, c, s, ws, T⟩ := turn_ex n t hb hm ht
  exact (T.rep hb (fun f e => by cases e) h).1
end A

namespace A
open PySem
theorem Turn.mem_b {n o : Int} {a b c t t' : Tr} {s : Bool} {ws : List Int} (h : Turn n o a b c s ws t t') : ∀ y ∈ b.pre, y ∈ t.pre := by
  induction h with
  | L h => intro y m; simp [Tr.pre, m]
  | R h => intro y m; simp [Tr.pre, m]
  | inL h1 h2 _ ih => intro y m; simp [Tr.pre, ih _ m]
  | inR h1 h2 _ ih => intro y m; simp [Tr.pre, ih _ m]
theorem Turn.far {n o : Int} {a b c t t' : Tr} {s : Bool} {ws : List Int} (h : Turn n o a b c s ws t t') {φ : Lks} : ∀ {p : Option Int}, t.bst → Rep φ p t → (t.topIs o = true ∧ ws = [] ∧ (φ o).p = p) ∨ ∃ f w, ws = w ++ [f] ∧ (φ o).p = some f ∧ f ∈ t.pre ∧ f ≠ n ∧ f ≠ o ∧ ((φ f).l = some o ∧ o < f ∨ ((φ f).l ≠ some o ∧ (φ f).r = some o ∧ f < o)) ∧ ∀ w ∈ b.pre, f ≠ w := by
  induction h with
  | L h => exact fun hb r => .inl ⟨by simp [Tr.topIs], rfl, by rw [r.1]⟩
  | R h => exact fun hb r => .inl ⟨by simp [Tr.topIs], rfl, by rw [r.1]⟩
  | @inL s ws l l' r x h1 h2 h ih =>
    intro p hb hr
    rcases ih hb.1 hr.2.1 with ⟨i1, i0, i2⟩ | ⟨f, w, i0, i1, i2, i3⟩
    · obtain ⟨l1, l2, rfl⟩ := Tr.top_pre.mp i1
      exact .inr ⟨x, [], by rw [i0]; rfl, i2, by simp [Tr.pre], by omega, by omega, .inl ⟨by rw [hr.1]; rfl, h2⟩, fun w m z => by have := hb.2.2.1 w (h.mem_b w m); omega⟩
    · exact .inr ⟨f, x :: w, by rw [i0]; rfl, i1, by simp [Tr.pre, i2], i3⟩
  | @inR s ws l r r' x h1 h2 h ih =>
    intro p hb hr
    rcases ih hb.2.1 hr.2.2 with ⟨i1, i0, i2⟩ | ⟨f, w, i0, i1, i2, i3⟩
    · obtain ⟨l1, l2, rfl⟩ := Tr.top_pre.mp i1
      refine .inr ⟨x, [], by rw [i0]; rfl, i2, by simp [Tr.pre], by omega, by omega, .inr ⟨?_, by rw [hr.1]; rfl, h2⟩, fun w m z => by have := hb.2.2.2 w (h.mem_b w m); omega⟩
      rw [hr.1]
      intro z
      have := hb.2.2.1 o (topO_mem z)
      omega
    · exact .inr ⟨f, x :: w, by rw [i0]; rfl, i1, by simp [Tr.pre, i2], i3⟩
theorem Turn.near {n o : Int} {a b c t t' : Tr} {s : Bool} {ws : List Int} (h : Turn n o a b c s ws t t') {φ : Lks} : ∀ {p : Option Int}, t.bst → Rep φ p t → o ∈ t.pre ∧ n ∈ t.pre ∧ n ≠ o ∧ (φ n).p = some o ∧ (∀ w, b.topO = some w → w ∈ t.pre ∧ w ≠ n ∧ w ≠ o) ∧ ((φ o).l = some n ∧ (φ n).r = b.topO ∧ n < o ∨ (φ o).l ≠ some n ∧ (φ o).r = some n ∧ (φ n).l = b.topO ∧ o < n) := by
  induction h with
  | L h =>
    intro p hb r
    refine ⟨by simp [Tr.pre], by simp [Tr.pre], by omega, by rw [r.2.1.1], fun w e => ⟨by simp [Tr.pre, topO_mem e], ?_, ?_⟩, .inl ⟨by rw [r.1]; rfl, by rw [r.2.1.1], h⟩⟩
    · have := hb.1.2.2.2 w (topO_mem e); omega
    · have := hb.2.2.1 w (by simp [Tr.pre, topO_mem e]); omega
  | R h =>
    intro p hb r
    refine ⟨by simp [Tr.pre], by simp [Tr.pre], by omega, by rw [r.2.2.1], fun w e => ⟨by simp [Tr.pre, topO_mem e], ?_, ?_⟩, .inr ⟨?_, by rw [r.1]; rfl, by rw [r.2.2.1], h⟩⟩
    · have := hb.2.1.2.2.1 w (topO_mem e); omega
    · have := hb.2.2.2 w (by simp [Tr.pre, topO_mem e]); omega
    · rw [r.1]
      intro z
      have := hb.2.2.1 n (topO_mem z); omega
  | @inL s ws l l' r x h1 h2 h ih =>
    intro p hb hr
    obtain ⟨i1, i2, i3, i4, i5, i6⟩ := ih hb.1 hr.2.1
    exact ⟨by simp [Tr.pre, i1], by simp [Tr.pre, i2], i3, i4, fun w e => ⟨by simp [Tr.pre, (i5 w e).1], (i5 w e).2⟩, i6⟩
  | @inR s ws l r r' x h1 h2 h ih =>
    intro p hb hr
    obtain ⟨i1, i2, i3, i4, i5, i6⟩ := ih hb.2.1 hr.2.2
    exact ⟨by simp [Tr.pre, i1], by simp [Tr.pre, i2], i3, i4, fun w e => ⟨by simp [Tr.pre, (i5 w e).1], (i5 w e).2⟩, i6⟩
/-- what the links tell of a number that is not the top -/
theorem Rep.up {φ : Lks} {t : Tr} {n : Int} (hb : t.bst) (hr : Rep φ none t) (hm : n ∈ t.pre) (ht : t.topIs n = false) : ∃ o ws, t.way n = ws ++ [o, n] ∧ (φ n).p = some o ∧ o ∈ t.pre ∧ ((φ o).l = some n ∧ n < o ∨ (φ o).l ≠ some n ∧ (φ o).r = some n ∧ o < n) ∧ (ws = [] ∧ (φ o).p = none ∨ ∃ f w, ws = w ++ [f] ∧ (φ o).p = some f ∧ f ∈ t.pre ∧ ((φ f).l = some o ∧ o < f ∨ (φ f).l ≠ some o ∧ (φ f).r = some o ∧ f < o)) := by
  obtain ⟨o, a, b, c, s, ws, T⟩ := turn_ex n t hb hm ht
  obtain ⟨h1, h2, h3, h4, h5, h6⟩ := T.near hb hr
  refine ⟨o, ws, T.way.1, h4, h1, ?_, ?_⟩
  · rcases h6 with ⟨g1, g2, g3⟩ | ⟨g1, g2, g3, g4⟩
    · exact .inl ⟨g1, g3⟩
    · exact .inr ⟨g1, g2, g4⟩
  · rcases T.far hb hr with ⟨g1, g2, g3⟩ | ⟨f, w, g1, g2, g3, g4, g5, g6, g7⟩
    · exact .inl ⟨g2, g3⟩
    · exact .inr ⟨f, w, g1, g2, g3, g6⟩
theorem Rep.top {φ : Lks} {t : Tr} {n : Int} (hr : Rep φ none t) (ht : t.topIs n = true) : (φ n).p = none := by
  obtain ⟨l, r, rfl⟩ := Tr.top_pre.mp ht
  rw [hr.1]
end A

/-! Sums of worths, ranks, and what a step pays. -/
namespace A
open PySem
/-- how often a sum can be halved -/
def rk (n : Nat) : Nat := Nat.log2 n
theorem rk_le {n k : Nat} (h : n ≠ 0) : k ≤ rk n ↔ 2 ^ k ≤ n := Nat.le_log2 h
theorem rk_mono {a b : Nat} (h : a ≤ b) : rk a ≤ rk b := by
  by_cases ha : a = 0
  · subst ha; exact Nat.le_trans (Nat.le_of_eq (by rfl)) (Nat.zero_le _)
  · rw [rk_le (by omega)]; exact Nat.le_trans ((rk_le ha).mp (Nat.le_refl _)) h
theorem rk_two {a b s : Nat} (ha : 1 ≤ a) (hb : 1 ≤ b) (h : a + b ≤ s) : ¬ (rk s ≤ rk a ∧ rk s ≤ rk b) := by
  rintro ⟨h1, h2⟩
  have e1 := (rk_le (by omega)).mp h1
  have e2 := (rk_le (by omega)).mp h2
  have : rk s + 1 ≤ rk s := (rk_le (by omega)).mpr (by rw [Nat.pow_succ]; omega)
  omega
theorem num_same {S x p a b : Nat} (hx : 1 ≤ x) (hb : 1 ≤ b) (h1 : x ≤ p) (h2 : p ≤ S) (h3 : a ≤ S) (h4 : x + b ≤ S) : (rk a : Int) + rk b + 1 ≤ rk p + rk x + 3 * (rk S - rk x) := by
  have := rk_mono h1
  have := rk_mono h2
  have := rk_mono h3
  have := rk_mono (show b ≤ S by omega)
  have := rk_two hx hb h4
  omega
theorem num_cross {S x p a b : Nat} (hx : 1 ≤ x) (ha : 1 ≤ a) (hb : 1 ≤ b) (h1 : x ≤ p) (h2 : p ≤ S) (h4 : a + b ≤ S) : (rk a : Int) + rk b + 1 ≤ rk p + rk x + 2 * (rk S - rk x) := by
  have := rk_mono h1
  have := rk_mono h2
  have := rk_mono (show a ≤ S by omega)
  have := rk_mono (show b ≤ S by omega)
  have := rk_two ha hb h4
  omega
theorem num_half {S x p b : Nat} (hx : 1 ≤ x) (hb : 1 ≤ b) (h1 : x ≤ p) (h2 : p ≤ S) (h4 : x + b ≤ S) : (rk b : Int) + 1 ≤ rk p + 2 * (rk S - rk x) := by
  have := rk_mono h1
  have := rk_mono h2
  have := rk_mono (show b ≤ S by omega)
  have := rk_two hx hb h4
  omega
/-- the sum of all worths of a tree -/
def wsum (w : Int → Nat) : Tr → Nat
  | .nil => 0
  | .node l x r => wsum w l + w x + wsum w r
def phi (w : Int → Nat) : Tr → Nat
  | .nil => 0
  | .node l x r => rk (wsum w l + w x + wsum w r) + phi w l + phi w r
/-- the sum of a number's part -/
def smAt (w : Int → Nat) (n : Int) : Tr → Nat
  | .nil => 0
  | .node l x r => if n < x then smAt w n l else if x < n then smAt w n r else wsum w l + w x + wsum w r
def rkAt (w : Int → Nat) (n : Int) (t : Tr) : Nat := rk (smAt w n t)
theorem wsum_ino (w : Int → Nat) : ∀ t : Tr, wsum w t = (t.ino.map w).sum
  | .nil => rfl
  | .node l x r => by simp [wsum, Tr.ino, wsum_ino w l, wsum_ino w r]; omega
theorem wsum_of (w : Int → Nat) {t t' : Tr} (h : t'.ino = t.ino) : wsum w t' = wsum w t := by rw [wsum_ino, wsum_ino, h]
theorem wsum_rot (w : Int → Nat) (n : Int) (t : Tr) : wsum w (t.rot n) = wsum w t := by rw [wsum_ino, wsum_ino, Tr.ino_rot]
theorem smAt_top (w : Int → Nat) {t : Tr} {n : Int} (h : t.topIs n = true) : smAt w n t = wsum w t := by
  obtain ⟨l, r, rfl⟩ := Tr.top_pre.mp h
  simp [smAt, wsum]
theorem smAt_le (w : Int → Nat) (n : Int) : ∀ t : Tr, smAt w n t ≤ wsum w t
  | .nil => Nat.le_refl _
  | .node l x r => by
    have h1 := smAt_le w n l
    have h2 := smAt_le w n r
    rw [smAt, wsum]
    split
    · omega
    · split <;> omega
theorem smAt_ge (w : Int → Nat) {n : Int} : ∀ {t : Tr}, t.bst → n ∈ t.pre → w n ≤ smAt w n t
  | .nil, _, h => by cases h
  | .node l x r, hb, h => by
    by_cases e : x = n
    · subst e; simp [smAt]; omega
    · rcases Tr.mem_side hb h e with ⟨h1, h2⟩ | ⟨h1, h2⟩
      · rw [smAt, if_pos h1]; exact smAt_ge w hb.1 h2
      · rw [smAt, if_neg (by omega), if_pos h1]; exact smAt_ge w hb.2.1 h2
theorem rot_inL {n y : Int} {l r : Tr} (hb : (Tr.node l y r).bst) (hm : n ∈ l.pre) (ht : l.topIs n = false) : (Tr.node l y r).rot n = .node (l.rot n) y r := by
  have h1 := hb.2.2.1 n hm
  have h2 : r.topIs n = false := top_false fun m => by have := hb.2.2.2 n m; omega
  rw [Tr.rot_eq, ht, h2, if_neg (by simp), if_neg (by simp), if_pos h1]
theorem rot_inR {n y : Int} {l r : Tr} (hb : (Tr.node l y r).bst) (hm : n ∈ r.pre) (ht : r.topIs n = false) : (Tr.node l y r).rot n = .node l y (r.rot n) := by
  have h1 := hb.2.2.2 n hm
  have h2 : l.topIs n = false := top_false fun m => by have := hb.2.2.1 n m; omega
  rw [Tr.rot_eq, ht, h2, if_neg (by simp), if_neg (by simp), if_neg (by omega)]
theorem way_cons {t : Tr} {x y : Int} {v : List Int} (h : t.way x = y :: v) : ∃ l r, t = .node l y r ∧ v = (if x < y then l.way x else if y < x then r.way x else []) := by
  cases t with
  | nil => simp [Tr.way] at h
  | node l z r => rw [Tr.way] at h; injection h with h1 h2; subst h1; exact ⟨l, r, rfl, h2.symm⟩
/-- what a change of one part does to the whole -/
structure PayS (w : Int → Nat) (x : Int) (t t' : Tr) (m n : Nat) (z : Int) (a b c d : Nat) : Prop where
  i : t'.ino = t.ino
  r : smAt w x t = m
  r' : smAt w z t' = n
  p : phi w t' + rk a + rk b = phi w t + rk c + rk d
theorem PayS.inL {w : Int → Nat} {x y z : Int} {l l' r : Tr} {m n a b c d : Nat} (h : PayS w x l l' m n z a b c d) (hx : x < y) (hz : z < y) : PayS w x (.node l y r) (.node l' y r) m n z a b c d := by
  have hw : wsum w l' = wsum w l := by rw [wsum_ino, wsum_ino, h.i]
  refine ⟨by simp [Tr.ino, h.i], by rw [smAt, if_pos hx]; exact h.r, by rw [smAt, if_pos hz]; exact h.r', ?_⟩
  have := h.p
  simp only [phi, hw]
  omega
theorem PayS.inR {w : Int → Nat} {x y z : Int} {l r r' : Tr} {m n a b c d : Nat} (h : PayS w x r r' m n z a b c d) (hx : y < x) (hz : y < z) : PayS w x (.node l y r) (.node l y r') m n z a b c d := by
  have hw : wsum w r' = wsum w r := by rw [wsum_ino, wsum_ino, h.i]
  refine ⟨by simp [Tr.ino, h.i], by rw [smAt, if_neg (by omega), if_pos hx]; exact h.r, by rw [smAt, if_neg (by omega), if_pos hz]; exact h.r', ?_⟩
  have := h.p
  simp only [phi, hw]
  omega
/-- one turn -/
theorem pay_one {w : Int → Nat} (hw : ∀ k, 1 ≤ w k) {x : Int} : ∀ {t : Tr} {u : List Int} {p : Int}, t.bst → t.way x = u ++ [p, x] → ∃ S a c, 1 ≤ a ∧ 1 ≤ c ∧ a ≤ S ∧ c ≤ S ∧ PayS w x t (t.rot x) a S x a 0 c 0 ∧ S = smAt w p t ∧ c = smAt w p (t.rot x)
  | t, [], p, hb, h => by
    obtain ⟨l, r, rfl, h2⟩ := way_cons h
    by_cases c1 : x < p
    · rw [if_pos c1] at h2
      obtain ⟨a, b, rfl, h3⟩ := way_cons h2.symm
      have hp := hw p
      have hx := hw x
      have c2 : ¬ p < x := by omega
      refine ⟨wsum w a + w x + wsum w b + w p + wsum w r, wsum w a + w x + wsum w b, wsum w b + w p + wsum w r, by omega, by omega, by omega, by omega, ⟨Tr.ino_rot _ _, ?_, ?_, ?_⟩, ?_, ?_⟩
      · simp [smAt, c1]
      · simp [Tr.rot_eq, Tr.topIs, smAt, wsum]; omega
      · simp [Tr.rot_eq, Tr.topIs, phi, wsum]
        rw [show wsum w a + w x + (wsum w b + w p + wsum w r) = wsum w a + w x + wsum w b + w p + wsum w r by omega]; omega
      · simp [smAt, wsum]
      · simp [Tr.rot_eq, Tr.topIs, smAt, c1, c2]
    · rw [if_neg c1] at h2
      by_cases c2 : p < x
      · rw [if_pos c2] at h2
        obtain ⟨a, b, rfl, h3⟩ := way_cons h2.symm
        have hp := hw p
        have hx := hw x
        have ht : l.topIs x = false := top_false fun m => by have := hb.2.2.1 x m; omega
        refine ⟨wsum w l + w p + (wsum w a + w x + wsum w b), wsum w a + w x + wsum w b, wsum w l + w p + wsum w a, by omega, by omega, by omega, by omega, ⟨Tr.ino_rot _ _, ?_, ?_, ?_⟩, ?_, ?_⟩
        · simp [smAt, c1, c2]
        · rw [Tr.rot_eq, ht]; simp [Tr.topIs, smAt, wsum]; omega
        · rw [Tr.rot_eq, ht]; simp [Tr.topIs, phi, wsum]
          rw [show wsum w l + w p + wsum w a + w x + wsum w b = wsum w l + w p + (wsum w a + w x + wsum w b) by omega]; omega
        · simp [smAt, wsum]
        · rw [Tr.rot_eq, ht]; simp [Tr.topIs, smAt, c1, c2]
      · rw [if_neg c2] at h2; cases h2
  | t, y :: u, p, hb, h => by
    obtain ⟨l, r, rfl, h2⟩ := way_cons h
    by_cases c1 : x < y
    · rw [if_pos c1] at h2
      obtain ⟨S, a, c, i1, i2, i3, i4, i5, i6, i7⟩ := pay_one hw (u := u) hb.1 h2.symm
      have hm : x ∈ l.pre := way_mem (n := x) (by rw [← h2]; simp)
      have hpm : p ∈ l.pre := way_mem (n := x) (by rw [← h2]; simp)
      have hp := hb.2.2.1 p hpm
      rw [rot_inL hb hm (way_long (by rw [← h2]; simp))]
      exact ⟨S, a, c, i1, i2, i3, i4, i5.inL c1 c1, by rw [smAt, if_pos hp]; exact i6, by rw [smAt, if_pos hp]; exact i7⟩
    · rw [if_neg c1] at h2
      by_cases c2 : y < x
      · rw [if_pos c2] at h2
        obtain ⟨S, a, c, i1, i2, i3, i4, i5, i6, i7⟩ := pay_one hw (u := u) hb.2.1 h2.symm
        have hm : x ∈ r.pre := way_mem (n := x) (by rw [← h2]; simp)
        have hpm : p ∈ r.pre := way_mem (n := x) (by rw [← h2]; simp)
        have hp := hb.2.2.2 p hpm
        rw [rot_inR hb hm (way_long (by rw [← h2]; simp))]
        exact ⟨S, a, c, i1, i2, i3, i4, i5.inR c2 c2, by rw [smAt, if_neg (by omega), if_pos hp]; exact i6, by rw [smAt, if_neg (by omega), if_pos hp]; exact i7⟩
      · rw [if_neg c2] at h2; simp at h2
theorem Turn.ino {n o : Int} {a b c t t' : Tr} {s : Bool} {ws : List Int} (h : Turn n o a b c s ws t t') : t'.ino = t.ino := by
  induction h with
  | L h1 => simp [Tr.ino]
  | R h1 => simp [Tr.ino]
  | inL h1 h2 h ih => simp [Tr.ino, ih]
  | inR h1 h2 h ih => simp [Tr.ino, ih]
/-- a turn leaves all other parts' sums -/
theorem Turn.sm {n o y : Int} {a b c t t' : Tr} {s : Bool} {ws : List Int} (h : Turn n o a b c s ws t t') (w : Int → Nat) (hb : t.bst) (hn : y ≠ n) (ho : y ≠ o) : smAt w y t' = smAt w y t := by
  induction h with
  | L h1 =>
    simp only [smAt]
    by_cases c1 : y < n
    · simp [c1, show y < o by omega]
    · by_cases c2 : y < o
      · simp [c1, c2, show n < y by omega]
      · simp [c1, c2, show n < y by omega, show o < y by omega]
  | R h1 =>
    simp only [smAt]
    by_cases c1 : y < o
    · simp [c1, show y < n by omega]
    · by_cases c2 : y < n
      · simp [c1, c2, show o < y by omega]
      · simp [c1, c2, show o < y by omega, show n < y by omega]
  | inL h1 h2 h ih =>
    simp only [smAt]; rw [ih hb.1, wsum_of w h.ino]
  | inR h1 h2 h ih =>
    simp only [smAt]; rw [ih hb.2.1, wsum_of w h.ino]
theorem sm_rot (w : Int → Nat) {n o y : Int} {t : Tr} {u : List Int} (hb : t.bst) (hw : t.way n = u ++ [o, n]) (hn : y ≠ n) (ho : y ≠ o) : smAt w y (t.rot n) = smAt w y t := by
  have hm : n ∈ t.pre := way_mem (n := n) (by rw [hw]; simp)
  obtain ⟨o', a, b, c, s, ws, T⟩ := turn_ex n t hb hm (way_long (by rw [hw]; simp))
  have h1 := T.way.1
  rw [hw] at h1
  have e := List.append_inj' h1 rfl
  have eo : o = o' := by have := e.2; simpa using this
  subst eo
  exact T.sm w hb hn ho
/-- one under another -/
theorem sm_up (w : Int → Nat) {x p : Int} : ∀ {t : Tr} {u v : List Int}, t.bst → t.way x = u ++ p :: v → smAt w x t ≤ smAt w p t
  | t, [], v, hb, h => by
    obtain ⟨l, r, rfl, h2⟩ := way_cons h
    rw [show smAt w p (.node l p r) = wsum w (.node l p r) by simp [smAt, wsum]]
    exact smAt_le w x _
  | t, y :: u, v, hb, h => by
    obtain ⟨l, r, rfl, h2⟩ := way_cons h
    by_cases c1 : x < y
    · rw [if_pos c1] at h2
      have hp := hb.2.2.1 p (way_mem (n := x) (by rw [← h2]; simp))
      simp only [smAt, if_pos c1, if_pos hp]
      exact sm_up w hb.1 h2.symm
    · rw [if_neg c1] at h2
      by_cases c2 : y < x
      · rw [if_pos c2] at h2
        have hp := hb.2.2.2 p (way_mem (n := x) (by rw [← h2]; simp))
        simp only [smAt, if_neg c1, if_pos c2, if_neg (show ¬ p < y by omega), if_pos hp]
        exact sm_up w hb.2.1 h2.symm
      · rw [if_neg c2] at h2; simp at h2
/-- two on unlike sides of a third -/
theorem sm_sides (w : Int → Nat) {x g p : Int} (hx : x < p) (hg : p < g) : ∀ {t : Tr} {u v v' : List Int}, t.bst → t.way x = u ++ p :: v → t.way g = u ++ p :: v' → smAt w x t + smAt w g t ≤ smAt w p t
  | t, [], v, v', hb, h, h' => by
    obtain ⟨l, r, rfl, h2⟩ := way_cons h
    have h1 := smAt_le w x l
    have h2 := smAt_le w g r
    simp only [smAt, if_pos hx, if_neg (show ¬ g < p by omega), if_pos hg, if_neg (Int.lt_irrefl p)]
    omega
  | t, y :: u, v, v', hb, h, h' => by
    obtain ⟨l, r, rfl, h2⟩ := way_cons h
    rw [Tr.way] at h'
    injection h' with _ h3
    by_cases c1 : x < y
    · rw [if_pos c1] at h2
      have hp := hb.2.2.1 p (way_mem (n := x) (by rw [← h2]; simp))
      by_cases c3 : g < y
      · rw [if_pos c3] at h3
        simp only [smAt, if_pos c1, if_pos hp, if_pos c3]
        exact sm_sides w hx hg hb.1 h2.symm h3
      · rw [if_neg c3] at h3
        by_cases c4 : y < g
        · rw [if_pos c4] at h3
          have := hb.2.2.2 p (way_mem (n := g) (by rw [h3]; simp))
          omega
        · rw [if_neg c4] at h3; simp at h3
    · rw [if_neg c1] at h2
      by_cases c2 : y < x
      · rw [if_pos c2] at h2
        have hp := hb.2.2.2 p (way_mem (n := x) (by rw [← h2]; simp))
        have c3 : ¬ g < y := by omega
        have c4 : y < g := by omega
        rw [if_neg c3, if_pos c4] at h3
        simp only [smAt, if_neg c1, if_pos c2, if_neg (show ¬ p < y by omega), if_pos hp, if_neg c3, if_pos c4]
        exact sm_sides w hx hg hb.2.1 h2.symm h3
      · rw [if_neg c2] at h2; simp at h2
theorem sm_sides' (w : Int → Nat) {x g p : Int} (h : x < p ∧ p < g ∨ g < p ∧ p < x) {t : Tr} {u v v' : List Int} (hb : t.bst) (h1 : t.way x = u ++ p :: v) (h2 : t.way g = u ++ p :: v') : smAt w x t + smAt w g t ≤ smAt w p t := by
  rcases h with ⟨a, b⟩ | ⟨a, b⟩
  · exact sm_sides w a b hb h1 h2
  · rw [Nat.add_comm]; exact sm_sides w a b hb h2 h1
/-- three on one way are unlike -/
theorem way3_of {x p g : Int} {t : Tr} {u : List Int} (hb : t.bst) (hw : t.way x = u ++ [g, p, x]) : t.way p = u ++ [g, p] ∧ t.way g = u ++ [g] ∧ x ≠ p ∧ p ≠ g ∧ x ≠ g := by
  have h1 : t.way p = u ++ [g, p] := by
    have := way_pre (y := p) (u := u ++ [g]) (v := [x]) hb (by rw [hw]; simp)
    rw [this]; simp
  have h2 : t.way g = u ++ [g] := way_pre (y := g) (u := u) (v := [p, x]) hb (by rw [hw])
  refine ⟨h1, h2, ?_, ?_, ?_⟩
  · rintro rfl; rw [hw] at h1; have := congrArg List.length h1; simp at this
  · rintro rfl; rw [h2] at h1; have := congrArg List.length h1; simp at this
  · rintro rfl; rw [h2] at hw; have := congrArg List.length hw; simp at this
/-- the number turned over another: where that one lies then -/
theorem over_way {n o : Int} {t : Tr} {u : List Int} (hb : t.bst) (hw : t.way n = u ++ [o, n]) : (t.rot n).way o = u ++ [n, o] := by
  have hm : n ∈ t.pre := way_mem (n := n) (by rw [hw]; simp)
  obtain ⟨o', a, b, c, s, ws, T⟩ := turn_ex n t hb hm (way_long (by rw [hw]; simp))
  have h1 := T.way
  rw [hw] at h1
  have e := List.append_inj' h1.1 rfl
  have eo : o = o' := by have := e.2; simpa using this
  subst eo
  rw [h1.2.2, e.1]
theorem sides_of {x p g : Int} {t : Tr} {u : List Int} (hb : t.bst) (hw : t.way x = u ++ [g, p, x]) : (x < g ↔ p < g) := by
  induction t generalizing u with
  | nil => simp [Tr.way] at hw
  | node l y r i1 i2 =>
    obtain ⟨h1, h2, n1, n2, n3⟩ := way3_of hb hw
    rw [Tr.way] at hw
    cases u with
    | nil =>
      injection hw with e hw
      subst e
      by_cases c : x < y
      · rw [if_pos c] at hw
        have := hb.2.2.1 p (way_mem (n := x) (by rw [hw]; simp))
        simp [c, this]
      · rw [if_neg c] at hw
        by_cases d : y < x
        · rw [if_pos d] at hw
          have := hb.2.2.2 p (way_mem (n := x) (by rw [hw]; simp))
          constructor <;> intro <;> omega
        · omega
    | cons z u =>
      injection hw with e hw
      by_cases c : x < y
      · rw [if_pos c] at hw; exact i1 hb.1 hw
      · rw [if_neg c] at hw
        by_cases d : y < x
        · rw [if_pos d] at hw; exact i2 hb.2.1 hw
        · rw [if_neg d] at hw; simp at hw
/-- the half step on one side: the one over it is turned -/
theorem pay_half {w : Int → Nat} (hw : ∀ k, 1 ≤ w k) {x p g : Int} {t : Tr} {u : List Int} (hb : t.bst) (h : t.way x = u ++ [g, p, x]) (hs : decide (x < p) = decide (p < g)) : (phi w (t.rot p) : Int) + 1 ≤ phi w t + 2 * ((rkAt w p (t.rot p) : Int) - rkAt w x t) := by
  obtain ⟨hp, hg, n1, n2, n3⟩ := way3_of hb h
  obtain ⟨S, a, c, i1, i2, i3, i4, i5, i6, i7⟩ := pay_one hw hb hp
  have e1 := i5.p
  have e2 := i5.r
  have e3 := i5.r'
  have hm : x ∈ t.pre := way_mem (n := x) (by rw [h]; simp)
  have hx1 : 1 ≤ smAt w x t := Nat.le_trans (hw x) (smAt_ge w hb hm)
  have hup := sm_up w (u := u ++ [g]) (p := p) (v := [x]) hb (by rw [h]; simp)
  have hsw := same_way hb h hs
  have hgw := over_way hb hp
  have hd : x < p ∧ p < g ∨ g < p ∧ p < x := by
    by_cases q : x < p
    · have : p < g := by simpa [q] using hs
      exact .inl ⟨q, this⟩
    · have : ¬ p < g := by simpa [q] using hs
      exact .inr ⟨by omega, by omega⟩
  have hsd := sm_sides' w hd (Tr.bst_rot hb) hsw hgw
  have hsx := sm_rot w (y := x) hb hp n1 n3
  have := num_half (S := S) (x := smAt w x t) (p := a) (b := c) hx1 i2 (by omega) i3 (by omega)
  have z : rk 0 = 0 := rfl
  unfold rkAt
  rw [e3]
  omega
theorem pay_cross {w : Int → Nat} (hw : ∀ k, 1 ≤ w k) {x p g : Int} {t : Tr} {u : List Int} (hb : t.bst) (h : t.way x = u ++ [g, p, x]) (hs : ¬ decide (x < p) = decide (p < g)) : (phi w ((t.rot x).rot x) : Int) + 1 ≤ phi w t + 2 * ((rkAt w x ((t.rot x).rot x) : Int) - rkAt w x t) := by
  obtain ⟨hp, hg, n1, n2, n3⟩ := way3_of hb h
  have hb1 := Tr.bst_rot (n := x) hb
  have hb2 := Tr.bst_rot (n := x) hb1
  have w0 : t.way x = (u ++ [g]) ++ [p, x] := by rw [h]; simp
  obtain ⟨S, a, c, i1, i2, i3, i4, i5, i6, i7⟩ := pay_one hw hb w0
  have h1 := rot_way hb w0
  have w1 : (t.rot x).way x = u ++ [g, x] := by rw [h1]; simp
  obtain ⟨S', a', c', j1, j2, j3, j4, j5, j6, j7⟩ := pay_one hw hb1 w1
  have e1 := i5.p
  have e2 := i5.r
  have e3 := i5.r'
  have f1 := j5.p
  have f2 := j5.r
  have f3 := j5.r'
  have hpw := over_way hb w0
  have hgw := over_way hb1 w1
  have hd : p < x ∧ x < g ∨ g < x ∧ x < p := by
    have hq := sides_of hb h
    by_cases q : x < p
    · have : ¬ p < g := by simpa [q] using hs
      exact .inr ⟨by omega, q⟩
    · have : p < g := by simpa [q] using hs
      exact .inl ⟨by omega, hq.mpr this⟩
  have hpx : ((t.rot x).rot x).way p = u ++ [x, p] := by
    obtain ⟨o', a, b, c, s, ws, T⟩ := turn_ex x (t.rot x) hb1 (way_mem (n := x) (by rw [w1]; simp)) (way_long (by rw [w1]; simp))
    have k1 := T.way
    rw [w1] at k1
    have e := List.append_inj' k1.1 rfl
    have eo : g = o' := by have := e.2; simpa using this
    subst eo
    rw [e.1]
    refine T.low hb1 (v := [p]) (by rw [hpw, e.1]; simp) ?_ (Ne.symm n1)
    have k2 := T.ne
    rcases hd with ⟨d1, d2⟩ | ⟨d1, d2⟩
    · have : ¬ g < x := by omega
      rw [← k2.1]; simp [d1, this]
    · have : ¬ p < x := by omega
      rw [← k2.1]; simp [d1, this]
  have hsd := sm_sides' w hd hb2 hpx hgw
  have hsp := sm_rot w (y := p) hb1 w1 (Ne.symm n1) n2
  have := num_cross (S := S') (x := a) (p := S) (a := c) (b := c') i1 i2 j2 i3 (by omega) (by omega)
  have z : rk 0 = 0 := rfl
  unfold rkAt
  rw [e2, f3]
  rw [show a' = S by omega] at f1
  omega
theorem pay_same {w : Int → Nat} (hw : ∀ k, 1 ≤ w k) {x p g : Int} {t : Tr} {u : List Int} (hb : t.bst) (h : t.way x = u ++ [g, p, x]) (hs : decide (x < p) = decide (p < g)) : (phi w ((t.rot p).rot x) : Int) + 1 ≤ phi w t + 3 * ((rkAt w x ((t.rot p).rot x) : Int) - rkAt w x t) := by
  obtain ⟨hp, hg, n1, n2, n3⟩ := way3_of hb h
  have hb1 := Tr.bst_rot (n := p) hb
  obtain ⟨S, a, c, i1, i2, i3, i4, i5, i6, i7⟩ := pay_one hw hb hp
  have e1 := i5.p
  have e2 := i5.r
  have e3 := i5.r'
  have hm : x ∈ t.pre := way_mem (n := x) (by rw [h]; simp)
  have hx1 : 1 ≤ smAt w x t := Nat.le_trans (hw x) (smAt_ge w hb hm)
  have hup := sm_up w (u := u ++ [g]) (p := p) (v := [x]) hb (by rw [h]; simp)
  have hsw := same_way hb h hs
  have hgw := over_way hb hp
  have hd : x < p ∧ p < g ∨ g < p ∧ p < x := by
    by_cases q : x < p
    · have : p < g := by simpa [q] using hs
      exact .inl ⟨q, this⟩
    · have : ¬ p < g := by simpa [q] using hs
      exact .inr ⟨by omega, by omega⟩
  have hsd := sm_sides' w hd hb1 hsw hgw
  have hsx := sm_rot w (y := x) hb hp n1 n3
  obtain ⟨S', a', c', j1, j2, j3, j4, j5, j6, j7⟩ := pay_one hw hb1 hsw
  have f1 := j5.p
  have f2 := j5.r
  have f3 := j5.r'
  have := num_same (S := S) (x := smAt w x t) (p := a) (a := c') (b := c) hx1 i2 (by omega) i3 (by omega) (by omega)
  have z : rk 0 = 0 := rfl
  unfold rkAt
  rw [f3, show S' = S by omega]
  rw [show a' = smAt w x t by omega] at f1
  omega
theorem pay_step2 {w : Int → Nat} (hw : ∀ k, 1 ≤ w k) {x p g : Int} {t : Tr} {u : List Int} (hb : t.bst) (h : t.way x = u ++ [g, p, x]) : (phi w (step2 t g p x).1 : Int) + 1 ≤ phi w t + 3 * ((rkAt w x (step2 t g p x).1 : Int) - rkAt w x t) := by
  unfold step2
  by_cases c : decide (x < p) = decide (p < g)
  · rw [if_pos c]; exact pay_same hw hb h c
  · rw [if_neg c]
    have h1 := pay_cross hw hb h c
    have h2 : rkAt w x t ≤ rkAt w x ((t.rot x).rot x) := by
      have w0 : t.way x = (u ++ [g]) ++ [p, x] := by rw [h]; simp
      have k1 := rot_way hb w0
      obtain ⟨S, a, c, i1, i2, i3, i4, i5, i6, i7⟩ := pay_one hw hb w0
      obtain ⟨S', a', c', j1, j2, j3, j4, j5, j6, j7⟩ := pay_one hw (Tr.bst_rot (n := x) hb) (u := u) (p := g) (by rw [k1]; simp)
      refine rk_mono ?_
      have := i5.r; have := i5.r'; have := j5.r; have := j5.r'
      omega
    show (phi w ((t.rot x).rot x) : Int) + 1 ≤ phi w t + 3 * ((rkAt w x ((t.rot x).rot x) : Int) - rkAt w x t)
    omega
theorem pay_step1 {w : Int → Nat} (hw : ∀ k, 1 ≤ w k) {x p : Int} {t : Tr} {u : List Int} (hb : t.bst) (h : t.way x = u ++ [p, x]) : (phi w (t.rot x) : Int) ≤ phi w t + ((rkAt w x (t.rot x) : Int) - rkAt w x t) ∧ rkAt w x t ≤ rkAt w x (t.rot x) := by
  obtain ⟨S, a, c, i1, i2, i3, i4, i5, i6, i7⟩ := pay_one hw hb h
  have e1 := i5.p
  have e2 := i5.r
  have e3 := i5.r'
  have := rk_mono i3
  have := rk_mono i4
  have z : rk 0 = 0 := rfl
  unfold rkAt
  rw [e2, e3]
  omega
end A
/-! Plain values: what the rules of the plain functions come to at them. -/
namespace Z
open PySem PySem.Spec PyProof.Rows L2
theorem nbs_map {α : Type} {g : α → PV} (h : ∀ a, (g a).nb = true) : ∀ l : List α, PV.nbs (l.map g) = true
  | [] => rfl
  | a :: l => by rw [List.map_cons, PV.nbs, h, nbs_map h l]; rfl
theorem nowns_map {α : Type} {g : α → PV} (h : ∀ a, (g a).nown = true) : ∀ l : List α, PV.nowns (l.map g) = true
  | [] => rfl
  | a :: l => by rw [List.map_cons, PV.nowns, h, nowns_map h l]; rfl
theorem fls_mapE {α : Type} {g g' : α → PV} {f : Fl} (h : ∀ a, (g a).fl f = g' a) : ∀ l : List α, PV.fls f (l.map g) = l.map g'
  | [] => rfl
  | a :: l => by rw [List.map_cons, List.map_cons, PV.fls, h, fls_mapE h l]
theorem toDs_mapE {α : Type} {g : α → PV} {d : α → PyData} (h : ∀ a, (g a).toD = some (d a)) : ∀ l : List α, PV.toDs (l.map g) = some (l.map d)
  | [] => rfl
  | a :: l => by rw [List.map_cons, List.map_cons, PV.toDs, h, toDs_mapE h l]
/-- a list of values, kept folded -/
def mp {α : Type} (g : α → PV) (l : List α) : List PV := l.map g
section
variable {α : Type} {g : α → PV}
theorem mp_nil : mp g [] = [] := rfl
theorem mp_cons (a : α) (l : List α) : mp g (a :: l) = g a :: mp g l := rfl
theorem mp_len (l : List α) : (mp g l).length = l.length := List.length_map ..
theorem mp_app (l m : List α) : mp g l ++ mp g m = mp g (l ++ m) := (List.map_append ..).symm
theorem mp_take (l : List α) (n : Nat) : (mp g l).take n = mp g (l.take n) := List.map_take.symm
theorem mp_drop (l : List α) (n : Nat) : (mp g l).drop n = mp g (l.drop n) := List.map_drop.symm
theorem mp_atI (l : List α) (i : Int) : atI (mp g l) i = (atI l i).map g := by
  unfold atI
  rw [mp_len]
  cases ixN l.length i <;> simp [mp]
theorem mp_cut (l : List α) (lo hi : Option Int) : cutA (mp g l) lo hi = mp g (cutA l lo hi) := by
  unfold cutA; rw [mp_len, mp_drop, mp_take]
theorem mp_dropLast (l : List α) : (mp g l).dropLast = mp g l.dropLast := List.map_dropLast.symm
theorem mp_get (l : List α) (n : Nat) : (mp g l)[n]? = (l[n]?).map g := List.getElem?_map
theorem mp_set (l : List α) (n : Nat) (a : α) : (mp g l).set n (g a) = mp g (l.set n a) := List.map_set.symm
end
theorem nbs_ints (l : List Int) : PV.nbs (mp PV.int l) = true := nbs_map (fun _ => rfl) l
theorem nown_ints (l : List Int) : PV.nowns (mp PV.int l) = true := nowns_map (fun _ => rfl) l
theorem fls_ints (f : Fl) (l : List Int) : PV.fls f (mp PV.int l) = mp PV.int l := fls_mapE (fun _ => rfl) l
theorem toDs_ints (l : List Int) : PV.toDs (mp PV.int l) = some (l.map PyData.int) := toDs_mapE (fun _ => rfl) l
theorem mp_snoc (l : List Int) (a : Int) : mp PV.int l ++ [PV.int a] = mp PV.int (l ++ [a]) := mp_app l [a]
theorem mp_pcons (l : List Int) (a : Int) : PV.int a :: mp PV.int l = mp PV.int (a :: l) := rfl
theorem ints_mp (l : List Int) : PV.ints (mp PV.int l) = some l := PV.ints_map l
/-- numbers, by a flag -/
abbrev nm (f : Fl) (l : List Int) : PV := .cell f .lst (mp PV.int l)
/-! equal data -/
theorem eqvAll_mapE {α : Type} [DecidableEq α] {g : α → PyData} (hg : ∀ a b, PyData.eqv (g a) (g b) = decide (a = b)) : ∀ l m : List α, PyData.eqvAll (l.map g) (m.map g) = decide (l = m)
  | [], [] => by simp [PyData.eqvAll]
  | [], _ :: _ => by simp [PyData.eqvAll]
  | _ :: _, [] => by simp [PyData.eqvAll]
  | a :: l, b :: m => by
    rw [List.map_cons, List.map_cons, PyData.eqvAll, eqvAll_mapE hg l m, hg]
    by_cases h : a = b <;> by_cases k : l = m <;> simp [h, k]
theorem eqv_int (a b : Int) : PyData.eqv (.int a) (.int b) = decide (a = b) := by rw [PyData.eqv]; by_cases h : a = b <;> simp [h]
theorem eqv_ints (l m : List Int) : PyData.eqv (.list (l.map PyData.int)) (.list (m.map PyData.int)) = decide (l = m) := by
  rw [PyData.eqv]; exact eqvAll_mapE eqv_int l m
theorem eqv_str (a b : Str) : PyData.eqv (.str a) (.str b) = decide (a = b) := by rw [PyData.eqv]; by_cases h : a = b <;> simp [h]
theorem canLay_map {α : Type} {g : α → PyData} (h : ∀ a, (g a).canLay0 = true) : ∀ l : List α, PyData.canLayAll0 (l.map g) = true
  | [] => rfl
  | a :: l => by rw [List.map_cons, PyData.canLayAll0, h, canLay_map h l]; rfl
theorem depth_map {α : Type} {g : α → PyData} {n : Nat} (h : ∀ a, (g a).depth ≤ n) : ∀ l : List α, PyData.depthAll (l.map g) ≤ n
  | [] => Nat.zero_le _
  | a :: l => by rw [List.map_cons, PyData.depthAll]; exact Nat.max_le.mpr ⟨h a, depth_map h l⟩
theorem shaped_list {α : Type} {g : α → PyData} {n : Nat} (h : ∀ a, (g a).canLay0 = true) (k : ∀ a, (g a).depth ≤ n) (hn : n < 64) (l : List α) : SeqAt.shaped (.list (l.map g)) = true := by
  unfold SeqAt.shaped
  rw [PyData.canLay0, canLay_map h, PyData.depth]
  have := depth_map k l
  rw [decide_eq_true (by omega)]; rfl
/-- == of two values, where it is plain -/
def eqP (x y : PV) : Option Bool := match x.toD, y.toD with
  | some d, some e => if SeqAt.shaped d && SeqAt.shaped e then some (PyData.eqv d e) else none
  | _, _ => none
theorem gEq_P (f : Bool → Bool) (s : St) (x y : PV) : gEq f s x y = (eqP (look s x) (look s y)).map fun b => .bl (f b) := by
  unfold gEq eqP
  generalize (look s x).toD = a
  generalize (look s y).toD = b
  cases a <;> cases b <;> dsimp only [Option.map]
  split <;> rfl
theorem eqP_mk {x y : PV} {d e : PyData} {b : Bool} (hx : x.toD = some d) (hy : y.toD = some e) (sx : SeqAt.shaped d = true) (sy : SeqAt.shaped e = true) (h : PyData.eqv d e = b) : eqP x y = some b := by
  unfold eqP; rw [hx, hy]; dsimp only; rw [sx, sy, h]; rfl
theorem eqP_int (a b : Int) : eqP (.int a) (.int b) = some (decide (a = b)) := eqP_mk rfl rfl rfl rfl (eqv_int a b)
theorem eqP_bl (a b : Bool) : eqP (.bl a) (.bl b) = some (decide (a = b)) := eqP_mk rfl rfl rfl rfl (by rw [PyData.eqv]; cases a <;> cases b <;> rfl)
theorem eqP_map {α : Type} [DecidableEq α] {g g' : α → PV} {d : α → PyData} {n : Nat} {f f' : Fl} (h : ∀ a, (g a).toD = some (d a)) (h' : ∀ a, (g' a).toD = some (d a)) (c : ∀ a, (d a).canLay0 = true) (k : ∀ a, (d a).depth ≤ n) (hn : n < 64) (e : ∀ a b, PyData.eqv (d a) (d b) = decide (a = b)) (l m : List α) : eqP (.cell f .lst (mp g l)) (.cell f' .lst (mp g' m)) = some (decide (l = m)) :=
  eqP_mk (by rw [PV.toD, mp, toDs_mapE h]; rfl) (by rw [PV.toD, mp, toDs_mapE h']; rfl) (shaped_list c k hn l) (shaped_list c k hn m) (by rw [PyData.eqv]; exact eqvAll_mapE e l m)
theorem eqP_nm (f g : Fl) (l m : List Int) : eqP (.cell f .lst (mp PV.int l)) (.cell g .lst (mp PV.int m)) = some (decide (l = m)) := eqP_map (d := PyData.int) (n := 0) (fun _ => rfl) (fun _ => rfl) (fun _ => rfl) (fun _ => Nat.le_refl _) (by decide) eqv_int l m
theorem eqP_nil (f g : Fl) (l : List Int) : eqP (.cell f .lst (mp PV.int l)) (.cell g .lst []) = some (decide (l = [])) := eqP_nm f g l []
/-! places in a list -/
theorem ixN_nat {n k : Nat} (h : k < n) : ixN n (k : Int) = some k := by
  unfold ixN; rw [if_pos (by omega), if_pos (by omega)]; simp
theorem ixN_neg {n k : Nat} (h : k < n) : ixN n (-((k : Int) + 1)) = some (n - 1 - k) := by
  unfold ixN; rw [if_neg (by omega), if_pos (by omega)]; congr 1; omega
theorem atI_0 {α : Type} (x : α) (l : List α) : atI (x :: l) 0 = some x := by
  unfold atI; rw [show (0 : Int) = ((0 : Nat) : Int) from rfl, ixN_nat (by simp)]; rfl
theorem atI_nat {α : Type} {l : List α} {k : Nat} (h : k < l.length) : atI l (k : Int) = some l[k] := by
  unfold atI; rw [ixN_nat h]; simp [h]
theorem atI_last {α : Type} (x : α) (l : List α) : atI (l ++ [x]) (-1) = some x := by
  unfold atI
  rw [show (-1 : Int) = -(((0 : Nat) : Int) + 1) from rfl, ixN_neg (by simp)]; simp
theorem atI_m2 {α : Type} (x y : α) (l : List α) : atI (l ++ [x, y]) (-2) = some x := by
  unfold atI
  rw [show (-2 : Int) = -(((1 : Nat) : Int) + 1) from rfl, ixN_neg (by simp)]; simp
/-! parts of a list -/
theorem cutA_from {α : Type} (l : List α) (k : Nat) : cutA l (some (k : Int)) none = l.drop k := by
  unfold cutA
  rw [HT.sIx_nat, HT.sIx_none]
  rcases Nat.lt_or_ge k l.length with h | h
  · rw [Nat.min_eq_left (Nat.le_of_lt h)]; exact List.take_of_length_le (by simp)
  · rw [Nat.min_eq_right h, List.drop_eq_nil_of_le h, List.drop_length]; simp
theorem cutA_to {α : Type} (l : List α) (k : Nat) : cutA l none (some (k : Int)) = l.take k := by
  unfold cutA
  rw [HT.sIx_nat, HT.sIx_none, List.drop_zero, Nat.sub_zero]
  rcases Nat.lt_or_ge k l.length with h | h
  · rw [Nat.min_eq_left (Nat.le_of_lt h)]
  · rw [Nat.min_eq_right h, List.take_of_length_le h, List.take_length]
theorem cutA_both {α : Type} (l : List α) (j k : Nat) : cutA l (some (j : Int)) (some (k : Int)) = (l.take k).drop j := by
  unfold cutA
  rw [HT.sIx_nat, HT.sIx_nat, List.drop_take]
  rcases Nat.lt_or_ge j l.length with h | h
  · rw [Nat.min_eq_left (Nat.le_of_lt h)]
    rcases Nat.lt_or_ge k l.length with g | g
    · rw [Nat.min_eq_left (Nat.le_of_lt g)]
    · rw [Nat.min_eq_right g, List.take_of_length_le (by simp), List.take_of_length_le (by simp; omega)]
  · rw [Nat.min_eq_right h, List.drop_eq_nil_of_le (Nat.le_refl _), List.drop_eq_nil_of_le h]; simp
/-! the same, what stands there put first -/
def ixP (x y : PV) : Option PV := match x, y with
  | .cell _ .lst xs, .int i => if PV.nowns xs then atI xs i else none
  | .cl xs, .int i => atI xs i
  | .tup xs, .int i => if PV.nowns xs then atI xs i else none
  | _, _ => none
theorem gIx_P (s : St) (x y : PV) : gIx s x y = ixP (look s x) y := rfl
theorem ixP_nm (f : Fl) (l : List Int) (i : Int) : ixP (.cell f .lst (mp PV.int l)) (.int i) = (atI l i).map PV.int := by
  unfold ixP; dsimp only; rw [nown_ints, mp_atI]; rfl
theorem ixP_tup (xs : List PV) (i : Int) : ixP (.tup xs) (.int i) = if PV.nowns xs then atI xs i else none := rfl
theorem ixP_lst (f : Fl) (xs : List PV) (i : Int) : ixP (.cell f .lst xs) (.int i) = if PV.nowns xs then atI xs i else none := rfl
def addP (x y : PV) : Option PV := match x, y with
  | .int i, .int j => some (.int (i + j))
  | .str i, .str j => if i.length + j.length ≤ sizeLine then some (.str (i ++ j)) else none
  | .cell _ .lst xs, .cell _ .lst ys => if PV.nowns xs && PV.nowns ys && decide (xs.length + ys.length ≤ sizeLine) then some (.cell .own .lst (xs ++ ys)) else none
  | _, _ => none
theorem gAdd_P (s : St) (x y : PV) : gAdd s x y = addP (look s x) (look s y) := rfl
theorem addP_int (i j : Int) : addP (.int i) (.int j) = some (.int (i + j)) := rfl
theorem addP_nm (f g : Fl) (l m : List Int) (h : l.length + m.length ≤ sizeLine) : addP (nm f l) (nm g m) = some (nm .own (l ++ m)) := by
  unfold addP; dsimp only; rw [nown_ints, nown_ints, mp_len, mp_len, mp_app, decide_eq_true h]; rfl
theorem addP_1L (f g : Fl) (a : Int) (m : List Int) (h : m.length + 1 ≤ sizeLine) : addP (.cell f .lst [.int a]) (nm g m) = some (nm .own (a :: m)) := addP_nm f g [a] m (by simp; omega)
theorem addP_2L (f g : Fl) (a b : Int) (m : List Int) (h : m.length + 2 ≤ sizeLine) : addP (.cell f .lst [.int a, .int b]) (nm g m) = some (nm .own (a :: b :: m)) := addP_nm f g [a, b] m (by simp; omega)
theorem addP_L1 (f g : Fl) (a : Int) (m : List Int) (h : m.length + 1 ≤ sizeLine) : addP (nm g m) (.cell f .lst [.int a]) = some (nm .own (m ++ [a])) := addP_nm g f m [a] (by simp; omega)
/-! blocks over a list -/
theorem lcGo_map {α : Type} {js : List Nat} {tgt : PV → Option (List PV)} {ft : St → Rs Bool} {fe : St → Rs PV} {e : α → PV} {zs : α → List PV} {p : α → Bool} {g : α → PV} {s : St} (hj : js.all (fun j => decide (j < s.length)) = true) : ∀ (l : List α) (acc : List PV),
    (∀ a ∈ l, tgt (e a) = some (zs a) ∧ (zs a).length = js.length ∧ ft (setAll js (zs a) s) = .ok (p a) (setAll js (zs a) s) ∧ (p a = true → fe (setAll js (zs a) s) = .ok (g a) (setAll js (zs a) s)) ∧ kill js (setAll js (zs a) s) = s) → acc.length + l.length ≤ sizeLine →
    lcGo js tgt ft fe (mp e l) acc s = .ok (acc ++ mp g (l.filter p)) s
  | [], acc, _, _ => by simp [lcGo, mp]
  | a :: l, acc, h, hl => by
    obtain ⟨h1, h2, h3, h4, h5⟩ := h a List.mem_cons_self
    rw [List.length_cons] at hl
    rw [mp_cons, lcGo, h1]
    dsimp only
    rw [if_pos ⟨h2, hj⟩, h3]
    simp only [Rs.bind]
    cases hp : p a with
    | true =>
      rw [if_pos rfl, h4 hp]
      simp only [Rs.bind]
      rw [if_pos (by omega), h5, lcGo_map hj l _ (fun b m => h b (List.mem_cons_of_mem _ m)) (by simp; omega)]
      simp [hp, mp]
    | false =>
      rw [if_neg (by simp), h5, lcGo_map hj l _ (fun b m => h b (List.mem_cons_of_mem _ m)) (by omega)]
      simp [hp, mp]
theorem cutA_1N {α : Type} (a : α) (l : List α) (n : Nat) : cutA (a :: l) (some 1) (some (1 + (n : Int))) = l.take n := by
  have := cutA_both (a :: l) 1 (n + 1)
  rw [show (((1 : Nat) : Nat) : Int) = 1 from rfl, show ((n + 1 : Nat) : Int) = 1 + (n : Int) by omega] at this
  rw [this, List.take_succ_cons]; rfl
theorem cutA_N {α : Type} (a : α) (l : List α) (n : Nat) : cutA (a :: l) (some (1 + (n : Int))) none = l.drop n := by
  have := cutA_from (a :: l) (n + 1)
  rw [show ((n + 1 : Nat) : Int) = 1 + (n : Int) by omega] at this
  rw [this]; rfl
theorem sz (n : Nat) (h : n ≤ 1000 := by decide) : n ≤ sizeLine := Nat.le_trans h (by decide)
theorem sz0 : 0 < sizeLine := by decide
theorem sz1 : 1 ≤ sizeLine := sz 1
theorem sz2 : 2 ≤ sizeLine := sz 2
theorem sz3 : 3 ≤ sizeLine := sz 3
theorem sz5 : 5 ≤ sizeLine := sz 5
theorem sz8 : 8 ≤ sizeLine := sz 8
/-! passes -/
theorem wh_go {t : St → Rs Bool} {f : Sm} {k : Nat} {s s1 s2 : St} (h : t s = .ok true s1) (hq : f s1 = .ok .nx s2) : sWh t f (k + 1) s = sWh t f k s2 := by
  rw [sWh, h]; simp [Rs.bind, hq]
theorem wh_end {t : St → Rs Bool} {f : Sm} {k : Nat} {s s1 : St} (h : t s = .ok false s1) : sWh t f (k + 1) s = .ok .nx s1 := by
  rw [sWh, h]; rfl
theorem wh_rt {t : St → Rs Bool} {f : Sm} {k : Nat} {s s1 s2 : St} {x : PV} (h : t s = .ok true s1) (hq : f s1 = .ok (.rt x) s2) : sWh t f (k + 1) s = .ok (.rt x) s2 := by
  rw [sWh, h]; simp [Rs.bind, hq]
theorem for_go {j : Nat} {f : Sm} {y : PV} {ys : List PV} {s s2 : St} (hj : j < s.length) (h : f (s.set j (some y)) = .ok .nx s2) : sForL j f (y :: ys) s = sForL j f ys s2 := by
  rw [sForL, if_pos hj, h]; rfl
theorem for_rt {j : Nat} {f : Sm} {y x : PV} {ys : List PV} {s s2 : St} (hj : j < s.length) (h : f (s.set j (some y)) = .ok (.rt x) s2) : sForL j f (y :: ys) s = .ok (.rt x) s2 := by
  rw [sForL, if_pos hj, h]; rfl
theorem forT_go {js : List Nat} {f : Sm} {y : PV} {ys zs : List PV} {s s2 : St} (ht : tgtTup y = some zs) (hl : zs.length = js.length) (hj : js.all (fun j => decide (j < s.length)) = true) (h : f (setAll js zs s) = .ok .nx s2) : sForT js f (y :: ys) s = sForT js f ys s2 := by
  rw [sForT, ht]; dsimp only; rw [if_pos ⟨hl, hj⟩, h]; rfl
/-- over a list, what is kept going along with it -/
theorem for_inv {α β : Type} {j : Nat} {f : Sm} {e : α → PV} {S : β → St} {g : β → α → β} (hj : ∀ b, j < (S b).length) : ∀ (l : List α) (b : β), (∀ (l1 l2 : List α) (a : α), l = l1 ++ a :: l2 → f ((S (l1.foldl g b)).set j (some (e a))) = .ok .nx (S (g (l1.foldl g b) a))) → sForL j f (mp e l) (S b) = .ok .nx (S (l.foldl g b))
  | [], b, _ => rfl
  | a :: l, b, h => by
    rw [mp_cons, for_go (hj b) (h [] l a rfl)]
    exact for_inv hj l (g b a) fun l1 l2 a' e => h (a :: l1) l2 a' (by rw [e]; rfl)
theorem ePop_P (i : Nat) (fl : St → Option (List Nat)) (s : St) : ePop i fl s = match fl s with
  | some q => match lstAt s i q with
    | some (x, xs) => match xs.getLast? with
      | some y => if y.nown then .ok y (s.set i (some (setP x q (.cell .own .lst xs.dropLast)))) else .bad
      | none => .bad
    | none => .bad
  | none => .bad := by
  unfold ePop
  cases fl s with
  | none => rfl
  | some q =>
    dsimp only
    cases lstAt s i q with
    | none => rfl
    | some p => obtain ⟨x, xs⟩ := p; dsimp only; (try rw [List.getLast?_eq_getElem?]); (try (cases xs[xs.length - 1]? <;> rfl))
theorem mp_getLast {α : Type} {g : α → PV} (l : List α) : (mp g l).getLast? = l.getLast?.map g := List.getLast?_map
end Z
namespace A
open PySem Z
open L2 (atI ixN)
/-! ### links as values -/
def optP : Option Int → PV
  | some n => .int n
  | none => .non
def tri3 (f : Fl) (t : Tri) : PV := .cell f .lst [optP t.l, optP t.r, optP t.p]
def lks (f : Fl) (ks : List Int) (φ : Lks) : PV := .cell f (.dK (ks.map Sum.inl)) (mp (fun k => tri3 f (φ k)) ks)
theorem optP_nown (o : Option Int) : (optP o).nown = true := by cases o <;> rfl
theorem optP_nb (o : Option Int) : (optP o).nb = true := by cases o <;> rfl
theorem optP_fl (f : Fl) (o : Option Int) : (optP o).fl f = optP o := by cases o <;> rfl
theorem tri3_fl (f g : Fl) (t : Tri) : (tri3 f t).fl g = tri3 g t := by simp [tri3, PV.fl, PV.fls, optP_fl]
theorem lks_fl (f g : Fl) (ks : List Int) (φ : Lks) : (lks f ks φ).fl g = lks g ks φ := by
  unfold lks
  rw [PV.fl, mp, fls_mapE (fun k => tri3_fl f g (φ k))]; rfl
theorem tri3_nb (t : Tri) : (tri3 .own t).nb = true := by simp [tri3, PV.nb, PV.nbs, optP_nb]
theorem lks_nb (ks : List Int) (φ : Lks) : (lks .own ks φ).nb = true := by
  unfold lks
  rw [PV.nb]
  exact nbs_map (fun k => tri3_nb (φ k)) ks
theorem lks_nown (ks : List Int) (φ : Lks) : (lks .own ks φ).nown = false := rfl
theorem keyIx_mem {k : Int} : ∀ {ks : List Int}, k ∈ ks → ∃ n, keyIx (ks.map Sum.inl) (Sum.inl k) = some n ∧ ks[n]? = some k
  | [], h => by cases h
  | x :: ks, h => by
    unfold keyIx
    rw [List.map_cons, List.findIdx?_cons]
    by_cases e : x = k
    · subst e; exact ⟨0, by simp, rfl⟩
    · obtain ⟨n, h1, h2⟩ := keyIx_mem (k := k) (ks := ks) ((List.mem_cons.mp h).resolve_left fun z => e z.symm)
      refine ⟨n + 1, ?_, by simpa using h2⟩
      unfold keyIx at h1
      rw [if_neg (by simp [e]), h1]; rfl
theorem map_set {α β : Type} [DecidableEq α] {g : α → β} {k : α} {h : β} : ∀ {l : List α} {n : Nat}, l[n]? = some k → l.Nodup → (l.map g).set n h = l.map fun x => if x = k then h else g x
  | [], n, e, _ => by simp at e
  | a :: l, 0, e, nd => by
    simp at e; subst e
    have hn := List.nodup_cons.mp nd
    rw [List.map_cons, List.set_cons_zero, List.map_cons, if_pos rfl]
    congr 1
    refine List.map_congr_left fun x m => ?_
    have : ¬ x = a := fun z => hn.1 (by rw [← z]; exact m)
    rw [if_neg this]
  | a :: l, n + 1, e, nd => by
    have hn := List.nodup_cons.mp nd
    have e : l[n]? = some k := by simpa using e
    have hm : k ∈ l := List.mem_of_getElem? e
    have ne : ¬ a = k := fun z => hn.1 (by rw [z]; exact hm)
    rw [List.map_cons, List.set_cons_succ, List.map_cons, if_neg ne, map_set e hn.2]
section
variable {s s' : Z.St} {i : Nat} {ks : List Int} {φ : Lks} {k j : Int} {n m : Nat} {fk fj fe fx : Z.St → Rs PV}
theorem lVar_at (hs : s[i]? = some (some (lks .own ks φ))) : lVar i s = some [] := by unfold lVar; rw [hs]
theorem lIx_eq {fl : Z.St → Option (List Nat)} {q : List Nat} {c y : PV} (h1 : fl s = some q) (h2 : getS s i q = some c) (h3 : fk s = .ok y s') (h4 : idxOf c y = some n) : lIx i fl fk s = some (q ++ [n]) := by
  unfold lIx; rw [h1]; simp only [h2, h3, h4]; rfl
theorem lks_at1 (hs : s[i]? = some (some (lks .own ks φ))) (hn : keyIx (ks.map Sum.inl) (Sum.inl k) = some n) (hk : fk s = .ok (.int k) s') : lIx i (lVar i) fk s = some [n] :=
  lIx_eq (q := []) (c := lks .own ks φ) (lVar_at hs) (by unfold getS; rw [hs]; simp [getP]) hk (by simp [idxOf, lks, keyOf, hn])
theorem lks_get1 (hs : s[i]? = some (some (lks .own ks φ))) (hg : ks[n]? = some k) : getS s i [n] = some (tri3 .own (φ k)) := by
  unfold getS
  rw [hs]
  simp [lks, getP, mp, hg]
theorem ixN3 {m : Nat} (h : m < 3) : ixN 3 (m : Int) = some m := ixN_nat h
theorem tri3_at (f : Fl) (t : Tri) {m : Nat} (h : m < 3) : ([optP t.l, optP t.r, optP t.p] : List PV)[m]? = some (optP (t.at m)) := by
  have : m = 0 ∨ m = 1 ∨ m = 2 := by omega
  rcases this with rfl | rfl | rfl <;> rfl
theorem lks_at2 (hs : s[i]? = some (some (lks .own ks φ))) (hn : keyIx (ks.map Sum.inl) (Sum.inl k) = some n) (hg : ks[n]? = some k) (hk : fk s = .ok (.int k) s') {s'' : Z.St} (hj : fj s = .ok (.int (m : Int)) s'') (hm : m < 3) : lIx i (lIx i (lVar i) fk) fj s = some [n, m] :=
  lIx_eq (q := [n]) (lks_at1 hs hn hk) (lks_get1 hs hg) hj (by simp [idxOf, tri3, ixN3 hm])
theorem rd_lks (hs : s[i]? = some (some (lks .own ks φ))) (hkm : k ∈ ks) (hk : fk s = .ok (.int k) s') {s'' : Z.St} (hj : fj s = .ok (.int (m : Int)) s'') (hm : m < 3) : eRdL i (lIx i (lIx i (lVar i) fk) fj) s = .ok (optP ((φ k).at m)) s := by
  obtain ⟨n, hn, hg⟩ := keyIx_mem hkm
  unfold eRdL
  rw [lks_at2 hs hn hg hk hj hm]
  have : getS s i [n, m] = some (optP ((φ k).at m)) := by
    unfold getS
    rw [hs]
    simp only [lks, getP, mp, List.getElem?_map, hg, Option.map_some, Option.bind_some, tri3]
    rw [tri3_at .own (φ k) hm]; rfl
  simp only [this, optP_nown, if_true]
theorem up_lks (hg : ks[n]? = some k) (nd : ks.Nodup) (hm : m < 3) (v : Option Int) : setP (lks .own ks φ) [n] (.cell .own .lst (([optP (φ k).l, optP (φ k).r, optP (φ k).p] : List PV).set m (optP v))) = lks .own ks (φ.up k m v) := by
  unfold lks
  rw [setP]
  simp only [mp, List.getElem?_map, hg, Option.map_some]
  rw [setP, map_set hg nd]
  congr 1
  refine List.map_congr_left fun x _ => ?_
  by_cases e : x = k
  · subst e
    rw [if_pos rfl]
    unfold Lks.up
    rw [if_pos rfl]
    have : m = 0 ∨ m = 1 ∨ m = 2 := by omega
    rcases this with rfl | rfl | rfl <;> rfl
  · rw [if_neg e]
    unfold Lks.up
    rw [if_neg e]
theorem set_lks (hs : s[i]? = some (some (lks .own ks φ))) (nd : ks.Nodup) (hkm : k ∈ ks) (v : Option Int) (he : fe s = .ok (optP v) s) (hk : fk s = .ok (.int k) s) (hj : fj s = .ok (.int (m : Int)) s) (hm : m < 3) : sSetI i fe (lIx i (lVar i) fk) fj s = .ok .nx (s.set i (some (lks .own ks (φ.up k m v)))) := by
  obtain ⟨n, hn, hg⟩ := keyIx_mem hkm
  unfold sSetI
  rw [he]
  simp only [Rs.bind]
  rw [lks_at1 hs hn hk]
  have hl : lstAt s i [n] = some (lks .own ks φ, [optP (φ k).l, optP (φ k).r, optP (φ k).p]) := by
    unfold lstAt
    rw [hs]
    simp [lks, getP, mp, hg, tri3]
  simp only [hl, hj]
  rw [show ([optP (φ k).l, optP (φ k).r, optP (φ k).p] : List PV).length = 3 from rfl, ixN3 hm]
  simp only
  rw [up_lks hg nd hm v]
def optD : Option Int → PyData
  | some n => .int n
  | none => .none
theorem optP_toD (o : Option Int) : (optP o).toD = some (optD o) := by cases o <;> rfl
theorem eqv_opt (o : Option Int) (x : Int) : PyData.eqv (optD o) (.int x) = decide (o = some x) := by
  cases o with
  | none => simp [optD, PyData.eqv]
  | some y => simp [optD, eqv_int]
theorem optD_shape (a b c : Option Int) : SeqAt.shaped (.list [optD a, optD b, optD c]) = true := by
  cases a <;> cases b <;> cases c <;> rfl
theorem ix_lks (hs : s[i]? = some (some (lks .own ks φ))) (hkm : k ∈ ks) (x : Int) (hk : fk s = .ok (.int k) s) (hx : fx s = .ok (.int x) s) {m : Nat} (hm : (φ k).l = some x ∧ m = 0 ∨ (φ k).l ≠ some x ∧ (φ k).r = some x ∧ m = 1) : eIndexP (pLoc i (lIx i (lVar i) fk)) fx s = .ok (.int (m : Int)) s := by
  obtain ⟨n, hn, hg⟩ := keyIx_mem hkm
  unfold eIndexP pLoc
  rw [lks_at1 hs hn hk]
  simp only [lks_get1 hs hg]
  rw [show (tri3 .own (φ k)).nown = false from rfl]
  have e1 : erQ s (.loc i [n]) = some (tri3 .bw (φ k)) := by
    show (getS s i [n]).map PV.er = _
    rw [lks_get1 hs hg]
    simp [PV.er, tri3_fl]
  simp only [Rs.bind, if_false, Bool.false_eq_true]
  rw [e1]
  simp only [show isLs (tri3 .bw (φ k)) = true from rfl, if_true, hx]
  have e2 : ersQ s [.loc i [n], .int x] = some [tri3 .bw (φ k), .int x] := by
    unfold ersQ
    rw [e1]
    rfl
  rw [e2]
  have e3 : ∀ st : Z.St, cIndex st [tri3 .bw (φ k), .int x] = some (.int (m : Int)) := fun st => by
    unfold cIndex tri3
    simp only [look]
    rw [show (PV.int x).toD = some (.int x) from rfl]
    simp only
    rw [show (PV.cell .fz .lst [optP (φ k).l, optP (φ k).r, optP (φ k).p]).toD = some (.list [optD (φ k).l, optD (φ k).r, optD (φ k).p]) by simp [PV.toD, PV.toDs, optP_toD]]
    simp only
    rw [optD_shape, show SeqAt.shaped (.int x) = true from rfl]
    simp only [Bool.and_self, if_true]
    rcases hm with ⟨h1, rfl⟩ | ⟨h1, h2, rfl⟩
    · simp [ixD, eqv_opt, h1]
    · simp [ixD, eqv_opt, h1, h2]
  simp only [e3]
  rfl
end
theorem runB_rt {mu : List Bool} {N : Nat} {f : Sm} {xs : List PV} {s0 s : Z.St} {y : PV} (h0 : xs.map some ++ List.replicate (N - xs.length) none = s0) (h : f s0 = .ok (.rt y) s) (hy : y.nb = true) (hs : (fin mu s).all nbO = true) : runB mu N f xs = .ok y (fin mu s) := by
  unfold runB; rw [h0, h]; simp only; rw [hy, hs]; rfl
theorem runB_nx {mu : List Bool} {N : Nat} {f : Sm} {xs : List PV} {s0 s : Z.St} (h0 : xs.map some ++ List.replicate (N - xs.length) none = s0) (h : f s0 = .ok .nx s) (hs : (fin mu s).all nbO = true) : runB mu N f xs = .ok .non (fin mu s) := by
  unfold runB; rw [h0, h]; simp only; rw [hs]; rfl
theorem runB_ex {mu : List Bool} {N : Nat} {f : Sm} {xs : List PV} {s0 s : Z.St} {c : Str} (h0 : xs.map some ++ List.replicate (N - xs.length) none = s0) (h : f s0 = .ex c s) (hs : (fin mu s).all nbO = true) : runB mu N f xs = .ex c (fin mu s) := by
  unfold runB; rw [h0, h]; simp only; rw [hs]; rfl
theorem forR1_eq {j : Nat} {f : Z.St → Rs PV} {q : Sm} {s s1 : Z.St} {z : Int} (h : f s = .ok (.int z) s1) (hz : -(2 ^ 62) ≤ z ∧ z < 2 ^ 62) : sForR1 j (aCons f aNil) q s = sForL j q (rangeI 0 z.toNat) s1 := by
  unfold sForR1 aCons; rw [h]; simp only [Rs.bind, aNil]; rw [if_pos hz]
theorem seq_nx {f g : Sm} {s s1 : Z.St} (h : f s = .ok .nx s1) : sSeq f g s = g s1 := by unfold sSeq; rw [h]; rfl
theorem set_ok {f : Z.St → Rs PV} {i : Nat} {s s1 : Z.St} {x : PV} (h : f s = .ok x s1) (hi : i < s1.length) : sSet i f s = .ok .nx (s1.set i (some x)) := by unfold sSet; rw [h]; simp only [Rs.bind]; rw [if_pos hi]
theorem fV_ok {f : Z.St → Rs PV} {s s1 : Z.St} {x : PV} (h : f s = .ok x s1) (hx : x.nown = true) : fV f s = .ok x s1 := by unfold fV; rw [h]; simp [Rs.bind, hx]
theorem eVar_ok {i : Nat} {s : Z.St} {x : PV} (h : s[i]? = some (some x)) (hx : x.nown = true) : eVar i s = .ok x s := by unfold eVar; rw [h]; simp [rdV, hx]
theorem fMove_ok {i : Nat} {s : Z.St} {x : PV} (h : s[i]? = some (some x)) (hx : x.nown = true) : fMove i s = .ok x s := by unfold fMove; rw [h]; simp [hx]
end A
namespace A
open PySem PySem.Spec PyProof.Rows L2 Z
def isiL : List (CT × CT × Bool) := [(.ty "NoneType", .ty "str", false), (.ty "bool", .ty "str", false), (.ty "int", .ty "str", false), (.ty "str", .ty "str", true), (.ty "list", .ty "str", false), (.ty "dict", .ty "str", false), (.ty "tuple", .ty "str", false)]
def isiT (t c : CT) : Option Bool := (isiL.find? fun e => decide (e.1 = t) && decide (e.2.1 = c)).map (·.2.2)
def catL : List (CT × Str × Bool) := []
def catT (c : CT) (n : Str) : Option Bool := (catL.find? fun e => decide (e.1 = c) && decide (e.2.1 = n)).map (·.2.2)
/-- slots: 0 steps 1 kind 2 number -/
def ce1_show_steps : Z.St → Rs PV :=
  (e2 gAdd (eB (e2 gAdd (eVar 1) (eC (.str " ")))) (eCl cStr (aCons (eVar 2) aNil)))
def c1_show_steps : Z.St → Rs PV :=
  (fLc [1, 2] tgtTup (eVar 0) tYesF ce1_show_steps)
def b_show_steps : Sm :=
  (sRet (fV (eJoin (eC (.str " ")) (eB c1_show_steps))))
def run_show_steps : List PV → Fr := runB [false] 3 b_show_steps
/-- slots: 0 _law_cell 1 _law_k 2 _law_number_here -/
def b__law_mixed : Sm :=
  (sSeq (sSet 0 (fV (e2 (gI okMod fun i j => .int (i % j)) (eVar 0) (eC (.int 4611685803679178881)))))
    (sSeq (sSet 2 (fV (e2 (gI okMod fun i j => .int (i % j)) (e2 (gI okMul fun i j => .int (i * j)) (eB (e2 gAdd (eB (e2 gAdd (eB (e2 gAdd (e2 (gI okMul fun i j => .int (i * j)) (eVar 0) (eVar 0)) (e2 (gI okMul fun i j => .int (i * j)) (eC (.int 3)) (eVar 0)))) (e2 (gI okMul fun i j => .int (i * j)) (eC (.int 7919)) (eVar 1)))) (eC (.int 1)))) (eC (.int 48271))) (eC (.int 2147483629)))))
    (sSeq (sSet 2 (fV (e2 (gI okMod fun i j => .int (i % j)) (eB (e2 gAdd (e2 (gI okMul fun i j => .int (i * j)) (eVar 2) (eVar 2)) (eC (.int 7)))) (eC (.int 2147483587)))))
    (sRet (fV (e2 (gI okMod fun i j => .int (i % j)) (e2 (gI okMul fun i j => .int (i * j)) (eVar 2) (eB (e2 gAdd (eVar 2) (eC (.int 69621))))) (eC (.int 2147483563))))))))
def run__law_mixed : List PV → Fr := runB [false, false] 3 b__law_mixed
/-- slots: 0 _law_script 1 _law_cells 2 _law_number_here 3 _law_k -/
def q1__law_purse : Sm :=
  (sKill [3]
    (sSet 2 (e2 gAdd (e2 (gI okMul fun i j => .int (i * j)) (eVar 2) (eC (.int 2147483587))) (eB (callF [] [false, false] run__law_mixed (aCons (e2 gIx (eVar 1) (e2 (gI okMod fun i j => .int (i % j)) (eVar 3) (eCl cLen (aCons (eVar 1) aNil)))) (aCons (eVar 3) aNil)))))))
def l1__law_purse : Sm :=
  (sForR1 3 (aCons (eC (.int 150)) aNil) q1__law_purse)
def b__law_purse : Sm :=
  (sSeq (sSet 1 (fV (eB (e2 gAdd (eB (fCut (eVar 0) oNo (oSo (eC (.int 63))))) (eB (fLst (aCons (fV (eC (.int 0))) aNil)))))))
    (sSeq (sSet 2 (fV (eC (.int 1))))
    (sSeq l1__law_purse
    (sSeq (sIf (tB (e2 gGe (e2 gIx (eVar 1) (eC (.int 0))) (e2 (gI okPow fun i j => .int (i ^ j.toNat)) (eC (.int 10)) (eC (.int 18)))))
    (sRet (fLst (aCons (fV (e2 (gI okDiv fun i j => .int (i / j)) (e2 gIx (eVar 1) (eC (.int 0))) (e2 (gI okPow fun i j => .int (i ^ j.toNat)) (eC (.int 10)) (eC (.int 18))))) (aCons (fMove 2) aNil))))
    sNil)
    (sRet (fLst (aCons (fMove 2) (aCons (fMove 2) aNil))))))))
def run__law_purse : List PV → Fr := runB [false] 4 b__law_purse
/-- slots: 0 _law_purse_here 1 _law_out_of 2 _law_drawn -/
def b__law_draw : Sm :=
  (sSeq (sIf (tB (e2 (gEq id) (e2 gIx (eVar 0) (eC (.int 0))) (eC (.int 0))))
    (sSetI 0 (fV (e2 gIx (eVar 0) (eC (.int 1)))) (lVar 0) (eC (.int 0)))
    sNil)
    (sSeq (sSet 2 (fV (e2 (gI okMod fun i j => .int (i % j)) (e2 gIx (eVar 0) (eC (.int 0))) (eVar 1))))
    (sSeq (sSetI 0 (fV (e2 (gI okDiv fun i j => .int (i / j)) (e2 gIx (eVar 0) (eC (.int 0))) (eVar 1))) (lVar 0) (eC (.int 0)))
    (sRet (fMove 2)))))
def run__law_draw : List PV → Fr := runB [true, false] 3 b__law_draw
/-- slots: 0 _law_purse_here 1 _law_wide -/
def b__law_number : Sm :=
  (sSeq (sSet 1 (fV (e2 gIx (eB (fLst (aCons (fV (eC (.int 3))) (aCons (fV (eC (.int 1000))) (aCons (fV (e2 (gI0 fun i j => .int (i - j)) (e2 (gI okPow fun i j => .int (i ^ j.toNat)) (eC (.int 10)) (eC (.int 9))) (eC (.int 1)))) aNil))))) (eB (callF [0] [true, false] run__law_draw (aCons (eVar 0) (aCons (eC (.int 3)) aNil)))))))
    (sRet (fV (e2 (gI0 fun i j => .int (i - j)) (eB (callF [0] [true, false] run__law_draw (aCons (eVar 0) (aCons (eB (e2 gAdd (e2 (gI okMul fun i j => .int (i * j)) (eC (.int 2)) (eVar 1)) (eC (.int 1)))) aNil)))) (eVar 1)))))
def run__law_number : List PV → Fr := runB [true] 2 b__law_number
/-- slots: 0 _law_steps 1 _law_found 2 _law_kind 3 _law_number_here -/
def q1__law_text_of : Sm :=
  (sKill [2, 3]
    (sSeq (sIf (tB (e2 (gEq not) (eVar 1) (eC (.str ""))))
    (sSet 1 (e2 gAdd (eVar 1) (eC (.str " "))))
    sNil)
    (sSet 1 (e2 gAdd (eB (e2 gAdd (eB (e2 gAdd (eVar 1) (eVar 2))) (eC (.str " ")))) (eCl cStr (aCons (eVar 3) aNil))))))
def l1__law_text_of : Sm :=
  (sFor2 [2, 3] (eVar 0) q1__law_text_of)
def b__law_text_of : Sm :=
  (sSeq (sSet 1 (fV (eC (.str ""))))
    (sSeq l1__law_text_of
    (sRet (fMove 1))))
def run__law_text_of : List PV → Fr := runB [false] 4 b__law_text_of
/-- slots: 0 _law_script 1 _law_purse_here 2 _law_turn 3 _law_steps 4 _law_many 5 _law_k 6 _law_handed 7 _law_some 8 _law_found -/
def q1_law : Sm :=
  (sKill [5]
    (sExpr (eApp 3 (lVar 3) (fTup (aCons (fV (e2 gIx (eB (fLst (aCons (fV (eC (.str "same"))) (aCons (fV (eC (.str "cross"))) (aCons (fV (eC (.str "one"))) (aCons (fV (eC (.str "one"))) (aCons (fV (eC (.str "twice"))) aNil))))))) (eB (callF [1] [true, false] run__law_draw (aCons (eVar 1) (aCons (eC (.int 5)) aNil)))))) (aCons (callF [1] [true] run__law_number (aCons (eVar 1) aNil)) aNil))))))
def l1_law : Sm :=
  (sForR1 5 (aCons (e2 gIx (eVar 4) (e2 gIx (eB (fLst (aCons (fV (eC (.int 0))) (aCons (e2 gAdd (eC (.int 1)) (eB (callF [1] [true, false] run__law_draw (aCons (eVar 1) (aCons (eC (.int 2)) aNil))))) aNil)))) (eCl cIntOf (aCons (e2 (gEq id) (eVar 2) (eC (.int 1))) aNil)))) aNil) q1_law)
def q2_law : Sm :=
  (sKill [7, 8]
    (sSeq (sSet 8 (fV (eB (callF [] [false] run_show_steps (aCons (eVar 7) aNil)))))
    (sIf (tOrF (tNotF (tB (eIsi isiT [(.ty "str")] (eVar 8)))) (tOrF (tB (e2 (gEq not) (eVar 8) (eB (callF [] [false] run__law_text_of (aCons (eVar 7) aNil))))) (tB (e2 (gEq not) (eVar 6) (eVar 3)))))
    (sRet (fV (eC (.bl false))))
    sNil)))
def l2_law : Sm :=
  (sFor 7 (eB (fLst (aCons (fMove 6) (aCons (fCut (eVar 6) oNo (oSo (e2 (gI okDiv fun i j => .int (i / j)) (eCl cLen (aCons (eVar 3) aNil)) (eC (.int 2))))) (aCons (fMove 6) aNil))))) q2_law)
def q3_law : Sm :=
  (sKill [2, 3, 4, 5, 6, 7, 8]
    (sSeq (sSet 3 (fLst aNil))
    (sSeq (sSet 4 (fV (eB (fLst (aCons (callF [1] [true, false] run__law_draw (aCons (eVar 1) (aCons (eC (.int 4)) aNil))) (aCons (callF [1] [true, false] run__law_draw (aCons (eVar 1) (aCons (eC (.int 61)) aNil))) (aCons (e2 gAdd (eC (.int 61)) (eB (callF [1] [true, false] run__law_draw (aCons (eVar 1) (aCons (eC (.int 140)) aNil))))) aNil)))))))
    (sSeq l1_law
    (sSeq (sSet 6 (fV (eB (eCl cList (aCons (eVar 3) aNil)))))
    l2_law)))))
def l3_law : Sm :=
  (sForR1 2 (aCons (eC (.int 4)) aNil) q3_law)
def b_law : Sm :=
  (sSeq (sSet 1 (callF [] [false] run__law_purse (aCons (eVar 0) aNil)))
    (sSeq l3_law
    (sRet (fV (e2 (gEq id) (eB (callF [] [false] run_show_steps (aCons (eB (fLst aNil)) aNil))) (eC (.str "")))))))
def run_law : List PV → Fr := runB [false] 9 b_law
end A
namespace A
open PySem Z
open L2 (atI ixN)
theorem szk : 100000 < sizeLine := by decide
/-! steps -/
def stp (p : Str × Int) : PV := .tup [.str p.1, .int p.2]
theorem nown_stp (l : List (Str × Int)) : PV.nowns (mp stp l) = true := nowns_map (fun _ => rfl) l
theorem stp_snoc (l : List (Str × Int)) (a : Str) (b : Int) : mp stp l ++ [PV.tup [.str a, .int b]] = mp stp (l ++ [(a, b)]) := mp_app (g := stp) l [(a, b)]
/-! the rules -/
theorem eqP_str {a b : Str} (ha : PyData.strOk a = true) (hb : PyData.strOk b = true) : eqP (.str a) (.str b) = some (decide (a = b)) :=
  eqP_mk rfl rfl (by unfold SeqAt.shaped; rw [PyData.canLay0, ha]; rfl) (by unfold SeqAt.shaped; rw [PyData.canLay0, hb]; rfl) (eqv_str a b)
/-! ### what is drawn -/
abbrev pu (a c : Int) : PV := .cell .own .lst [.int a, .int c]
def dA (a c : Int) : Int := if a = 0 then c else a
theorem drawn (a c k : Int) (hk : 0 < k) : 0 ≤ dA a c % k ∧ dA a c % k < k := ⟨Int.emod_nonneg _ (by omega), Int.emod_lt_of_pos _ hk⟩
/-! ### the purse -/
theorem okMul_l {i j : Int} (h : -(2 ^ 64) < i ∧ i < 2 ^ 64) : okMul i j = true := by unfold okMul; rw [decide_eq_true h]; rfl
theorem okMul_r {i j : Int} (h : -(2 ^ 64) < j ∧ j < 2 ^ 64) : okMul i j = true := by unfold okMul; rw [decide_eq_true h]; simp
theorem pow9 (s : Z.St) : gI okPow (fun i j => .int (i ^ j.toNat)) s (.int 10) (.int 9) = some (.int 1000000000) := rfl
theorem range_mp (n : Nat) : rangeI 0 n = mp PV.int ((List.range n).map fun k : Nat => (k : Int)) := by simp [rangeI, mp]
/-! ### equal things -/
theorem eqP_same {x y : PV} {d : PyData} (hx : x.toD = some d) (hy : y.toD = some d) (h : SeqAt.shaped d = true) : eqP x y = some true := by
  refine eqP_mk hx hy h h ?_
  unfold SeqAt.shaped at h
  exact SeqAt.eqv_refl d (Bool.and_eq_true_iff.mp h).1
def one (p : Str) : Bool := decide (p = "one")
/-! ### splits: the plain side -/
theorem way_nil {n : Int} {t : Tr} (h : t.way n = []) : t = .nil := by
  cases t with
  | nil => rfl
  | node l x r => simp [Tr.way] at h
theorem getLast_cons {x y : Int} {l : List Int} (h : (x :: l).getLast? = some y) : l = [] ∧ y = x ∨ l.getLast? = some y := by
  cases l with
  | nil => exact .inl ⟨rfl, by simpa using h.symm⟩
  | cons z l => exact .inr (by simpa [List.getLast?_cons] using h)
theorem max_mem {l : List Int} {m : Int} (h : maxL l = some m) : m ∈ l ∧ ∀ y ∈ l, y ≤ m := by
  cases l with
  | nil => cases h
  | cons n ns =>
    cases h
    obtain ⟨h1, h2, h3⟩ := foldl_max ns n
    refine ⟨?_, fun y m => ?_⟩
    · rcases h1 with h1 | h1
      · rw [h1]; exact List.mem_cons_self
      · exact List.mem_cons_of_mem _ h1
    · rcases List.mem_cons.mp m with rfl | m
      · exact h2
      · exact h3 y m
abbrev Rw := (Str × Int) × Int × Int
def datB : Nat → PV → Bool
  | _, .non => true
  | _, .bl _ => true
  | _, .int _ => true
  | _, .str s => PyData.strOk s
  | k + 1, .cell _ .lst xs => xs.all (datB k)
  | k + 1, .tup xs => xs.all (datB k)
  | _, _ => false
theorem datB_all {k : Nat} (ih : ∀ x, datB k x = true → ∃ d, x.toD = some d ∧ d.canLay0 = true ∧ d.depth ≤ k) : ∀ xs : List PV, xs.all (datB k) = true → ∃ ds, PV.toDs xs = some ds ∧ PyData.canLayAll0 ds = true ∧ PyData.depthAll ds ≤ k
  | [], _ => ⟨[], rfl, rfl, Nat.zero_le _⟩
  | x :: xs, h => by
    rw [List.all_cons, Bool.and_eq_true] at h
    obtain ⟨d, h1, h2, h3⟩ := ih x h.1
    obtain ⟨ds, e1, e2', e3⟩ := datB_all ih xs h.2
    refine ⟨d :: ds, by rw [PV.toDs, h1, e1], by rw [PyData.canLayAll0, h2, e2']; rfl, ?_⟩
    rw [PyData.depthAll]; omega
theorem datB_toD : ∀ (k : Nat) (x : PV), datB k x = true → ∃ d, x.toD = some d ∧ d.canLay0 = true ∧ d.depth ≤ k
  | _, .non, _ => ⟨_, rfl, rfl, by simp [PyData.depth]⟩
  | _, .bl _, _ => ⟨_, rfl, rfl, by simp [PyData.depth]⟩
  | _, .int _, _ => ⟨_, rfl, rfl, by simp [PyData.depth]⟩
  | _, .str s, h => ⟨_, rfl, by rw [PyData.canLay0]; simpa [datB] using h, by simp [PyData.depth]⟩
  | 0, .cell _ _ _, h => by simp [datB] at h
  | 0, .tup _, h => by simp [datB] at h
  | k + 1, .cell f .lst xs, h => by
    rw [datB] at h
    obtain ⟨ds, e1, e2', e3⟩ := datB_all (datB_toD k) xs h
    exact ⟨.list ds, by rw [PV.toD, e1]; rfl, by rw [PyData.canLay0]; exact e2', by rw [PyData.depth]; omega⟩
  | k + 1, .tup xs, h => by
    rw [datB] at h
    obtain ⟨ds, e1, e2', e3⟩ := datB_all (datB_toD k) xs h
    exact ⟨.tuple ds, by rw [PV.toD, e1]; rfl, by rw [PyData.canLay0]; exact e2', by rw [PyData.depth]; omega⟩
  | _, .cl _, h => by simp [datB] at h
  | _, .exc _, h => by simp [datB] at h
  | _, .obj _, h => by simp [datB] at h
  | _, .loc _ _, h => by simp [datB] at h
  | k + 1, .cell f (.dK _) xs, h => by simp [datB] at h
  | k + 1, .cell f (.dT _) xs, h => by simp [datB] at h
  | k + 1, .cell f (.ins _ _) xs, h => by simp [datB] at h
theorem eqP_dat {x y : PV} (h : datB 50 x = true) (e : y.toD = x.toD) : eqP x y = some true := by
  obtain ⟨d, h1, h2, h3⟩ := datB_toD 50 x h
  refine eqP_same h1 (e.trans h1) ?_
  unfold SeqAt.shaped
  rw [h2, decide_eq_true (by omega)]; rfl
theorem datB_mp {α : Type} {g : α → PV} {k : Nat} {l : List α} (h : ∀ a ∈ l, datB k (g a) = true) : (mp g l).all (datB k) = true := by
  rw [List.all_eq_true]
  intro x m
  obtain ⟨a, m2, rfl⟩ := List.mem_map.mp m
  exact h a m2
theorem datB_stp (k : Nat) {r : Str × Int} (h : PyData.strOk r.1 = true) : datB (k + 1) (stp r) = true := by
  cases k <;> simp [stp, datB, h]
/-! ### accounts as data -/
structure Ac where
  t : List Int
  rows : List (List Rw)
  m : Int
  b : Int
structure Ac.ok (A : Ac) : Prop where
  t : A.t.length ≤ 100
  r : A.rows.length ≤ 100
  w : ∀ r ∈ A.rows, r.length ≤ 300 ∧ ∀ w ∈ r, PyData.strOk w.1.1 = true
theorem for_sameG {α : Type} {e : α → PV} {j : Nat} {q : Sm} {s : Z.St} (hs : j < s.length) : ∀ (l : List α), (∀ y ∈ l, q (s.set j (some (e y))) = .ok .nx s) → sForL j q (mp e l) s = .ok .nx s
  | [], _ => rfl
  | y :: l, h => by
    rw [mp_cons, for_go hs (h y List.mem_cons_self)]
    exact for_sameG hs l fun y m => h y (List.mem_cons_of_mem _ m)
/-! ### trees of places -/
def rg (a b : Int) : List Int := (List.range (b - a).toNat).map fun k : Nat => a + (k : Int)
theorem rg_len (a b : Int) : (rg a b).length = (b - a).toNat := by simp [rg]
theorem rg_mem {a b x : Int} : x ∈ rg a b ↔ a ≤ x ∧ x < b := by
  simp only [rg, List.mem_map, List.mem_range]
  constructor
  · rintro ⟨k, h, rfl⟩; omega
  · intro h
    exact ⟨(x - a).toNat, by omega, by omega⟩
theorem rg_get {a b : Int} {k : Nat} (h : k < (rg a b).length) : (rg a b)[k] = a + (k : Int) := by simp [rg]
theorem rg_ext {a b : Int} {l : List Int} (hl : l.length = (b - a).toNat) (h : ∀ k (hk : k < l.length), l[k] = a + (k : Int)) : l = rg a b := by
  refine List.ext_getElem (by rw [hl, rg_len]) fun k h1 h2 => ?_
  rw [h k h1, rg_get h2]
theorem rg_app {a n b : Int} (h1 : a ≤ n) (h2 : n ≤ b) : rg a b = rg a n ++ rg n b := by
  refine (rg_ext (by simp only [List.length_append, rg_len]; omega) fun k hk => ?_).symm
  by_cases c : k < (rg a n).length
  · rw [List.getElem_append_left c, rg_get]
  · rw [List.getElem_append_right (by omega), rg_get]
    rw [rg_len] at c ⊢
    omega
structure Sp (t : Tr) (a b : Int) : Prop where
  ok : t.ok
  i : t.ino = rg a b
theorem Sp.mem {t : Tr} {a b x : Int} (h : Sp t a b) : x ∈ t.pre ↔ a ≤ x ∧ x < b := by rw [← Tr.mem_ino, h.i, rg_mem]
theorem Sp.len {t : Tr} {a b : Int} (h : Sp t a b) : t.pre.length = (b - a).toNat := by rw [← (Tr.perm_ino t).length_eq, h.i, rg_len]
theorem Sp.size {t : Tr} {a b : Int} (h : Sp t a b) : t.size = (b - a).toNat := by rw [← Tr.len_pre, h.len]
theorem Sp.lt {s t : Tr} {a n b : Int} (h : Sp s a n) (g : Sp t n b) : ∀ x ∈ s.pre, ∀ y ∈ t.pre, x < y := fun x m y m' => by
  have := (h.mem.mp m).2
  have := (g.mem.mp m').1
  omega
theorem Sp.node {l r : Tr} {a n b : Int} (h : Sp l a n) (g : Sp r (n + 1) b) (h1 : a ≤ n) (h2 : n < b) (hb : b - a ≤ 60) (hn : n.natAbs < 1000000000) : Sp (.node l n r) a b := by
  have s1 := h.size
  have s2 := g.size
  refine ⟨⟨⟨h.ok.b, g.ok.b, fun y m => (h.mem.mp m).2, fun y m => by have := (g.mem.mp m).1; omega⟩, fun y m => ?_, by simp [Tr.size]; omega⟩, ?_⟩
  · simp only [Tr.pre, List.mem_cons, List.mem_append] at m
    rcases m with rfl | m | m
    · exact hn
    · exact h.ok.n y m
    · exact g.ok.n y m
  · rw [Tr.ino, h.i, g.i, rg_app (a := a) (n := n) (b := b) h1 (by omega), rg_app (a := n) (n := n + 1) (b := b) (by omega) (by omega)]
    have : rg n (n + 1) = [n] := by simp [rg, show (n + 1 - n).toNat = 1 by omega]
    rw [this]; simp
/-! ### texts -/
theorem Str.len_app (a b : Str) : (a ++ b).length = a.length + b.length := by
  show (a.cps ++ b.cps).size = _
  rw [Array.size_append]; rfl
theorem Str.app_assoc (a b c : Str) : a ++ b ++ c = a ++ (b ++ c) := by
  show Str.mk (a.cps ++ b.cps ++ c.cps) = Str.mk (a.cps ++ (b.cps ++ c.cps))
  rw [Array.append_assoc]
theorem strOk_ofString (s : String) : PyData.strOk (Str.ofString s) = true := by
  rw [Str.ofString_eq_toList]
  unfold PyData.strOk
  simp only [List.all_toArray, List.all_map, List.all_eq_true, Function.comp, decide_eq_true_eq]
  intro c _
  have := c.valid
  have h2 : c.toNat < 0x110000 := by
    rcases this with h | ⟨_, h⟩
    · show c.val.toNat < _; omega
    · show c.val.toNat < _; omega
  exact h2
theorem strOk_app {a b : Str} (ha : PyData.strOk a = true) (hb : PyData.strOk b = true) : PyData.strOk (a ++ b) = true := by
  show (a.cps ++ b.cps).all _ = true
  rw [Array.all_append, Bool.and_eq_true]
  exact ⟨ha, hb⟩
/-- a number's text -/
def numTx (i : Int) : Str := Str.ofString (toString i)
theorem numTx_ok (i : Int) : PyData.strOk (numTx i) = true := strOk_ofString _
theorem numTx_len {i : Int} (h : i.natAbs < 10000000000) : (numTx i).length ≤ 11 := by
  have := int_text_length_le10 (a := i) (k := 10) (by decide) h
  unfold numTx
  rw [Str.ofString_eq_toList]
  show (List.map Char.toNat (toString i).toList).toArray.size ≤ 11
  rw [List.size_toArray, List.length_map, String.length_toList]
  exact this
theorem numTx_log {i : Int} (h : i.natAbs < 10000000000) : i.natAbs.log2 < 1920 := by
  by_cases h0 : i.natAbs = 0
  · rw [h0]; decide
  · refine (Nat.log2_lt h0).mpr (Nat.lt_of_lt_of_le h ?_)
    exact Nat.le_trans (by decide : 10000000000 ≤ 2 ^ 64) (Nat.pow_le_pow_right (by decide) (by decide))
theorem cStr_int (s : Z.St) {i : Int} (h : i.natAbs < 10000000000) : cStr s [.int i] = some (.str (numTx i)) := by
  unfold cStr
  simp only [look, numTx_log h, if_true]
  rfl
def spTx : Str := " "
theorem spTx_len : spTx.length = 1 := by decide +kernel
theorem spTx_ok : PyData.strOk spTx = true := by decide +kernel
/-- one step's text -/
def stpTx (a : Str × Int) : Str := a.1 ++ spTx ++ numTx a.2
structure StpOk (a : Str × Int) : Prop where
  o : PyData.strOk a.1 = true
  l : a.1.length ≤ 10
  n : a.2.natAbs < 10000000000
theorem stpTx_ok {a : Str × Int} (h : StpOk a) : PyData.strOk (stpTx a) = true := strOk_app (strOk_app h.o spTx_ok) (numTx_ok _)
theorem stpTx_len {a : Str × Int} (h : StpOk a) : (stpTx a).length ≤ 22 := by
  unfold stpTx
  have := numTx_len h.n
  have := h.l
  rw [Str.len_app, Str.len_app, spTx_len]
  omega
def glueTx (acc : Str) : List (Str × Int) → Str
  | [] => acc
  | a :: l => glueTx (acc ++ spTx ++ stpTx a) l
def rowTx : List (Str × Int) → Str
  | [] => Str.empty
  | a :: l => glueTx (stpTx a) l
theorem glueTx_fold : ∀ (l : List (Str × Int)) (acc : Str), glueTx acc l = ⟨(l.map stpTx).foldl (fun acc p => acc ++ spTx.cps ++ p.cps) acc.cps⟩
  | [], acc => rfl
  | a :: l, acc => by
    rw [glueTx, glueTx_fold l, List.map_cons, List.foldl_cons]
    rfl
theorem glueTx_ok : ∀ (l : List (Str × Int)) (acc : Str), (∀ a ∈ l, StpOk a) → PyData.strOk acc = true → PyData.strOk (glueTx acc l) = true
  | [], acc, _, h => h
  | a :: l, acc, hl, h => glueTx_ok l _ (fun b m => hl b (List.mem_cons_of_mem _ m)) (strOk_app (strOk_app h spTx_ok) (stpTx_ok (hl a List.mem_cons_self)))
theorem rowTx_ok {l : List (Str × Int)} (h : ∀ a ∈ l, StpOk a) : PyData.strOk (rowTx l) = true := by
  cases l with
  | nil => decide +kernel
  | cons a l => exact glueTx_ok l _ (fun b m => h b (List.mem_cons_of_mem _ m)) (stpTx_ok (h a List.mem_cons_self))
theorem sumTx_len : ∀ l : List (Str × Int), (∀ a ∈ l, StpOk a) → ((l.map stpTx).map (·.length)).sum ≤ 22 * l.length
  | [], _ => by simp
  | a :: l, h => by
    have h1 := sumTx_len l fun b m => h b (List.mem_cons_of_mem _ m)
    have h2 := stpTx_len (h a List.mem_cons_self)
    simp only [List.map_cons, List.sum_cons, List.length_cons]
    omega
theorem addP_str (a b : Str) (h : a.length + b.length ≤ sizeLine) : addP (.str a) (.str b) = some (.str (a ++ b)) := by
  unfold addP
  simp [h]
theorem stp_e {a : Str × Int} (h : StpOk a) {s : Z.St} {i j : Nat} (h1 : s[i]? = some (some (.str a.1))) (h2 : s[j]? = some (some (.int a.2))) : (e2 gAdd (eB (e2 gAdd (eVar i) (eC (.str " ")))) (eCl cStr (aCons (eVar j) aNil))) s = .ok (.str (stpTx a)) s := by
  have hz := szk
  have l1 := h.l
  have l2 := spTx_len
  have l3 := numTx_len h.n
  have a1 := addP_str a.1 spTx (by omega)
  have a2 := addP_str (a.1 ++ spTx) (numTx a.2) (by rw [Str.len_app]; omega)
  have c := cStr_int s h.n
  have : (" " : Str) = spTx := rfl
  rw [this]
  simp [h1, h2, a1, a2, c, stpTx, Rs.bind, ofO, sSeq, sSet, sNil, sKill, kill, sExpr, sIf, sRet, sRetN, sRaise, sUnG, selT, selL, setAll, sAug, eVar, eC, eB, fV, fMove, PV.give, PV.nb, PV.nbs, PV.nown, PV.nowns, PV.fl, PV.fls, rdV, aNil, aCons, e2, tB, tNotF, tAndF, tOrF, eNot, eAnd, eOr, eIf, gI0, eNeg, fLst, fTup, eTup, eCl, cInt, cInt2, cLen, cList, callF, argsOf, argOf, lookP, okLocs, mutSlots, locSlots, putBack, putB1, back, getP, setP, lVar, lstAt, runB, fin, nbO, look, itemsOf, gCut, oSo, oNo, gIsN, isNon, fCut, nown_ints, nbs_ints, fls_ints, toDs_ints, addP_nm, addP_1L, addP_2L, addP_L1, ints_mp, mp_len, mp_app, mp_take, mp_drop, mp_cut, mp_dropLast, mp_getLast, ePop_P, mp_atI, gEq_P, eqP_int, eqP_bl, eqP_nm, eqP_nil, gIx_P, ixP_nm, gAdd_P, addP_int, mp_snoc, mp_pcons, sz0, sz1, sz2, sz3, sz5, sz8]
theorem str_ne_empty {x : Str} (h : 0 < x.length) : x ≠ ("" : Str) := fun e => by
  rw [e] at h
  exact absurd h (by decide +kernel)
theorem stpTx_pos (a : Str × Int) : 0 < (stpTx a).length := by
  unfold stpTx
  have := spTx_len
  rw [Str.len_app, Str.len_app]
  omega
theorem at3n43 (i : Int) (h : 0 ≤ i ∧ i < 3) : ∃ m : Int, atI [PV.int 3, PV.int 1000, PV.int 999999999] i = some (.int m) ∧ 0 ≤ m ∧ m ≤ 999999999 := by
  have : i = 0 ∨ i = 1 ∨ i = 2 := by omega
  rcases this with rfl | rfl | rfl
  · exact ⟨3, rfl, by decide, by decide⟩
  · exact ⟨1000, rfl, by decide, by decide⟩
  · exact ⟨999999999, rfl, by decide, by decide⟩
def kinds5 : List Str := ["same", "cross", "one", "one", "twice"]
theorem kinds5_ok : ∀ k ∈ kinds5, PyData.strOk k = true ∧ k.length ≤ 10 := by decide +kernel
theorem at5s43 (i : Int) (h : 0 ≤ i ∧ i < 5) : ∃ k : Str, atI [PV.str "same", PV.str "cross", PV.str "one", PV.str "one", PV.str "twice"] i = some (.str k) ∧ k ∈ kinds5 := by
  have : i = 0 ∨ i = 1 ∨ i = 2 ∨ i = 3 ∨ i = 4 := by omega
  rcases this with rfl | rfl | rfl | rfl | rfl
  · exact ⟨"same", rfl, by simp [kinds5]⟩
  · exact ⟨"cross", rfl, by simp [kinds5]⟩
  · exact ⟨"one", rfl, by simp [kinds5]⟩
  · exact ⟨"one", rfl, by simp [kinds5]⟩
  · exact ⟨"twice", rfl, by simp [kinds5]⟩
def sG43 (S P : PV) (x2 x3 x4 x5 x6 x7 x8 : Option PV) : Z.St := [some S, some P, x2, x3, x4, x5, x6, x7, x8]
theorem is_SS43 : isiAny isiT (.ty "str") [.ty "str"] = some true := by decide +kernel
abbrev stF (f : Fl) (l : List (Str × Int)) : PV := .cell f .lst (mp stp l)
theorem stF_nbs (l : List (Str × Int)) : PV.nbs (mp stp l) = true := nbs_map (fun _ => rfl) l
theorem stF_fls (l : List (Str × Int)) : PV.fls .fz (mp stp l) = mp stp l := fls_mapE (fun _ => rfl) l
theorem stF_nowns (l : List (Str × Int)) : PV.nowns (mp stp l) = true := nowns_map (fun _ => rfl) l
theorem eqP_stF (f g : Fl) {l : List (Str × Int)} (h : ∀ a ∈ l, StpOk a) : eqP (stF f l) (stF g l) = some true := by
  refine eqP_dat ?_ ?_
  · show datB 50 (.cell f .lst (mp stp l)) = true
    unfold datB
    exact datB_mp fun a m => datB_stp 48 (h a m).o
  · rfl
theorem draw_eq (a c k : Int) (hk : 0 < k) (hk2 : k < 2 ^ 64) : run__law_draw [pu a c, .int k] = .ok (.int (dA a c % k)) [some (pu (dA a c / k) c), none] := by
  have h1 : ∀ z : Int, atI [PV.int z, PV.int c] 0 = some (.int z) := fun z => atI_0 _ _
  have h2 : ∀ z : Int, atI [PV.int z, PV.int c] 1 = some (.int c) := fun z => rfl
  have h3 : ixN 2 0 = some 0 := rfl
  have h4 : okDiv 0 k = true := by
    unfold okDiv
    rw [decide_eq_true hk, Bool.true_and]
    apply decide_eq_true
    have : k.natAbs < 2 ^ 64 := by omega
    have := Nat.log2_lt (n := k.natAbs) (k := 64) (by omega) |>.mpr this
    omega
  have h5 : ∀ z, okDiv z k = true := fun z => h4
  have h6 : ∀ z, okMod z k = true := fun z => decide_eq_true hk
  unfold dA
  by_cases e : a = 0
  · simp [run__law_draw, b__law_draw, sSetI, ixP_lst, gI, h1, h2, h3, h5, h6, e, Rs.bind, ofO, sSeq, sSet, sNil, sKill, kill, sExpr, sIf, sRet, sRetN, sRaise, sUnG, selT, selL, setAll, sAug, eVar, eC, eB, fV, fMove, PV.give, PV.nb, PV.nbs, PV.nown, PV.nowns, PV.fl, PV.fls, rdV, aNil, aCons, e2, tB, tNotF, tAndF, tOrF, eNot, eAnd, eOr, eIf, gI0, eNeg, fLst, fTup, eTup, eCl, cInt, cInt2, cLen, cList, callF, argsOf, argOf, lookP, okLocs, mutSlots, locSlots, putBack, putB1, back, getP, setP, lVar, lstAt, runB, fin, nbO, look, itemsOf, gCut, oSo, oNo, gIsN, isNon, fCut, nown_ints, nbs_ints, fls_ints, toDs_ints, addP_nm, addP_1L, addP_2L, addP_L1, ints_mp, mp_len, mp_app, mp_take, mp_drop, mp_cut, mp_dropLast, mp_getLast, ePop_P, mp_atI, gEq_P, eqP_int, eqP_bl, eqP_nm, eqP_nil, gIx_P, ixP_nm, gAdd_P, addP_int, mp_snoc, mp_pcons, sz0, sz1, sz2, sz3, sz5, sz8]
  · simp [run__law_draw, b__law_draw, sSetI, ixP_lst, gI, h1, h2, h3, h5, h6, e, Rs.bind, ofO, sSeq, sSet, sNil, sKill, kill, sExpr, sIf, sRet, sRetN, sRaise, sUnG, selT, selL, setAll, sAug, eVar, eC, eB, fV, fMove, PV.give, PV.nb, PV.nbs, PV.nown, PV.nowns, PV.fl, PV.fls, rdV, aNil, aCons, e2, tB, tNotF, tAndF, tOrF, eNot, eAnd, eOr, eIf, gI0, eNeg, fLst, fTup, eTup, eCl, cInt, cInt2, cLen, cList, callF, argsOf, argOf, lookP, okLocs, mutSlots, locSlots, putBack, putB1, back, getP, setP, lVar, lstAt, runB, fin, nbO, look, itemsOf, gCut, oSo, oNo, gIsN, isNon, fCut, nown_ints, nbs_ints, fls_ints, toDs_ints, addP_nm, addP_1L, addP_2L, addP_L1, ints_mp, mp_len, mp_app, mp_take, mp_drop, mp_cut, mp_dropLast, mp_getLast, ePop_P, mp_atI, gEq_P, eqP_int, eqP_bl, eqP_nm, eqP_nil, gIx_P, ixP_nm, gAdd_P, addP_int, mp_snoc, mp_pcons, sz0, sz1, sz2, sz3, sz5, sz8]
/-! ### the purse (second family) -/
theorem mixed_eq (x k : Int) (hk : 0 ≤ k ∧ k < 150) : ∃ v : Int, run__law_mixed [.int x, .int k] = .ok (.int v) [none, none] := by
  have m1 : ∀ i : Int, okMod i 4611685803679178881 = true := fun i => by unfold okMod; decide
  have m2 : ∀ i : Int, okMod i 2147483629 = true := fun i => by unfold okMod; decide
  have m3 : ∀ i : Int, okMod i 2147483587 = true := fun i => by unfold okMod; decide
  have b1 := Int.emod_nonneg x (b := 4611685803679178881) (by decide)
  have b2 := Int.emod_lt_of_pos x (b := 4611685803679178881) (by decide)
  have u1 : okMul (x % 4611685803679178881) (x % 4611685803679178881) = true := okMul_l (by omega)
  have u2 : ∀ j, okMul 3 j = true := fun j => okMul_l (by decide)
  have u3 : ∀ j, okMul 7919 j = true := fun j => okMul_l (by decide)
  have u4 : ∀ j, okMul j 48271 = true := fun j => okMul_r (by decide)
  have m4 : ∀ i : Int, okMod i 2147483563 = true := fun i => by unfold okMod; decide
  have u6 : ∀ i j : Int, okMul (i % 2147483587) j = true := fun i j => okMul_l (by omega)
  have u5 : ∀ j : Int, okMul (j % 2147483629) (j % 2147483629) = true := fun j => okMul_l (by omega)
  exact ⟨_, by simp [run__law_mixed, b__law_mixed, gI, m1, m4, u6, m2, m3, u1, u2, u3, u4, u5, Rs.bind, ofO, sSeq, sSet, sNil, sKill, kill, sExpr, sIf, sRet, sRetN, sRaise, sUnG, selT, selL, setAll, sAug, eVar, eC, eB, fV, fMove, PV.give, PV.nb, PV.nbs, PV.nown, PV.nowns, PV.fl, PV.fls, rdV, aNil, aCons, e2, tB, tNotF, tAndF, tOrF, eNot, eAnd, eOr, eIf, gI0, eNeg, fLst, fTup, eTup, eCl, cInt, cInt2, cLen, cList, callF, argsOf, argOf, lookP, okLocs, mutSlots, locSlots, putBack, putB1, back, getP, setP, lVar, lstAt, runB, fin, nbO, look, itemsOf, gCut, oSo, oNo, gIsN, isNon, fCut, nown_ints, nbs_ints, fls_ints, toDs_ints, addP_nm, addP_1L, addP_2L, addP_L1, ints_mp, mp_len, mp_app, mp_take, mp_drop, mp_cut, mp_dropLast, mp_getLast, ePop_P, mp_atI, gEq_P, eqP_int, eqP_bl, eqP_nm, eqP_nil, gIx_P, ixP_nm, gAdd_P, addP_int, mp_snoc, mp_pcons, sz0, sz1, sz2, sz3, sz5, sz8]; rfl⟩
theorem purse_eq (ns : List Int) (h : ns.length ≤ 63) : ∃ a c, run__law_purse [.cl (ns.map PV.int)] = .ok (pu a c) [none] := by
  have hc : cutA (mp PV.int ns) none (some 63) = mp PV.int ns := by
    have := cutA_to (mp PV.int ns) 63
    rw [show ((63 : Nat) : Int) = 63 from rfl] at this
    rw [this]; exact List.take_of_length_le (by rw [mp_len]; exact h)
  have hz := szk
  generalize hl : ns ++ [0] = l
  have hll : l.length = ns.length + 1 := by rw [← hl]; simp
  have key : ∀ (ks : List Int) (n : Int), (∀ k ∈ ks, 0 ≤ k ∧ k < 150) → ∃ n', sForL 3 q1__law_purse (mp PV.int ks) [some (.cl (mp PV.int ns)), some (nm .fz l), some (.int n), none] = .ok .nx [some (.cl (mp PV.int ns)), some (nm .fz l), some (.int n'), none] := by
    intro ks
    induction ks with
    | nil => intro n _; exact ⟨n, rfl⟩
    | cons k ks ih =>
      intro n hk
      have hk1 := hk k List.mem_cons_self
      have g1 := Int.emod_nonneg k (b := (l.length : Int)) (by omega)
      have g2 := Int.emod_lt_of_pos k (b := (l.length : Int)) (by omega)
      obtain ⟨i, hi⟩ : ∃ i : Nat, k % (l.length : Int) = (i : Int) := ⟨(k % (l.length : Int)).toNat, (Int.toNat_of_nonneg g1).symm⟩
      have hil : i < l.length := by omega
      obtain ⟨v, hv⟩ := mixed_eq l[i] k hk1
      obtain ⟨n', e⟩ := ih (n * 2147483587 + v) fun j m => hk j (List.mem_cons_of_mem _ m)
      refine ⟨n', ?_⟩
      have m1 : okMod k (l.length : Int) = true := decide_eq_true (by omega)
      have m2 : ∀ j, okMul j 2147483587 = true := fun j => okMul_r (by decide)
      rw [mp_cons, for_go (s2 := [some (.cl (mp PV.int ns)), some (nm .fz l), some (.int (n * 2147483587 + v)), none]) (by simp) (by simp [q1__law_purse, gI, m1, m2, hi, atI_nat hil, hv, Rs.bind, ofO, sSeq, sSet, sNil, sKill, kill, sExpr, sIf, sRet, sRetN, sRaise, sUnG, selT, selL, setAll, sAug, eVar, eC, eB, fV, fMove, PV.give, PV.nb, PV.nbs, PV.nown, PV.nowns, PV.fl, PV.fls, rdV, aNil, aCons, e2, tB, tNotF, tAndF, tOrF, eNot, eAnd, eOr, eIf, gI0, eNeg, fLst, fTup, eTup, eCl, cInt, cInt2, cLen, cList, callF, argsOf, argOf, lookP, okLocs, mutSlots, locSlots, putBack, putB1, back, getP, setP, lVar, lstAt, runB, fin, nbO, look, itemsOf, gCut, oSo, oNo, gIsN, isNon, fCut, nown_ints, nbs_ints, fls_ints, toDs_ints, addP_nm, addP_1L, addP_2L, addP_L1, ints_mp, mp_len, mp_app, mp_take, mp_drop, mp_cut, mp_dropLast, mp_getLast, ePop_P, mp_atI, gEq_P, eqP_int, eqP_bl, eqP_nm, eqP_nil, gIx_P, ixP_nm, gAdd_P, addP_int, mp_snoc, mp_pcons, sz0, sz1, sz2, sz3, sz5, sz8]), e]
  have hr : rangeI 0 150 = mp PV.int ((List.range 150).map fun (i : Nat) => (i : Int)) := by
    unfold rangeI mp; rw [List.map_map]; congr 1; funext i; simp
  obtain ⟨n', e⟩ := key ((List.range 150).map fun (i : Nat) => (i : Int)) 1 (by intro k hk; obtain ⟨i, hi, rfl⟩ := List.mem_map.mp hk; have := List.mem_range.mp hi; omega)
  have hp : okPow 10 18 = true := by decide
  have h0 : ∃ z, atI l 0 = some z := by
    cases l with
    | nil => simp at hll
    | cons z l => exact ⟨z, atI_0 _ _⟩
  obtain ⟨z, h0⟩ := h0
  show ∃ a c, run__law_purse [.cl (mp PV.int ns)] = _
  have hdv : okDiv z 1000000000000000000 = true := by unfold okDiv; decide +kernel
  by_cases c1 : 1000000000000000000 ≤ z
  · exact ⟨z / 1000000000000000000, n', by simp (disch := first | omega | (simp only [List.length_append, List.length_cons, List.length_nil, Tr.pre]; omega)) [run__law_purse, b__law_purse, l1__law_purse, sForR1, hc, hl, hr, e, gI, hp, h0, c1, hdv, Rs.bind, ofO, sSeq, sSet, sNil, sKill, kill, sExpr, sIf, sRet, sRetN, sRaise, sUnG, selT, selL, setAll, sAug, eVar, eC, eB, fV, fMove, PV.give, PV.nb, PV.nbs, PV.nown, PV.nowns, PV.fl, PV.fls, rdV, aNil, aCons, e2, tB, tNotF, tAndF, tOrF, eNot, eAnd, eOr, eIf, gI0, eNeg, fLst, fTup, eTup, eCl, cInt, cInt2, cLen, cList, callF, argsOf, argOf, lookP, okLocs, mutSlots, locSlots, putBack, putB1, back, getP, setP, lVar, lstAt, runB, fin, nbO, look, itemsOf, gCut, oSo, oNo, gIsN, isNon, fCut, nown_ints, nbs_ints, fls_ints, toDs_ints, addP_nm, addP_1L, addP_2L, addP_L1, ints_mp, mp_len, mp_app, mp_take, mp_drop, mp_cut, mp_dropLast, mp_getLast, ePop_P, mp_atI, gEq_P, eqP_int, eqP_bl, eqP_nm, eqP_nil, gIx_P, ixP_nm, gAdd_P, addP_int, mp_snoc, mp_pcons, sz0, sz1, sz2, sz3, sz5, sz8]⟩
  · exact ⟨n', n', by simp (disch := first | omega | (simp only [List.length_append, List.length_cons, List.length_nil, Tr.pre]; omega)) [run__law_purse, b__law_purse, l1__law_purse, sForR1, hc, hl, hr, e, gI, hp, h0, c1, Rs.bind, ofO, sSeq, sSet, sNil, sKill, kill, sExpr, sIf, sRet, sRetN, sRaise, sUnG, selT, selL, setAll, sAug, eVar, eC, eB, fV, fMove, PV.give, PV.nb, PV.nbs, PV.nown, PV.nowns, PV.fl, PV.fls, rdV, aNil, aCons, e2, tB, tNotF, tAndF, tOrF, eNot, eAnd, eOr, eIf, gI0, eNeg, fLst, fTup, eTup, eCl, cInt, cInt2, cLen, cList, callF, argsOf, argOf, lookP, okLocs, mutSlots, locSlots, putBack, putB1, back, getP, setP, lVar, lstAt, runB, fin, nbO, look, itemsOf, gCut, oSo, oNo, gIsN, isNon, fCut, nown_ints, nbs_ints, fls_ints, toDs_ints, addP_nm, addP_1L, addP_2L, addP_L1, ints_mp, mp_len, mp_app, mp_take, mp_drop, mp_cut, mp_dropLast, mp_getLast, ePop_P, mp_atI, gEq_P, eqP_int, eqP_bl, eqP_nm, eqP_nil, gIx_P, ixP_nm, gAdd_P, addP_int, mp_snoc, mp_pcons, sz0, sz1, sz2, sz3, sz5, sz8]⟩
theorem way_pos {x : Int} : ∀ {u : Tr}, x ∈ u.pre → 0 < (u.way x).length
  | .nil, h => by simp [Tr.pre] at h
  | .node l y r, _ => by simp [Tr.way]
theorem runF_full {R : Rule} {x : Int} (hR : R ≠ .once) : ∀ (k : Nat) (u : Tr), u.ok → x ∈ u.pre → (u.way x).length ≤ k →
    (runF R x k u).1.topIs x = true ∧ (R = .ones → (runF R x k u).2.map Prod.fst = List.replicate ((u.way x).length - 1) ("one" : Str)) ∧ (R = .twos → (runF R x k u).2.length = ((u.way x).length) / 2 ∧ (((runF R x k u).2.map Prod.fst).filter one).length = ((u.way x).length - 1) % 2)
  | 0, u, _, hm, hk => by have := way_pos hm; omega
  | k + 1, u, hu, hm, hk => by
    have hp := way_pos hm
    rw [runF]
    by_cases c : (u.way x).length ≤ 1
    · rw [if_pos c]
      have e : (u.way x).length = 1 := by omega
      rw [e]
      exact ⟨way_one hm c hu.b, fun _ => rfl, fun _ => ⟨rfl, rfl⟩⟩
    · rw [if_neg c, if_neg hR]
      obtain ⟨ok', m', _, _, _, hl, h2⟩ := step_way (R := R) hu hm (by omega)
      have hp' := way_pos m'
      obtain ⟨i1, i2, i3⟩ := runF_full hR k (stepT R x u).1 ok' m' (by rcases hl with h | h <;> omega)
      refine ⟨i1, fun e => ?_, fun e => ?_⟩
      · rcases hl with ⟨h, h1⟩ | ⟨_, _, h⟩
        · rw [List.map_cons, i2 e, h1, show (u.way x).length - 1 = ((stepT R x u).1.way x).length - 1 + 1 by omega, List.replicate_succ]
        · rw [e] at h; cases h
      · obtain ⟨j1, j2⟩ := i3 e
        rw [List.length_cons, j1, List.map_cons]
        rcases hl with ⟨h, h1⟩ | ⟨h, h1, _⟩
        · have c2 : ¬ 2 < (u.way x).length := fun z => h2 e z h1
          rw [List.filter_cons_of_pos (by rw [h1]; rfl), List.length_cons, j2]
          omega
        · rw [List.filter_cons_of_neg (by simp [one, h1]), j2]
          omega
theorem way_gap {n x : Int} : ∀ {t : Tr}, t.bst → (t.way n).getLast? = some x → (x < n → ∀ y ∈ t.pre, x < y → n < y) ∧ (n < x → ∀ y ∈ t.pre, y < x → y < n) ∧ (n ∈ t.pre → x = n)
  | .nil, _, h => by simp [Tr.way] at h
  | .node l z r, hb, h => by
    obtain ⟨b1, b2, b3, b4⟩ := hb
    have hx : x ∈ (Tr.node l z r).pre := way_mem (n := n) (List.mem_of_getLast? h)
    rw [Tr.way] at h
    have hmem : ∀ y, y ∈ (Tr.node l z r).pre → y = z ∨ y ∈ l.pre ∨ y ∈ r.pre := fun y m => by simpa [Tr.pre] using m
    by_cases c1 : n < z
    · rw [if_pos c1] at h
      rcases getLast_cons h with ⟨e, rfl⟩ | h
      · have := way_nil e
        subst this
        refine ⟨fun q => by omega, fun _ y m hy => ?_, fun m => ?_⟩
        · rcases hmem y m with rfl | m | m
          · omega
          · cases m
          · have := b4 y m; omega
        · rcases hmem n m with rfl | m | m
          · rfl
          · cases m
          · have := b4 n m; omega
      · obtain ⟨i1, i2, i3⟩ := way_gap b1 h
        have hxl : x ∈ l.pre := way_mem (n := n) (List.mem_of_getLast? h)
        have := b3 x hxl
        refine ⟨fun q y m hy => ?_, fun q y m hy => ?_, fun m => ?_⟩
        · rcases hmem y m with rfl | m | m
          · exact c1
          · exact i1 q y m hy
          · have := b4 y m; omega
        · rcases hmem y m with rfl | m | m
          · omega
          · exact i2 q y m hy
          · have := b4 y m; omega
        · rcases hmem n m with rfl | m | m
          · omega
          · exact i3 m
          · have := b4 n m; omega
    · rw [if_neg c1] at h
      by_cases c2 : z < n
      · rw [if_pos c2] at h
        rcases getLast_cons h with ⟨e, rfl⟩ | h
        · have := way_nil e
          subst this
          refine ⟨fun _ y m hy => ?_, fun q => by omega, fun m => ?_⟩
          · rcases hmem y m with rfl | m | m
            · omega
            · have := b3 y m; omega
            · cases m
          · rcases hmem n m with rfl | m | m
            · rfl
            · have := b3 n m; omega
            · cases m
        · obtain ⟨i1, i2, i3⟩ := way_gap b2 h
          have hxl : x ∈ r.pre := way_mem (n := n) (List.mem_of_getLast? h)
          have := b4 x hxl
          refine ⟨fun q y m hy => ?_, fun q y m hy => ?_, fun m => ?_⟩
          · rcases hmem y m with rfl | m | m
            · omega
            · have := b3 y m; omega
            · exact i1 q y m hy
          · rcases hmem y m with rfl | m | m
            · exact c2
            · have := b3 y m; omega
            · exact i2 q y m hy
          · rcases hmem n m with rfl | m | m
            · omega
            · have := b3 n m; omega
            · exact i3 m
      · rw [if_neg c2] at h
        have : x = z := by simpa using h.symm
        have : z = n := by omega
        subst this
        exact ⟨fun q => by omega, fun q => by omega, fun _ => by omega⟩
theorem mvd_node {t : Tr} {n : Int} (h : t.ok) (hne : t ≠ .nil) : ∃ l x r, (mvd .twos t n).1 = .node l x r ∧ (Tr.node l x r).ok ∧ (Tr.node l x r).ino = t.ino ∧ (t.way n).getLast? = some x := by
  cases q : (t.way n).getLast? with
  | none => exact absurd (way_nil (List.getLast?_eq_none_iff.mp q)) hne
  | some x =>
    obtain ⟨w, ew⟩ : ∃ w, t.way n = w ++ [x] := List.getLast?_eq_some_iff.mp q
    have wx : t.way x = t.way n := by rw [way_pre h.b ew, ew]
    have hx : x ∈ t.pre := way_mem (n := n) (by rw [ew]; simp)
    obtain ⟨ho, hi, _⟩ := mvd_ok (R := .twos) (n := n) h
    have htop : (mvd .twos t n).1.topIs x = true := by
      have := (runF_full (R := .twos) (by decide) (t.way n).length t h hx (by rw [wx]; exact Nat.le_refl _)).1
      unfold mvd
      rw [if_neg (by decide), q]
      exact this
    obtain ⟨l, r, e⟩ := Tr.top_pre.mp htop
    rw [e] at ho hi
    exact ⟨l, x, r, e, ho, hi, rfl⟩
/-- two trees as one -/
def jnT (s t : Tr) : Tr := match s, t with
  | .nil, t => t
  | s, .nil => s
  | s, t => match maxL s.pre with
    | none => .nil
    | some m => match (mvd .twos s m).1 with
      | .nil => .nil
      | .node l x r => .node l x t
theorem hung_node {s : Tr} (h : s.ok) (hne : s ≠ .nil) : ∃ m l, maxL s.pre = some m ∧ (mvd .twos s m).1 = .node l m .nil ∧ (Tr.node l m .nil).ok ∧ (Tr.node l m .nil).ino = s.ino := by
  obtain ⟨m, hm⟩ : ∃ m, maxL s.pre = some m := by
    cases s with
    | nil => exact absurd rfl hne
    | node a x b => exact ⟨_, rfl⟩
  obtain ⟨h1, h2⟩ := max_mem hm
  obtain ⟨l, x, r, e, ho, hi, hg⟩ := mvd_node (n := m) h hne
  have hx : x = m := (way_gap h.b hg).2.2 h1
  subst hx
  have hr : r = .nil := by
    cases r with
    | nil => rfl
    | node a y b =>
      have := ho.b.2.2.2 y (by simp [Tr.pre])
      have := h2 y (by rw [← Tr.mem_ino, ← hi, Tr.mem_ino]; simp [Tr.pre])
      omega
  subst hr
  exact ⟨x, l, hm, e, ho, hi⟩
theorem jnT_nn {a b a' b' l : Tr} {x x' m : Int} (h1 : maxL (Tr.node a x b).pre = some m) (h2 : (mvd .twos (.node a x b) m).1 = .node l m .nil) : jnT (.node a x b) (.node a' x' b') = .node l m (.node a' x' b') := by
  show (match maxL (Tr.node a x b).pre with
    | none => Tr.nil
    | some m => match (mvd .twos (.node a x b) m).1 with
      | .nil => .nil
      | .node l x r => .node l x (.node a' x' b')) = _
  rw [h1]
  simp only
  rw [h2]
theorem jnT_ino {s t : Tr} (hs : s.ok) : (jnT s t).ino = s.ino ++ t.ino := by
  cases s with
  | nil => cases t <;> rfl
  | node a x b => cases t with
    | nil => simp [jnT, Tr.ino]
    | node a' x' b' =>
      obtain ⟨m, l, h1, h2, h3, h4⟩ := hung_node hs (by simp)
      rw [jnT_nn h1 h2, ← h4]
      simp [Tr.ino]
theorem jnT_ok {s t : Tr} (hs : s.ok) (ht : t.ok) (hz : s.size + t.size ≤ 60) (hlt : ∀ x ∈ s.pre, ∀ y ∈ t.pre, x < y) : (jnT s t).ok := by
  have hi := jnT_ino (t := t) hs
  refine ⟨(Tr.bst_iff _).mpr ?_, fun y m => ?_, ?_⟩
  · rw [hi]
    exact List.pairwise_append.mpr ⟨(Tr.bst_iff s).mp hs.b, (Tr.bst_iff t).mp ht.b, fun x mx y my => hlt x (Tr.mem_ino.mp mx) y (Tr.mem_ino.mp my)⟩
  · have := Tr.mem_ino.mpr m
    rw [hi] at this
    rcases List.mem_append.mp this with m | m
    · exact hs.n y (Tr.mem_ino.mp m)
    · exact ht.n y (Tr.mem_ino.mp m)
  · rw [Tr.size_eq, hi, List.length_append, ← Tr.size_eq, ← Tr.size_eq]; exact hz
/-! ### data that can be compared -/
theorem seq_ev {a b : Sm} {s s1 : Z.St} {r : Rs Fw} (h : a s = .ok .nx s1) (h2 : b s1 = r) : sSeq a b s = r := by rw [seq_nx h]; exact h2
theorem kill_ev {is : List Nat} {f : Sm} {s s1 s2 : Z.St} (h : f s = .ok .nx s1) (h2 : kill is s1 = s2) : sKill is f s = .ok .nx s2 := by
  unfold sKill; rw [h, ← h2]; rfl
/-! ### steps of two crosswise as two of one -/
theorem runB_go {mu : List Bool} {N : Nat} {f : Sm} {xs : List PV} {s0 s : Z.St} {y : PV} {ys : List (Option PV)} (h0 : xs.map some ++ List.replicate (N - xs.length) none = s0) (h : f s0 = .ok (.rt y) s) (e : fin mu s = ys) (hy : y.nb = true) (hs : ys.all nbO = true) : runB mu N f xs = .ok y ys := by
  subst e
  exact runB_rt h0 h hy hs
theorem Sp.join {s t : Tr} {a n b : Int} (h : Sp s a n) (g : Sp t n b) (h1 : a ≤ n) (h2 : n ≤ b) (hb : b - a ≤ 60) : Sp (jnT s t) a b := by
  have s1 := h.size
  have s2 := g.size
  exact ⟨jnT_ok h.ok g.ok (by omega) (h.lt g), by rw [jnT_ino h.ok, h.i, g.i, ← rg_app h1 h2]⟩
theorem join_stpTx (l : List (Str × Int)) : Txt.join spTx (l.map stpTx) = rowTx l := by
  cases l with
  | nil => rfl
  | cons a l =>
    show Builtin.Str.glued spTx (stpTx a :: l.map stpTx) = glueTx (stpTx a) l
    rw [glueTx_fold]
    rfl
theorem show_steps_eq (b : Bool) {l : List (Str × Int)} (h : ∀ a ∈ l, StpOk a) (hl : l.length ≤ 1000) : run_show_steps [.cell (.sh b) .lst (mp stp l)] = .ok (.str (rowTx l)) [none] := by
  have hz := szk
  let s0 : Z.St := [some (.cell (.sh b) .lst (mp stp l)), none, none]
  have hc : c1_show_steps s0 = .ok (.cell .own .lst (mp (fun a => PV.str (stpTx a)) l)) s0 := by
    unfold c1_show_steps fLc
    have hv : eVar 0 s0 = .ok (.cell (.sh b) .lst (mp stp l)) s0 := eVar_ok rfl (by simp [PV.nown])
    rw [hv]
    have := lcGo_map (js := [1, 2]) (tgt := tgtTup) (ft := tYesF) (fe := ce1_show_steps) (e := stp) (zs := fun a => [.str a.1, .int a.2]) (p := fun _ => true) (g := fun a => PV.str (stpTx a)) (s := s0) rfl l [] (fun a m => ⟨rfl, rfl, rfl, fun _ => by
      unfold ce1_show_steps
      exact stp_e (h a m) rfl rfl, rfl⟩) (by simp; omega)
    simp only [Rs.bind, itemsOf, nown_stp, if_true]
    have ho : okOrig s0 [1, 2] = true := rfl
    rw [if_pos ho]
    have hk : kill [1, 2] s0 = s0 := rfl
    rw [hk, this]
    have hf : List.filter (fun _ : Str × Int => true) l = l := List.filter_eq_self.mpr (by simp)
    rw [hf]
    simp [lcEnd, noEx, Rs.bind, restore, s0]
  have hn : PV.strs (mp (fun a => PV.str (stpTx a)) l) = some (l.map stpTx) := by
    have := PV.strs_map (l.map stpTx)
    rw [List.map_map] at this
    exact this
  have hs := sumTx_len l h
  have hnb : (PV.cell .own .lst (mp (fun a => PV.str (stpTx a)) l)).nb = true := by
    show PV.nbs _ = true
    exact nbs_map (fun _ => rfl) l
  have hfl : PV.fls .fz (mp (fun a => PV.str (stpTx a)) l) = mp (fun a => PV.str (stpTx a)) l := fls_mapE (fun _ => rfl) l
  have he : eB c1_show_steps s0 = .ok (.cell .fz .lst (mp (fun a => PV.str (stpTx a)) l)) s0 := by
    unfold eB
    rw [hc]
    simp only [Rs.bind, PV.give, hnb, if_true, PV.fl, hfl]
  have hj : gJoin s0 (.str " ") (.cell .fz .lst (mp (fun a => PV.str (stpTx a)) l)) = some (.str (rowTx l)) := by
    unfold gJoin
    simp only [look, hn]
    rw [if_pos (by
      have : (" " : Str).length = 1 := spTx_len
      rw [this, List.length_map]
      omega)]
    rw [show (" " : Str) = spTx from rfl, join_stpTx]
  refine runB_go (s0 := s0) (s := s0) rfl ?_ rfl rfl rfl
  unfold b_show_steps sRet fV eJoin
  simp only [eC, Rs.bind]
  have hi : eJoin.isStr (look s0 (.str " ")) = true := rfl
  rw [if_pos hi]
  simp only [he, hj, ofO, Rs.bind, PV.nown, if_true]
  rfl
theorem text_q (L : PV) {acc : Str} {a : Str × Int} (h : StpOk a) (ho : PyData.strOk acc = true) (hl : acc.length ≤ 30000) (hp : 0 < acc.length) : q1__law_text_of [some L, some (.str acc), some (.str a.1), some (.int a.2)] = .ok .nx [some L, some (.str (acc ++ spTx ++ stpTx a)), none, none] := by
  have hz := szk
  have l1 := h.l
  have l2 := spTx_len
  have l3 := numTx_len h.n
  have e1 : eqP (.str acc) (.str ("" : Str)) = some false := by
    rw [eqP_str ho (by decide +kernel)]
    simp [str_ne_empty hp]
  have a1 := addP_str acc spTx (by omega)
  have a2 := addP_str (acc ++ spTx) a.1 (by rw [Str.len_app]; omega)
  have a3 := addP_str (acc ++ spTx ++ a.1) spTx (by rw [Str.len_app, Str.len_app]; omega)
  have a4 := addP_str (acc ++ spTx ++ a.1 ++ spTx) (numTx a.2) (by rw [Str.len_app, Str.len_app, Str.len_app]; omega)
  have c := fun s => cStr_int s h.n
  have e3 : acc ++ spTx ++ a.1 ++ spTx ++ numTx a.2 = acc ++ spTx ++ stpTx a := by
    unfold stpTx
    simp only [Str.app_assoc]
  refine kill_ev (s1 := [some L, some (.str (acc ++ spTx ++ stpTx a)), some (.str a.1), some (.int a.2)]) ?_ rfl
  have es : (" " : Str) = spTx := rfl
  refine seq_ev (s1 := [some L, some (.str (acc ++ spTx)), some (.str a.1), some (.int a.2)]) ?_ ?_
  · simp [es, e1, a1, Rs.bind, ofO, sSeq, sSet, sNil, sKill, kill, sExpr, sIf, sRet, sRetN, sRaise, sUnG, selT, selL, setAll, sAug, eVar, eC, eB, fV, fMove, PV.give, PV.nb, PV.nbs, PV.nown, PV.nowns, PV.fl, PV.fls, rdV, aNil, aCons, e2, tB, tNotF, tAndF, tOrF, eNot, eAnd, eOr, eIf, gI0, eNeg, fLst, fTup, eTup, eCl, cInt, cInt2, cLen, cList, callF, argsOf, argOf, lookP, okLocs, mutSlots, locSlots, putBack, putB1, back, getP, setP, lVar, lstAt, runB, fin, nbO, look, itemsOf, gCut, oSo, oNo, gIsN, isNon, fCut, nown_ints, nbs_ints, fls_ints, toDs_ints, addP_nm, addP_1L, addP_2L, addP_L1, ints_mp, mp_len, mp_app, mp_take, mp_drop, mp_cut, mp_dropLast, mp_getLast, ePop_P, mp_atI, gEq_P, eqP_int, eqP_bl, eqP_nm, eqP_nil, gIx_P, ixP_nm, gAdd_P, addP_int, mp_snoc, mp_pcons, sz0, sz1, sz2, sz3, sz5, sz8]
  · rw [← e3]
    simp [es, a2, a3, a4, c, Rs.bind, ofO, sSeq, sSet, sNil, sKill, kill, sExpr, sIf, sRet, sRetN, sRaise, sUnG, selT, selL, setAll, sAug, eVar, eC, eB, fV, fMove, PV.give, PV.nb, PV.nbs, PV.nown, PV.nowns, PV.fl, PV.fls, rdV, aNil, aCons, e2, tB, tNotF, tAndF, tOrF, eNot, eAnd, eOr, eIf, gI0, eNeg, fLst, fTup, eTup, eCl, cInt, cInt2, cLen, cList, callF, argsOf, argOf, lookP, okLocs, mutSlots, locSlots, putBack, putB1, back, getP, setP, lVar, lstAt, runB, fin, nbO, look, itemsOf, gCut, oSo, oNo, gIsN, isNon, fCut, nown_ints, nbs_ints, fls_ints, toDs_ints, addP_nm, addP_1L, addP_2L, addP_L1, ints_mp, mp_len, mp_app, mp_take, mp_drop, mp_cut, mp_dropLast, mp_getLast, ePop_P, mp_atI, gEq_P, eqP_int, eqP_bl, eqP_nm, eqP_nil, gIx_P, ixP_nm, gAdd_P, addP_int, mp_snoc, mp_pcons, sz0, sz1, sz2, sz3, sz5, sz8]
theorem text_loop (L : PV) : ∀ (l : List (Str × Int)) (acc : Str), (∀ a ∈ l, StpOk a) → PyData.strOk acc = true → acc.length + 23 * l.length ≤ 30000 → 0 < acc.length → sForT [2, 3] q1__law_text_of (mp stp l) [some L, some (.str acc), none, none] = .ok .nx [some L, some (.str (glueTx acc l)), none, none]
  | [], acc, _, _, _, _ => rfl
  | a :: l, acc, h, ho, hl, hp => by
    have ha := h a List.mem_cons_self
    have h2 := stpTx_len ha
    have h3 := spTx_len
    rw [List.length_cons] at hl
    rw [mp_cons, forT_go (zs := [.str a.1, .int a.2]) rfl rfl rfl (text_q L ha ho (by omega) hp)]
    exact text_loop L l _ (fun b m => h b (List.mem_cons_of_mem _ m)) (strOk_app (strOk_app ho spTx_ok) (stpTx_ok ha)) (by rw [Str.len_app, Str.len_app]; omega) (by rw [Str.len_app, Str.len_app]; omega)
theorem text_of_eq (b : Bool) {l : List (Str × Int)} (h : ∀ a ∈ l, StpOk a) (hl : l.length ≤ 1000) : run__law_text_of [.cell (.sh b) .lst (mp stp l)] = .ok (.str (rowTx l)) [none] := by
  have hz := szk
  let s0 : Z.St := [some (.cell (.sh b) .lst (mp stp l)), none, none, none]
  refine runB_go (s0 := s0) (s := [some (.cell (.sh b) .lst (mp stp l)), some (.str (rowTx l)), none, none]) rfl ?_ rfl rfl rfl
  unfold b__law_text_of
  refine seq_ev (s1 := [some (.cell (.sh b) .lst (mp stp l)), some (.str ("" : Str)), none, none]) (by simp [s0, Rs.bind, ofO, sSeq, sSet, sNil, sKill, kill, sExpr, sIf, sRet, sRetN, sRaise, sUnG, selT, selL, setAll, sAug, eVar, eC, eB, fV, fMove, PV.give, PV.nb, PV.nbs, PV.nown, PV.nowns, PV.fl, PV.fls, rdV, aNil, aCons, e2, tB, tNotF, tAndF, tOrF, eNot, eAnd, eOr, eIf, gI0, eNeg, fLst, fTup, eTup, eCl, cInt, cInt2, cLen, cList, callF, argsOf, argOf, lookP, okLocs, mutSlots, locSlots, putBack, putB1, back, getP, setP, lVar, lstAt, runB, fin, nbO, look, itemsOf, gCut, oSo, oNo, gIsN, isNon, fCut, nown_ints, nbs_ints, fls_ints, toDs_ints, addP_nm, addP_1L, addP_2L, addP_L1, ints_mp, mp_len, mp_app, mp_take, mp_drop, mp_cut, mp_dropLast, mp_getLast, ePop_P, mp_atI, gEq_P, eqP_int, eqP_bl, eqP_nm, eqP_nil, gIx_P, ixP_nm, gAdd_P, addP_int, mp_snoc, mp_pcons, sz0, sz1, sz2, sz3, sz5, sz8]) ?_
  refine seq_ev (s1 := [some (.cell (.sh b) .lst (mp stp l)), some (.str (rowTx l)), none, none]) ?_ (by simp [Rs.bind, ofO, sSeq, sSet, sNil, sKill, kill, sExpr, sIf, sRet, sRetN, sRaise, sUnG, selT, selL, setAll, sAug, eVar, eC, eB, fV, fMove, PV.give, PV.nb, PV.nbs, PV.nown, PV.nowns, PV.fl, PV.fls, rdV, aNil, aCons, e2, tB, tNotF, tAndF, tOrF, eNot, eAnd, eOr, eIf, gI0, eNeg, fLst, fTup, eTup, eCl, cInt, cInt2, cLen, cList, callF, argsOf, argOf, lookP, okLocs, mutSlots, locSlots, putBack, putB1, back, getP, setP, lVar, lstAt, runB, fin, nbO, look, itemsOf, gCut, oSo, oNo, gIsN, isNon, fCut, nown_ints, nbs_ints, fls_ints, toDs_ints, addP_nm, addP_1L, addP_2L, addP_L1, ints_mp, mp_len, mp_app, mp_take, mp_drop, mp_cut, mp_dropLast, mp_getLast, ePop_P, mp_atI, gEq_P, eqP_int, eqP_bl, eqP_nm, eqP_nil, gIx_P, ixP_nm, gAdd_P, addP_int, mp_snoc, mp_pcons, sz0, sz1, sz2, sz3, sz5, sz8])
  unfold l1__law_text_of sFor2
  rw [eVar_ok (x := .cell (.sh b) .lst (mp stp l)) rfl (by simp [PV.nown])]
  simp only [Rs.bind, itemsOf, nown_stp, if_true]
  cases l with
  | nil => rfl
  | cons a l =>
    have ha := h a List.mem_cons_self
    have l1 := ha.l
    have l2 := spTx_len
    have l3 := numTx_len ha.n
    have e1 : eqP (.str ("" : Str)) (.str ("" : Str)) = some true := by
      rw [eqP_str (by decide +kernel) (by decide +kernel)]
      simp
    have len0 : ("" : Str).length = 0 := by decide +kernel
    have a2 := addP_str ("" : Str) a.1 (by rw [len0]; omega)
    have a3 := addP_str (("" : Str) ++ a.1) spTx (by rw [Str.len_app, len0]; omega)
    have a4 := addP_str (("" : Str) ++ a.1 ++ spTx) (numTx a.2) (by rw [Str.len_app, Str.len_app, len0]; omega)
    have c := fun s => cStr_int s ha.n
    have es : (" " : Str) = spTx := rfl
    have e0 : ("" : Str) ++ a.1 = a.1 := by
      show Str.mk (("" : Str).cps ++ a.1.cps) = a.1
      have : ("" : Str).cps = #[] := by decide +kernel
      rw [this, Array.empty_append]
    have e3 : ("" : Str) ++ a.1 ++ spTx ++ numTx a.2 = stpTx a := by rw [e0]; rfl
    have hq : ∀ L, q1__law_text_of [some L, some (.str ("" : Str)), some (.str a.1), some (.int a.2)] = .ok .nx [some L, some (.str (stpTx a)), none, none] := fun L => by
      refine kill_ev (s1 := [some L, some (.str (stpTx a)), some (.str a.1), some (.int a.2)]) ?_ rfl
      refine seq_ev (s1 := [some L, some (.str ("" : Str)), some (.str a.1), some (.int a.2)]) ?_ ?_
      · simp [e1, Rs.bind, ofO, sSeq, sSet, sNil, sKill, kill, sExpr, sIf, sRet, sRetN, sRaise, sUnG, selT, selL, setAll, sAug, eVar, eC, eB, fV, fMove, PV.give, PV.nb, PV.nbs, PV.nown, PV.nowns, PV.fl, PV.fls, rdV, aNil, aCons, e2, tB, tNotF, tAndF, tOrF, eNot, eAnd, eOr, eIf, gI0, eNeg, fLst, fTup, eTup, eCl, cInt, cInt2, cLen, cList, callF, argsOf, argOf, lookP, okLocs, mutSlots, locSlots, putBack, putB1, back, getP, setP, lVar, lstAt, runB, fin, nbO, look, itemsOf, gCut, oSo, oNo, gIsN, isNon, fCut, nown_ints, nbs_ints, fls_ints, toDs_ints, addP_nm, addP_1L, addP_2L, addP_L1, ints_mp, mp_len, mp_app, mp_take, mp_drop, mp_cut, mp_dropLast, mp_getLast, ePop_P, mp_atI, gEq_P, eqP_int, eqP_bl, eqP_nm, eqP_nil, gIx_P, ixP_nm, gAdd_P, addP_int, mp_snoc, mp_pcons, sz0, sz1, sz2, sz3, sz5, sz8]
      · rw [← e3]
        simp [es, a2, a3, a4, c, Rs.bind, ofO, sSeq, sSet, sNil, sKill, kill, sExpr, sIf, sRet, sRetN, sRaise, sUnG, selT, selL, setAll, sAug, eVar, eC, eB, fV, fMove, PV.give, PV.nb, PV.nbs, PV.nown, PV.nowns, PV.fl, PV.fls, rdV, aNil, aCons, e2, tB, tNotF, tAndF, tOrF, eNot, eAnd, eOr, eIf, gI0, eNeg, fLst, fTup, eTup, eCl, cInt, cInt2, cLen, cList, callF, argsOf, argOf, lookP, okLocs, mutSlots, locSlots, putBack, putB1, back, getP, setP, lVar, lstAt, runB, fin, nbO, look, itemsOf, gCut, oSo, oNo, gIsN, isNon, fCut, nown_ints, nbs_ints, fls_ints, toDs_ints, addP_nm, addP_1L, addP_2L, addP_L1, ints_mp, mp_len, mp_app, mp_take, mp_drop, mp_cut, mp_dropLast, mp_getLast, ePop_P, mp_atI, gEq_P, eqP_int, eqP_bl, eqP_nm, eqP_nil, gIx_P, ixP_nm, gAdd_P, addP_int, mp_snoc, mp_pcons, sz0, sz1, sz2, sz3, sz5, sz8]
    rw [mp_cons, forT_go (zs := [.str a.1, .int a.2]) rfl rfl rfl (hq _)]
    have h2 := stpTx_len ha
    rw [List.length_cons] at hl
    exact text_loop _ l (stpTx a) (fun b m => h b (List.mem_cons_of_mem _ m)) (stpTx_ok ha) (by omega) (stpTx_pos a)
theorem number43 (a c : Int) : ∃ a' n, n.natAbs < 1000000000 ∧ run__law_number [pu a c] = .ok (.int n) [some (pu a' c)] := by
  have hz := szk
  have h3 : 3 ≤ sizeLine := by omega
  have d1 := draw_eq a c 3 (by decide) (by decide)
  have b1 := drawn a c 3 (by decide)
  generalize dA a c / 3 = a1 at *
  generalize dA a c % 3 = i at *
  obtain ⟨m, hm, m0, m1⟩ := at3n43 i b1
  have d2 := draw_eq a1 c (2 * m + 1) (by omega) (by omega)
  have b2 := drawn a1 c (2 * m + 1) (by omega)
  generalize dA a1 c / (2 * m + 1) = a2 at *
  generalize dA a1 c % (2 * m + 1) = j at *
  refine ⟨a2, j - m, by omega, ?_⟩
  have om : okMul 2 m = true := by unfold okMul; simp
  refine runB_go (s0 := [some (pu a c), none]) (s := [some (pu a2 c), some (.int m)]) rfl ?_ rfl rfl rfl
  unfold b__law_number
  refine seq_ev (s1 := [some (pu a1 c), some (.int m)]) ?_ ?_
  · simp [d1, hm, pow9, h3, ixP_lst, Rs.bind, ofO, sSeq, sSet, sNil, sKill, kill, sExpr, sIf, sRet, sRetN, sRaise, sUnG, selT, selL, setAll, sAug, eVar, eC, eB, fV, fMove, PV.give, PV.nb, PV.nbs, PV.nown, PV.nowns, PV.fl, PV.fls, rdV, aNil, aCons, e2, tB, tNotF, tAndF, tOrF, eNot, eAnd, eOr, eIf, gI0, eNeg, fLst, fTup, eTup, eCl, cInt, cInt2, cLen, cList, callF, argsOf, argOf, lookP, okLocs, mutSlots, locSlots, putBack, putB1, back, getP, setP, lVar, lstAt, runB, fin, nbO, look, itemsOf, gCut, oSo, oNo, gIsN, isNon, fCut, nown_ints, nbs_ints, fls_ints, toDs_ints, addP_nm, addP_1L, addP_2L, addP_L1, ints_mp, mp_len, mp_app, mp_take, mp_drop, mp_cut, mp_dropLast, mp_getLast, ePop_P, mp_atI, gEq_P, eqP_int, eqP_bl, eqP_nm, eqP_nil, gIx_P, ixP_nm, gAdd_P, addP_int, mp_snoc, mp_pcons, sz0, sz1, sz2, sz3, sz5, sz8]
  · simp [d2, om, gI, Rs.bind, ofO, sSeq, sSet, sNil, sKill, kill, sExpr, sIf, sRet, sRetN, sRaise, sUnG, selT, selL, setAll, sAug, eVar, eC, eB, fV, fMove, PV.give, PV.nb, PV.nbs, PV.nown, PV.nowns, PV.fl, PV.fls, rdV, aNil, aCons, e2, tB, tNotF, tAndF, tOrF, eNot, eAnd, eOr, eIf, gI0, eNeg, fLst, fTup, eTup, eCl, cInt, cInt2, cLen, cList, callF, argsOf, argOf, lookP, okLocs, mutSlots, locSlots, putBack, putB1, back, getP, setP, lVar, lstAt, runB, fin, nbO, look, itemsOf, gCut, oSo, oNo, gIsN, isNon, fCut, nown_ints, nbs_ints, fls_ints, toDs_ints, addP_nm, addP_1L, addP_2L, addP_L1, ints_mp, mp_len, mp_app, mp_take, mp_drop, mp_cut, mp_dropLast, mp_getLast, ePop_P, mp_atI, gEq_P, eqP_int, eqP_bl, eqP_nm, eqP_nil, gIx_P, ixP_nm, gAdd_P, addP_int, mp_snoc, mp_pcons, sz0, sz1, sz2, sz3, sz5, sz8]
theorem g1_43 (S : PV) (x2 x4 : Option PV) (c : Int) : ∀ (ks : List Int) (a : Int) (sts : List (Str × Int)), (∀ b ∈ sts, StpOk b) → sts.length + ks.length ≤ 1000 → ∃ a' sts', (∀ b ∈ sts', StpOk b) ∧ sts'.length = sts.length + ks.length ∧ sForL 5 q1_law (mp PV.int ks) (sG43 S (pu a c) x2 (some (.cell .own .lst (mp stp sts))) x4 none none none none) = .ok .nx (sG43 S (pu a' c) x2 (some (.cell .own .lst (mp stp sts'))) x4 none none none none)
  | [], a, sts, h, _ => ⟨a, sts, h, rfl, rfl⟩
  | k :: ks, a, sts, h, hl => by
    have hz := szk
    have h5 : 5 ≤ sizeLine := by omega
    rw [List.length_cons] at hl
    have d1 := draw_eq a c 5 (by decide) (by decide)
    have b1 := drawn a c 5 (by decide)
    generalize dA a c / 5 = a1 at *
    generalize dA a c % 5 = i at *
    obtain ⟨kd, hk, hkm⟩ := at5s43 i b1
    obtain ⟨a2, n, hn, en⟩ := number43 a1 c
    have hk5 := kinds5_ok kd hkm
    have h2 : ∀ b ∈ sts ++ [(kd, n)], StpOk b := fun b m => by
      rcases List.mem_append.mp m with m | m
      · exact h b m
      · rw [List.mem_singleton.mp m]; exact ⟨hk5.1, hk5.2, by show n.natAbs < _; omega⟩
    obtain ⟨a3, sts', h3, l3, e⟩ := g1_43 S x2 x4 c ks a2 (sts ++ [(kd, n)]) h2 (by simp; omega)
    refine ⟨a3, sts', h3, by rw [l3]; simp; omega, ?_⟩
    rw [mp_cons, for_go (s2 := sG43 S (pu a2 c) x2 (some (.cell .own .lst (mp stp (sts ++ [(kd, n)])))) x4 none none none none) (by decide : 5 < 9) ?_, e]
    refine kill_ev (s1 := sG43 S (pu a2 c) x2 (some (.cell .own .lst (mp stp (sts ++ [(kd, n)])))) x4 (some (.int k)) none none none) ?_ rfl
    have lt : sts.length < sizeLine := by omega
    rw [← stp_snoc]
    unfold sG43
    simp [d1, hk, en, h5, ixP_lst, eApp, lt, mp_len, Rs.bind, ofO, sSeq, sSet, sNil, sKill, kill, sExpr, sIf, sRet, sRetN, sRaise, sUnG, selT, selL, setAll, sAug, eVar, eC, eB, fV, fMove, PV.give, PV.nb, PV.nbs, PV.nown, PV.nowns, PV.fl, PV.fls, rdV, aNil, aCons, e2, tB, tNotF, tAndF, tOrF, eNot, eAnd, eOr, eIf, gI0, eNeg, fLst, fTup, eTup, eCl, cInt, cInt2, cLen, cList, callF, argsOf, argOf, lookP, okLocs, mutSlots, locSlots, putBack, putB1, back, getP, setP, lVar, lstAt, runB, fin, nbO, look, itemsOf, gCut, oSo, oNo, gIsN, isNon, fCut, nown_ints, nbs_ints, fls_ints, toDs_ints, addP_nm, addP_1L, addP_2L, addP_L1, ints_mp, mp_len, mp_app, mp_take, mp_drop, mp_cut, mp_dropLast, mp_getLast, ePop_P, mp_atI, gEq_P, eqP_int, eqP_bl, eqP_nm, eqP_nil, gIx_P, ixP_nm, gAdd_P, addP_int, mp_snoc, mp_pcons, sz0, sz1, sz2, sz3, sz5, sz8]
/-- one look -/
theorem q2_43 {S P : PV} {x2 x4 : Option PV} {l m : List (Str × Int)} (hl : ∀ a ∈ l, StpOk a) (hll : l.length ≤ 1000) (hm : ∀ a ∈ m, StpOk a) (hml : m.length ≤ 1000) : q2_law (sG43 S P x2 (some (stF .own l)) x4 none (some (stF .fz l)) (some (stF .fz m)) none) = .ok .nx (sG43 S P x2 (some (stF .own l)) x4 none (some (stF .fz l)) none none) := by
  have e1 := show_steps_eq true hm hml
  have e2' := text_of_eq true hm hml
  have e3 := eqP_stF .fz .own hl
  have e4 : eqP (.str (rowTx m)) (.str (rowTx m)) = some true := by
    rw [eqP_str (rowTx_ok hm) (rowTx_ok hm)]
    simp
  let s1 : Z.St := sG43 S P x2 (some (stF .own l)) x4 none (some (stF .fz l)) (some (stF .fz m)) (some (.str (rowTx m)))
  refine kill_ev (s1 := s1) ?_ rfl
  refine seq_ev (s1 := s1) ?_ ?_
  · unfold s1 sG43 stF
    simp [e1, stF_nowns, Rs.bind, ofO, sSeq, sSet, sNil, sKill, kill, sExpr, sIf, sRet, sRetN, sRaise, sUnG, selT, selL, setAll, sAug, eVar, eC, eB, fV, fMove, PV.give, PV.nb, PV.nbs, PV.nown, PV.nowns, PV.fl, PV.fls, rdV, aNil, aCons, e2, tB, tNotF, tAndF, tOrF, eNot, eAnd, eOr, eIf, gI0, eNeg, fLst, fTup, eTup, eCl, cInt, cInt2, cLen, cList, callF, argsOf, argOf, lookP, okLocs, mutSlots, locSlots, putBack, putB1, back, getP, setP, lVar, lstAt, runB, fin, nbO, look, itemsOf, gCut, oSo, oNo, gIsN, isNon, fCut, nown_ints, nbs_ints, fls_ints, toDs_ints, addP_nm, addP_1L, addP_2L, addP_L1, ints_mp, mp_len, mp_app, mp_take, mp_drop, mp_cut, mp_dropLast, mp_getLast, ePop_P, mp_atI, gEq_P, eqP_int, eqP_bl, eqP_nm, eqP_nil, gIx_P, ixP_nm, gAdd_P, addP_int, mp_snoc, mp_pcons, sz0, sz1, sz2, sz3, sz5, sz8]
  · unfold s1 sG43 stF
    simp [e2', e3, e4, eIsi, erQ, tyP, is_SS43, stF_nowns, Rs.bind, ofO, sSeq, sSet, sNil, sKill, kill, sExpr, sIf, sRet, sRetN, sRaise, sUnG, selT, selL, setAll, sAug, eVar, eC, eB, fV, fMove, PV.give, PV.nb, PV.nbs, PV.nown, PV.nowns, PV.fl, PV.fls, rdV, aNil, aCons, e2, tB, tNotF, tAndF, tOrF, eNot, eAnd, eOr, eIf, gI0, eNeg, fLst, fTup, eTup, eCl, cInt, cInt2, cLen, cList, callF, argsOf, argOf, lookP, okLocs, mutSlots, locSlots, putBack, putB1, back, getP, setP, lVar, lstAt, runB, fin, nbO, look, itemsOf, gCut, oSo, oNo, gIsN, isNon, fCut, nown_ints, nbs_ints, fls_ints, toDs_ints, addP_nm, addP_1L, addP_2L, addP_L1, ints_mp, mp_len, mp_app, mp_take, mp_drop, mp_cut, mp_dropLast, mp_getLast, ePop_P, mp_atI, gEq_P, eqP_int, eqP_bl, eqP_nm, eqP_nil, gIx_P, ixP_nm, gAdd_P, addP_int, mp_snoc, mp_pcons, sz0, sz1, sz2, sz3, sz5, sz8]
theorem for_q2 {S P : PV} {x2 x4 : Option PV} {l : List (Str × Int)} (hl : ∀ a ∈ l, StpOk a) (hll : l.length ≤ 1000) : l2_law (sG43 S P x2 (some (stF .own l)) x4 none (some (stF .fz l)) none none) = .ok .nx (sG43 S P x2 (some (stF .own l)) x4 none (some (stF .fz l)) none none) := by
  have hz := szk
  have h3 : 3 ≤ sizeLine := by omega
  obtain ⟨m, hm, hml, hf⟩ : ∃ m : List (Str × Int), (∀ a ∈ m, StpOk a) ∧ m.length ≤ 1000 ∧ eB (fLst (aCons (fMove 6) (aCons (fCut (eVar 6) oNo (oSo (e2 (gI okDiv fun i j => .int (i / j)) (eCl cLen (aCons (eVar 3) aNil)) (eC (.int 2))))) (aCons (fMove 6) aNil)))) (sG43 S P x2 (some (stF .own l)) x4 none (some (stF .fz l)) none none) = .ok (.cell .fz .lst (mp (stF .fz) [l, m, l])) (sG43 S P x2 (some (stF .own l)) x4 none (some (stF .fz l)) none none) := by
    refine ⟨cutA l none (some (l.length / 2)), fun a m => hl a ?_, ?_, ?_⟩
    · unfold cutA at m
      exact List.mem_of_mem_drop (List.mem_of_mem_take m)
    · unfold cutA
      simp
      omega
    · have od : okDiv (l.length : Int) 2 = true := by unfold okDiv; decide
      unfold sG43 stF
      conv => lhs; simp [h3, gI, od, stF_nowns, stF_nbs, stF_fls, Rs.bind, ofO, sSeq, sSet, sNil, sKill, kill, sExpr, sIf, sRet, sRetN, sRaise, sUnG, selT, selL, setAll, sAug, eVar, eC, eB, fV, fMove, PV.give, PV.nb, PV.nbs, PV.nown, PV.nowns, PV.fl, PV.fls, rdV, aNil, aCons, e2, tB, tNotF, tAndF, tOrF, eNot, eAnd, eOr, eIf, gI0, eNeg, fLst, fTup, eTup, eCl, cInt, cInt2, cLen, cList, callF, argsOf, argOf, lookP, okLocs, mutSlots, locSlots, putBack, putB1, back, getP, setP, lVar, lstAt, runB, fin, nbO, look, itemsOf, gCut, oSo, oNo, gIsN, isNon, fCut, nown_ints, nbs_ints, fls_ints, toDs_ints, addP_nm, addP_1L, addP_2L, addP_L1, ints_mp, mp_len, mp_app, mp_take, mp_drop, mp_cut, mp_dropLast, mp_getLast, ePop_P, mp_atI, gEq_P, eqP_int, eqP_bl, eqP_nm, eqP_nil, gIx_P, ixP_nm, gAdd_P, addP_int, mp_snoc, mp_pcons, sz0, sz1, sz2, sz3, sz5, sz8]
      rfl
  unfold l2_law sFor
  rw [hf]
  have hno : PV.nowns (mp (stF .fz) [l, m, l]) = true := rfl
  simp only [Rs.bind, itemsOf, hno, if_true]
  refine for_sameG (by decide : 7 < 9) _ fun x hx => ?_
  have : x = l ∨ x = m := by
    simp at hx
    rcases hx with h | h | h
    · exact .inl h
    · exact .inr h
    · exact .inl h
  rcases this with rfl | rfl
  · exact q2_43 hl hll hl hll
  · exact q2_43 hl hll hm hml
theorem q3_43 (S : PV) (a c y : Int) : ∃ a', q3_law (sG43 S (pu a c) (some (.int y)) none none none none none none) = .ok .nx (sG43 S (pu a' c) none none none none none none none) := by
  have hz := szk
  have h2 : 2 ≤ sizeLine := by omega
  have h3 : 3 ≤ sizeLine := by omega
  have d1 := draw_eq a c 4 (by decide) (by decide)
  have b1 := drawn a c 4 (by decide)
  generalize dA a c / 4 = a1 at *
  generalize dA a c % 4 = i1 at *
  have d2 := draw_eq a1 c 61 (by decide) (by decide)
  have b2 := drawn a1 c 61 (by decide)
  generalize dA a1 c / 61 = a2 at *
  generalize dA a1 c % 61 = i2 at *
  have d3 := draw_eq a2 c 140 (by decide) (by decide)
  have b3 := drawn a2 c 140 (by decide)
  generalize dA a2 c / 140 = a3 at *
  generalize dA a2 c % 140 = i3 at *
  have d4 := draw_eq a3 c 2 (by decide) (by decide)
  have b4 := drawn a3 c 2 (by decide)
  generalize dA a3 c / 2 = a4 at *
  generalize dA a3 c % 2 = i4 at *
  let M : PV := .cell .fz .lst [.int i1, .int i2, .int (61 + i3)]
  obtain ⟨m, m0, m1, hm⟩ : ∃ m : Int, 0 ≤ m ∧ m ≤ 300 ∧ (e2 gIx (eVar 4) (e2 gIx (eB (fLst (aCons (fV (eC (.int 0))) (aCons (e2 gAdd (eC (.int 1)) (eB (callF [1] [true, false] run__law_draw (aCons (eVar 1) (aCons (eC (.int 2)) aNil))))) aNil)))) (eCl cIntOf (aCons (e2 (gEq id) (eVar 2) (eC (.int 1))) aNil)))) (sG43 S (pu a3 c) (some (.int y)) (some (stF .own [])) (some M) none none none none) = .ok (.int m) (sG43 S (pu a4 c) (some (.int y)) (some (stF .own [])) (some M) none none none none) := by
    unfold sG43 M
    have ix0 : atI [PV.int 0, PV.int (1 + i4)] 0 = some (.int 0) := rfl
    have ix1 : atI [PV.int 0, PV.int (1 + i4)] 1 = some (.int (1 + i4)) := rfl
    by_cases cy : y = 1
    · have : i4 = 0 ∨ i4 = 1 := by omega
      rcases this with rfl | rfl
      · refine ⟨i2, b2.1, by omega, ?_⟩
        have ixa : atI [PV.int i1, PV.int i2, PV.int (61 + i3)] 1 = some (.int i2) := rfl
        have ixb : atI [PV.int 0, PV.int 1] 1 = some (.int 1) := rfl
        simp [d4, cy, h2, ixP_lst, ix0, ix1, ixa, ixb, cIntOf, Rs.bind, ofO, sSeq, sSet, sNil, sKill, kill, sExpr, sIf, sRet, sRetN, sRaise, sUnG, selT, selL, setAll, sAug, eVar, eC, eB, fV, fMove, PV.give, PV.nb, PV.nbs, PV.nown, PV.nowns, PV.fl, PV.fls, rdV, aNil, aCons, e2, tB, tNotF, tAndF, tOrF, eNot, eAnd, eOr, eIf, gI0, eNeg, fLst, fTup, eTup, eCl, cInt, cInt2, cLen, cList, callF, argsOf, argOf, lookP, okLocs, mutSlots, locSlots, putBack, putB1, back, getP, setP, lVar, lstAt, runB, fin, nbO, look, itemsOf, gCut, oSo, oNo, gIsN, isNon, fCut, nown_ints, nbs_ints, fls_ints, toDs_ints, addP_nm, addP_1L, addP_2L, addP_L1, ints_mp, mp_len, mp_app, mp_take, mp_drop, mp_cut, mp_dropLast, mp_getLast, ePop_P, mp_atI, gEq_P, eqP_int, eqP_bl, eqP_nm, eqP_nil, gIx_P, ixP_nm, gAdd_P, addP_int, mp_snoc, mp_pcons, sz0, sz1, sz2, sz3, sz5, sz8]
      · refine ⟨61 + i3, by omega, by omega, ?_⟩
        have ixa : atI [PV.int i1, PV.int i2, PV.int (61 + i3)] 2 = some (.int (61 + i3)) := rfl
        have ixb : atI [PV.int 0, PV.int 2] 1 = some (.int 2) := rfl
        simp [d4, cy, h2, ixP_lst, ix0, ix1, ixa, ixb, cIntOf, Rs.bind, ofO, sSeq, sSet, sNil, sKill, kill, sExpr, sIf, sRet, sRetN, sRaise, sUnG, selT, selL, setAll, sAug, eVar, eC, eB, fV, fMove, PV.give, PV.nb, PV.nbs, PV.nown, PV.nowns, PV.fl, PV.fls, rdV, aNil, aCons, e2, tB, tNotF, tAndF, tOrF, eNot, eAnd, eOr, eIf, gI0, eNeg, fLst, fTup, eTup, eCl, cInt, cInt2, cLen, cList, callF, argsOf, argOf, lookP, okLocs, mutSlots, locSlots, putBack, putB1, back, getP, setP, lVar, lstAt, runB, fin, nbO, look, itemsOf, gCut, oSo, oNo, gIsN, isNon, fCut, nown_ints, nbs_ints, fls_ints, toDs_ints, addP_nm, addP_1L, addP_2L, addP_L1, ints_mp, mp_len, mp_app, mp_take, mp_drop, mp_cut, mp_dropLast, mp_getLast, ePop_P, mp_atI, gEq_P, eqP_int, eqP_bl, eqP_nm, eqP_nil, gIx_P, ixP_nm, gAdd_P, addP_int, mp_snoc, mp_pcons, sz0, sz1, sz2, sz3, sz5, sz8]
    · refine ⟨i1, b1.1, by omega, ?_⟩
      have ixa : atI [PV.int i1, PV.int i2, PV.int (61 + i3)] 0 = some (.int i1) := rfl
      simp [d4, cy, h2, ixP_lst, ix0, ix1, ixa, cIntOf, Rs.bind, ofO, sSeq, sSet, sNil, sKill, kill, sExpr, sIf, sRet, sRetN, sRaise, sUnG, selT, selL, setAll, sAug, eVar, eC, eB, fV, fMove, PV.give, PV.nb, PV.nbs, PV.nown, PV.nowns, PV.fl, PV.fls, rdV, aNil, aCons, e2, tB, tNotF, tAndF, tOrF, eNot, eAnd, eOr, eIf, gI0, eNeg, fLst, fTup, eTup, eCl, cInt, cInt2, cLen, cList, callF, argsOf, argOf, lookP, okLocs, mutSlots, locSlots, putBack, putB1, back, getP, setP, lVar, lstAt, runB, fin, nbO, look, itemsOf, gCut, oSo, oNo, gIsN, isNon, fCut, nown_ints, nbs_ints, fls_ints, toDs_ints, addP_nm, addP_1L, addP_2L, addP_L1, ints_mp, mp_len, mp_app, mp_take, mp_drop, mp_cut, mp_dropLast, mp_getLast, ePop_P, mp_atI, gEq_P, eqP_int, eqP_bl, eqP_nm, eqP_nil, gIx_P, ixP_nm, gAdd_P, addP_int, mp_snoc, mp_pcons, sz0, sz1, sz2, sz3, sz5, sz8]
  obtain ⟨a5, sts, hs, hl, e5⟩ := g1_43 S (some (.int y)) (some M) c ((List.range m.toNat).map fun k : Nat => (k : Int)) a4 [] (fun b m => by cases m) (by simp; omega)
  have hl : sts.length ≤ 300 := by
    rw [hl]; simp; omega
  refine ⟨a5, ?_⟩
  refine kill_ev (s1 := sG43 S (pu a5 c) (some (.int y)) (some (stF .own sts)) (some M) none (some (stF .fz sts)) none none) ?_ rfl
  refine seq_ev (s1 := sG43 S (pu a c) (some (.int y)) (some (stF .own [])) none none none none none) (by unfold sG43; simp [mp_nil, Rs.bind, ofO, sSeq, sSet, sNil, sKill, kill, sExpr, sIf, sRet, sRetN, sRaise, sUnG, selT, selL, setAll, sAug, eVar, eC, eB, fV, fMove, PV.give, PV.nb, PV.nbs, PV.nown, PV.nowns, PV.fl, PV.fls, rdV, aNil, aCons, e2, tB, tNotF, tAndF, tOrF, eNot, eAnd, eOr, eIf, gI0, eNeg, fLst, fTup, eTup, eCl, cInt, cInt2, cLen, cList, callF, argsOf, argOf, lookP, okLocs, mutSlots, locSlots, putBack, putB1, back, getP, setP, lVar, lstAt, runB, fin, nbO, look, itemsOf, gCut, oSo, oNo, gIsN, isNon, fCut, nown_ints, nbs_ints, fls_ints, toDs_ints, addP_nm, addP_1L, addP_2L, addP_L1, ints_mp, mp_len, mp_app, mp_take, mp_drop, mp_cut, mp_dropLast, mp_getLast, ePop_P, mp_atI, gEq_P, eqP_int, eqP_bl, eqP_nm, eqP_nil, gIx_P, ixP_nm, gAdd_P, addP_int, mp_snoc, mp_pcons, sz0, sz1, sz2, sz3, sz5, sz8]) ?_
  refine seq_ev (s1 := sG43 S (pu a3 c) (some (.int y)) (some (stF .own [])) (some M) none none none none) (by unfold sG43; simp [d1, d2, d3, h3, M, Rs.bind, ofO, sSeq, sSet, sNil, sKill, kill, sExpr, sIf, sRet, sRetN, sRaise, sUnG, selT, selL, setAll, sAug, eVar, eC, eB, fV, fMove, PV.give, PV.nb, PV.nbs, PV.nown, PV.nowns, PV.fl, PV.fls, rdV, aNil, aCons, e2, tB, tNotF, tAndF, tOrF, eNot, eAnd, eOr, eIf, gI0, eNeg, fLst, fTup, eTup, eCl, cInt, cInt2, cLen, cList, callF, argsOf, argOf, lookP, okLocs, mutSlots, locSlots, putBack, putB1, back, getP, setP, lVar, lstAt, runB, fin, nbO, look, itemsOf, gCut, oSo, oNo, gIsN, isNon, fCut, nown_ints, nbs_ints, fls_ints, toDs_ints, addP_nm, addP_1L, addP_2L, addP_L1, ints_mp, mp_len, mp_app, mp_take, mp_drop, mp_cut, mp_dropLast, mp_getLast, ePop_P, mp_atI, gEq_P, eqP_int, eqP_bl, eqP_nm, eqP_nil, gIx_P, ixP_nm, gAdd_P, addP_int, mp_snoc, mp_pcons, sz0, sz1, sz2, sz3, sz5, sz8]) ?_
  refine seq_ev (s1 := sG43 S (pu a5 c) (some (.int y)) (some (stF .own sts)) (some M) none none none none) ?_ ?_
  · unfold l1_law
    rw [forR1_eq hm (by omega), range_mp]
    exact e5
  refine seq_ev (s1 := sG43 S (pu a5 c) (some (.int y)) (some (stF .own sts)) (some M) none (some (stF .fz sts)) none none) ?_ (for_q2 hs (by omega))
  unfold sG43 stF
  simp [stF_nowns, stF_nbs, stF_fls, cutA_all, Rs.bind, ofO, sSeq, sSet, sNil, sKill, kill, sExpr, sIf, sRet, sRetN, sRaise, sUnG, selT, selL, setAll, sAug, eVar, eC, eB, fV, fMove, PV.give, PV.nb, PV.nbs, PV.nown, PV.nowns, PV.fl, PV.fls, rdV, aNil, aCons, e2, tB, tNotF, tAndF, tOrF, eNot, eAnd, eOr, eIf, gI0, eNeg, fLst, fTup, eTup, eCl, cInt, cInt2, cLen, cList, callF, argsOf, argOf, lookP, okLocs, mutSlots, locSlots, putBack, putB1, back, getP, setP, lVar, lstAt, runB, fin, nbO, look, itemsOf, gCut, oSo, oNo, gIsN, isNon, fCut, nown_ints, nbs_ints, fls_ints, toDs_ints, addP_nm, addP_1L, addP_2L, addP_L1, ints_mp, mp_len, mp_app, mp_take, mp_drop, mp_cut, mp_dropLast, mp_getLast, ePop_P, mp_atI, gEq_P, eqP_int, eqP_bl, eqP_nm, eqP_nil, gIx_P, ixP_nm, gAdd_P, addP_int, mp_snoc, mp_pcons, sz0, sz1, sz2, sz3, sz5, sz8]
theorem l3_43 (S : PV) (c : Int) : ∀ (ks : List Int) (a : Int), ∃ a', sForL 2 q3_law (mp PV.int ks) (sG43 S (pu a c) none none none none none none none) = .ok .nx (sG43 S (pu a' c) none none none none none none none)
  | [], a => ⟨a, rfl⟩
  | k :: ks, a => by
    obtain ⟨a1, e1⟩ := q3_43 S a c k
    obtain ⟨a2, e2'⟩ := l3_43 S c ks a1
    exact ⟨a2, by rw [mp_cons, for_go (by decide : 2 < 9) e1, e2']⟩
theorem law_true (ns : List Int) (h : ns.length ≤ 63) : ∃ ys, run_law [.cl (ns.map PV.int)] = .ok (.bl true) ys := by
  obtain ⟨a, c, e1⟩ := purse_eq ns h
  generalize ns.map PV.int = S at *
  obtain ⟨a2, e2'⟩ := l3_43 (.cl S) c ((List.range 4).map fun k : Nat => (k : Int)) a
  have e3 := show_steps_eq true (l := []) (fun a m => by cases m) (by decide)
  have e4 : eqP (.str (rowTx [])) (.str ("" : Str)) = some true := by
    rw [eqP_str (by decide +kernel) (by decide +kernel)]
    simp
    decide +kernel
  refine ⟨_, runB_go (s0 := [some (.cl S), none, none, none, none, none, none, none, none]) (s := sG43 (.cl S) (pu a2 c) none none none none none none none) rfl ?_ rfl rfl rfl⟩
  unfold b_law
  refine seq_ev (s1 := sG43 (.cl S) (pu a c) none none none none none none none) (by unfold sG43; simp [e1, Rs.bind, ofO, sSeq, sSet, sNil, sKill, kill, sExpr, sIf, sRet, sRetN, sRaise, sUnG, selT, selL, setAll, sAug, eVar, eC, eB, fV, fMove, PV.give, PV.nb, PV.nbs, PV.nown, PV.nowns, PV.fl, PV.fls, rdV, aNil, aCons, e2, tB, tNotF, tAndF, tOrF, eNot, eAnd, eOr, eIf, gI0, eNeg, fLst, fTup, eTup, eCl, cInt, cInt2, cLen, cList, callF, argsOf, argOf, lookP, okLocs, mutSlots, locSlots, putBack, putB1, back, getP, setP, lVar, lstAt, runB, fin, nbO, look, itemsOf, gCut, oSo, oNo, gIsN, isNon, fCut, nown_ints, nbs_ints, fls_ints, toDs_ints, addP_nm, addP_1L, addP_2L, addP_L1, ints_mp, mp_len, mp_app, mp_take, mp_drop, mp_cut, mp_dropLast, mp_getLast, ePop_P, mp_atI, gEq_P, eqP_int, eqP_bl, eqP_nm, eqP_nil, gIx_P, ixP_nm, gAdd_P, addP_int, mp_snoc, mp_pcons, sz0, sz1, sz2, sz3, sz5, sz8]) ?_
  refine seq_ev (s1 := sG43 (.cl S) (pu a2 c) none none none none none none none) ?_ ?_
  · unfold l3_law
    have hr : eC (.int 4) (sG43 (.cl S) (pu a c) none none none none none none none) = .ok (.int 4) (sG43 (.cl S) (pu a c) none none none none none none none) := rfl
    rw [forR1_eq hr (by decide), range_mp]
    exact e2'
  · have e3 : run_show_steps [.cell .fz .lst []] = .ok (.str (rowTx [])) [none] := e3
    unfold sG43
    simp [e3, e4, Rs.bind, ofO, sSeq, sSet, sNil, sKill, kill, sExpr, sIf, sRet, sRetN, sRaise, sUnG, selT, selL, setAll, sAug, eVar, eC, eB, fV, fMove, PV.give, PV.nb, PV.nbs, PV.nown, PV.nowns, PV.fl, PV.fls, rdV, aNil, aCons, e2, tB, tNotF, tAndF, tOrF, eNot, eAnd, eOr, eIf, gI0, eNeg, fLst, fTup, eTup, eCl, cInt, cInt2, cLen, cList, callF, argsOf, argOf, lookP, okLocs, mutSlots, locSlots, putBack, putB1, back, getP, setP, lVar, lstAt, runB, fin, nbO, look, itemsOf, gCut, oSo, oNo, gIsN, isNon, fCut, nown_ints, nbs_ints, fls_ints, toDs_ints, addP_nm, addP_1L, addP_2L, addP_L1, ints_mp, mp_len, mp_app, mp_take, mp_drop, mp_cut, mp_dropLast, mp_getLast, ePop_P, mp_atI, gEq_P, eqP_int, eqP_bl, eqP_nm, eqP_nil, gIx_P, ixP_nm, gAdd_P, addP_int, mp_snoc, mp_pcons, sz0, sz1, sz2, sz3, sz5, sz8]
end A
namespace A
open PySem PySem.Spec PyProof.Rows L2 Z
def topS (i : Nat) : Stmt := PySem.Challenge.pw_askrise_k43_steps_shown.main.body.getD i (.Pass ⟨0, 0, 0, 0⟩)
abbrev s_show_steps : Stmt := topS 1
abbrev N_show_steps : List Str := ["steps", "kind", "number"]
theorem sc_show_steps : FnScope N_show_steps ["steps"] (defScope s_show_steps) := ⟨rfl, rfl, rfl, by decide +kernel, rfl, by decide +kernel, by decide +kernel⟩
abbrev s__law_mixed : Stmt := topS 3
abbrev N__law_mixed : List Str := ["_law_cell", "_law_k", "_law_number_here"]
theorem sc__law_mixed : FnScope N__law_mixed ["_law_cell", "_law_k"] (defScope s__law_mixed) := ⟨rfl, rfl, rfl, by decide +kernel, rfl, by decide +kernel, by decide +kernel⟩
abbrev s__law_purse : Stmt := topS 4
abbrev N__law_purse : List Str := ["_law_script", "_law_cells", "_law_number_here", "_law_k"]
theorem sc__law_purse : FnScope N__law_purse ["_law_script"] (defScope s__law_purse) := ⟨rfl, rfl, rfl, by decide +kernel, rfl, by decide +kernel, by decide +kernel⟩
abbrev s__law_draw : Stmt := topS 5
abbrev N__law_draw : List Str := ["_law_purse_here", "_law_out_of", "_law_drawn"]
theorem sc__law_draw : FnScope N__law_draw ["_law_purse_here", "_law_out_of"] (defScope s__law_draw) := ⟨rfl, rfl, rfl, by decide +kernel, rfl, by decide +kernel, by decide +kernel⟩
abbrev s__law_number : Stmt := topS 6
abbrev N__law_number : List Str := ["_law_purse_here", "_law_wide"]
theorem sc__law_number : FnScope N__law_number ["_law_purse_here"] (defScope s__law_number) := ⟨rfl, rfl, rfl, by decide +kernel, rfl, by decide +kernel, by decide +kernel⟩
abbrev s__law_text_of : Stmt := topS 7
abbrev N__law_text_of : List Str := ["_law_steps", "_law_found", "_law_kind", "_law_number_here"]
theorem sc__law_text_of : FnScope N__law_text_of ["_law_steps"] (defScope s__law_text_of) := ⟨rfl, rfl, rfl, by decide +kernel, rfl, by decide +kernel, by decide +kernel⟩
abbrev s_law : Stmt := topS 8
abbrev N_law : List Str := ["_law_script", "_law_purse_here", "_law_turn", "_law_steps", "_law_many", "_law_k", "_law_handed", "_law_some", "_law_found"]
theorem sc_law : FnScope N_law ["_law_script"] (defScope s_law) := ⟨rfl, rfl, rfl, by decide +kernel, rfl, by decide +kernel, by decide +kernel⟩
/-- what the top has -/
structure G (K : PySem.W.Frag) (mg : Str → Option Value) (C : Str → Addr) : Prop where
  D_show_steps : DefAt K mg "show_steps" s_show_steps ["steps"]
  D__law_mixed : DefAt K mg "_law_mixed" s__law_mixed ["_law_cell", "_law_k"]
  D__law_purse : DefAt K mg "_law_purse" s__law_purse ["_law_script"]
  D__law_draw : DefAt K mg "_law_draw" s__law_draw ["_law_purse_here", "_law_out_of"]
  D__law_number : DefAt K mg "_law_number" s__law_number ["_law_purse_here"]
  D__law_text_of : DefAt K mg "_law_text_of" s__law_text_of ["_law_steps"]
  D_law : DefAt K mg "law" s_law ["_law_script"]
  m_len : mg "len" = none
  m_int : mg "int" = none
  m_list : mg "list" = none
  m_range : mg "range" = none
  m_isinstance : mg "isinstance" = none
  m_str : mg "str" = none
  IT_ : IT K C isiT
  XT_ : ∀ c n b, catT c n = some b → PySem.W.exmOne K (.ref (C n)) (c.val C) = some b
theorem ok_show_steps {P : Program} {w : World} {K : PySem.W.Frag} {mg : Str → Option Value} {base : Heap} {C : Str → Addr} (g : G K mg C) : Fn P w ⟨K, C⟩ mg base "show_steps" 1 [false] run_show_steps := by
  have nd := sc_show_steps.nd
  have m_str := g.m_str
  refine fn_at (K := ⟨K, C⟩) (k := 0) g.D_show_steps sc_show_steps rfl fun f cdv A outer s H E B W hr hC tk hB => ?_
  have hC : B.C = C := hC
  subst hC
  exact (vss_one (vs_ret (VE.vf (ve_join ve_str (VF.ve (vf_lc2 1 2 (by decide) rfl nd (vv 0) (blkOk_by (N := N_show_steps) (sc := defScope s_show_steps) (own := [("kind", 1), ("number", 2)]) (by decide +kernel)) (hB 1 (by decide)) (hB 2 (by decide)) (fun _ _ _ _ _ => pg_tup rfl (pgs_cons (pg_name nd rfl (by first | exact .inl rfl | exact .inr rfl)) (pgs_cons (pg_name nd rfl (by first | exact .inl rfl | exact .inr rfl)) pgs_nil))) (fun _ _ _ _ _ => vts_nil) (fun _ _ _ _ _ => (vf_add (VF.ve (vf_add (vv 1) ve_str)) (ve_callTy call_str_int pc_str m_str (va_cons (vv 2) va_nil) (by rfl))))))))))

theorem ok__law_mixed {P : Program} {w : World} {K : PySem.W.Frag} {mg : Str → Option Value} {base : Heap} {C : Str → Addr} (g : G K mg C) : Fn P w ⟨K, C⟩ mg base "_law_mixed" 1 [false, false] run__law_mixed := by
  have nd := sc__law_mixed.nd
  refine fn_at (K := ⟨K, C⟩) (k := 0) g.D__law_mixed sc__law_mixed rfl fun f cdv A outer s H E B W hr hC tk hB => ?_
  have hC : B.C = C := hC
  subst hC
  exact (vss_cons (vs_set 0 nd (VE.vf (ve_mod (vv 0) ve_int)) (hB 0 (by decide)) rfl (by first | exact .inl rfl | exact .inr rfl))
      (vss_cons (vs_set 2 nd (VE.vf (ve_mod (ve_mul (VF.ve (vf_add (VF.ve (vf_add (VF.ve (vf_add (ve_mul (vv 0) (vv 0)) (ve_mul ve_int (vv 0)))) (ve_mul ve_int (vv 1)))) ve_int)) ve_int) ve_int)) (hB 2 (by decide)) rfl (by first | exact .inl rfl | exact .inr rfl))
      (vss_cons (vs_set 2 nd (VE.vf (ve_mod (VF.ve (vf_add (ve_mul (vv 2) (vv 2)) ve_int)) ve_int)) (hB 2 (by decide)) rfl (by first | exact .inl rfl | exact .inr rfl))
      (vss_one (vs_ret (VE.vf (ve_mod (ve_mul (vv 2) (VF.ve (vf_add (vv 2) ve_int))) ve_int)))))))

theorem ok__law_purse {P : Program} {w : World} {K : PySem.W.Frag} {mg : Str → Option Value} {base : Heap} {C : Str → Addr} (g : G K mg C) : Fn P w ⟨K, C⟩ mg base "_law_purse" 2 [false] run__law_purse := by
  have nd := sc__law_purse.nd
  have m_len := g.m_len
  have m_range := g.m_range
  have F__law_mixed := ok__law_mixed (P := P) (w := w) (base := base) g
  refine fn_at (K := ⟨K, C⟩) (k := 1) g.D__law_purse sc__law_purse rfl fun f cdv A outer s H E B W hr hC tk hB => ?_
  have hC : B.C = C := hC
  subst hC
  exact (vss_cons (vs_set 1 nd (VE.vf (VF.ve (vf_add (VF.ve (vf_slice (vv 0) vo_none (vo_some ve_int))) (VF.ve (vf_lst (vfa_cons (VE.vf ve_int) vfa_nil)))))) (hB 1 (by decide)) rfl (by first | exact .inl rfl | exact .inr rfl))
      (vss_cons (vs_set 2 nd (VE.vf ve_int) (hB 2 (by decide)) rfl (by first | exact .inl rfl | exact .inr rfl))
      (vss_cons (vs_forR1 3 nd (passes_of rfl) rfl m_range (va_cons ve_int va_nil) (vss_kill [3] (vss_one (vs_set 2 nd (vf_add (ve_mul (vv 2) ve_int) (VF.ve (vf_call [] F__law_mixed (hr.mono (by omega)) tk (va_cons (ve_item (vv 1) (ve_mod (vv 3) (ve_callB call_len pc_len m_len (va_cons (vv 1) va_nil) (by rfl)))) (va_cons (vv 3) va_nil)) (by rfl)))) (hB 2 (by decide)) rfl (by first | exact .inl rfl | exact .inr rfl)))) (hB 3 (by decide)) rfl rfl (by first | exact .inl rfl | exact .inr rfl))
      (vss_cons (vs_if (vt_ge (ve_item (vv 1) ve_int) (ve_pow ve_int ve_int)) (vss_one (vs_ret (vf_lst (vfa_cons (VE.vf (ve_fdiv (ve_item (vv 1) ve_int) (ve_pow ve_int ve_int))) (vfa_cons (vf_move 2) vfa_nil))))) vss_nil)
      (vss_one (vs_ret (vf_lst (vfa_cons (vf_move 2) (vfa_cons (vf_move 2) vfa_nil)))))))))

theorem ok__law_draw {P : Program} {w : World} {K : PySem.W.Frag} {mg : Str → Option Value} {base : Heap} {C : Str → Addr} (g : G K mg C) : Fn P w ⟨K, C⟩ mg base "_law_draw" 1 [true, false] run__law_draw := by
  have nd := sc__law_draw.nd
  refine fn_at (K := ⟨K, C⟩) (k := 0) g.D__law_draw sc__law_draw rfl fun f cdv A outer s H E B W hr hC tk hB => ?_
  have hC : B.C = C := hC
  subst hC
  exact (vss_cons (vs_if (vt_eq hr (ve_item (vv 0) ve_int) ve_int) (vss_one (vs_setI (VE.vf (ve_item (vv 0) ve_int)) (vl_var 0) ve_int)) vss_nil)
      (vss_cons (vs_set 2 nd (VE.vf (ve_mod (ve_item (vv 0) ve_int) (vv 1))) (hB 2 (by decide)) rfl (by first | exact .inl rfl | exact .inr rfl))
      (vss_cons (vs_setI (VE.vf (ve_fdiv (ve_item (vv 0) ve_int) (vv 1))) (vl_var 0) ve_int)
      (vss_one (vs_ret (vf_move 2))))))

theorem ok__law_number {P : Program} {w : World} {K : PySem.W.Frag} {mg : Str → Option Value} {base : Heap} {C : Str → Addr} (g : G K mg C) : Fn P w ⟨K, C⟩ mg base "_law_number" 2 [true] run__law_number := by
  have nd := sc__law_number.nd
  have F__law_draw := ok__law_draw (P := P) (w := w) (base := base) g
  refine fn_at (K := ⟨K, C⟩) (k := 1) g.D__law_number sc__law_number rfl fun f cdv A outer s H E B W hr hC tk hB => ?_
  have hC : B.C = C := hC
  subst hC
  exact (vss_cons (vs_set 1 nd (VE.vf (ve_item (VF.ve (vf_lst (vfa_cons (VE.vf ve_int) (vfa_cons (VE.vf ve_int) (vfa_cons (VE.vf (ve_sub (ve_pow ve_int ve_int) ve_int)) vfa_nil))))) (VF.ve (vf_call [0] F__law_draw (hr.mono (by omega)) tk (va_cons (vv 0) (va_cons ve_int va_nil)) (by rfl))))) (hB 1 (by decide)) rfl (by first | exact .inl rfl | exact .inr rfl))
      (vss_one (vs_ret (VE.vf (ve_sub (VF.ve (vf_call [0] F__law_draw (hr.mono (by omega)) tk (va_cons (vv 0) (va_cons (VF.ve (vf_add (ve_mul ve_int (vv 1)) ve_int)) va_nil)) (by rfl))) (vv 1))))))

theorem ok__law_text_of {P : Program} {w : World} {K : PySem.W.Frag} {mg : Str → Option Value} {base : Heap} {C : Str → Addr} (g : G K mg C) : Fn P w ⟨K, C⟩ mg base "_law_text_of" 1 [false] run__law_text_of := by
  have nd := sc__law_text_of.nd
  have m_str := g.m_str
  refine fn_at (K := ⟨K, C⟩) (k := 0) g.D__law_text_of sc__law_text_of rfl fun f cdv A outer s H E B W hr hC tk hB => ?_
  have hC : B.C = C := hC
  subst hC
  exact (vss_cons (vs_set 1 nd (VE.vf ve_str) (hB 1 (by decide)) rfl (by first | exact .inl rfl | exact .inr rfl))
      (vss_cons (vs_for2 2 3 (passes_of rfl) rfl (vv 0) (vss_kill [2, 3] (vss_cons (vs_if (vt_ne hr (vv 1) ve_str) (vss_one (vs_set 1 nd (vf_add (vv 1) ve_str) (hB 1 (by decide)) rfl (by first | exact .inl rfl | exact .inr rfl))) vss_nil)
      (vss_one (vs_set 1 nd (vf_add (VF.ve (vf_add (VF.ve (vf_add (vv 1) (vv 2))) ve_str)) (ve_callTy call_str_int pc_str m_str (va_cons (vv 3) va_nil) (by rfl))) (hB 1 (by decide)) rfl (by first | exact .inl rfl | exact .inr rfl))))) (hB 2 (by decide)) (hB 3 (by decide)) (pg_tup rfl (pgs_cons (pg_name nd rfl (by first | exact .inl rfl | exact .inr rfl)) (pgs_cons (pg_name nd rfl (by first | exact .inl rfl | exact .inr rfl)) pgs_nil))))
      (vss_one (vs_ret (vf_move 1)))))
theorem ok_law0 {P : Program} {w : World} {K : PySem.W.Frag} {mg : Str → Option Value} {base : Heap} {C : Str → Addr} (g : G K mg C) {f : Addr} {fd : FuncData} (F : Fun K "law" "law" s_law f fd) : FnOk P w K mg base (L2.CX P w) 3 f fd ["_law_script"] (toSp ⟨K, C⟩ [false] run_law) := by
  have nd := sc_law.nd
  have m_int := g.m_int
  have m_isinstance := g.m_isinstance
  have m_len := g.m_len
  have m_list := g.m_list
  have m_range := g.m_range
  have m_str := g.m_str
  have F__law_draw := ok__law_draw (P := P) (w := w) (base := base) g
  have F__law_number := ok__law_number (P := P) (w := w) (base := base) g
  have F__law_purse := ok__law_purse (P := P) (w := w) (base := base) g
  have F__law_text_of := ok__law_text_of (P := P) (w := w) (base := base) g
  have F_show_steps := ok_show_steps (P := P) (w := w) (base := base) g
  have IT_ := g.IT_
  refine fnok_mk (K := ⟨K, C⟩) (k := 2) F sc_law rfl fun cdv A outer s H E B W hr hC tk hB => ?_
  have hC : B.C = C := hC
  subst hC
  exact (vss_cons (vs_set 1 nd (vf_call [] F__law_purse (hr.mono (by omega)) tk (va_cons (vv 0) va_nil) (by rfl)) (hB 1 (by decide)) rfl (by first | exact .inl rfl | exact .inr rfl))
      (vss_cons (vs_forR1 2 nd (passes_of rfl) rfl m_range (va_cons ve_int va_nil) (vss_kill [2, 3, 4, 5, 6, 7, 8] (vss_cons (vs_set 3 nd (vf_lst vfa_nil) (hB 3 (by decide)) rfl (by first | exact .inl rfl | exact .inr rfl))
      (vss_cons (vs_set 4 nd (VE.vf (VF.ve (vf_lst (vfa_cons (vf_call [1] F__law_draw (hr.mono (by omega)) tk (va_cons (vv 1) (va_cons ve_int va_nil)) (by rfl)) (vfa_cons (vf_call [1] F__law_draw (hr.mono (by omega)) tk (va_cons (vv 1) (va_cons ve_int va_nil)) (by rfl)) (vfa_cons (vf_add ve_int (VF.ve (vf_call [1] F__law_draw (hr.mono (by omega)) tk (va_cons (vv 1) (va_cons ve_int va_nil)) (by rfl)))) vfa_nil)))))) (hB 4 (by decide)) rfl (by first | exact .inl rfl | exact .inr rfl))
      (vss_cons (vs_forR1 5 nd (passes_of rfl) rfl m_range (va_cons (ve_item (vv 4) (ve_item (VF.ve (vf_lst (vfa_cons (VE.vf ve_int) (vfa_cons (vf_add ve_int (VF.ve (vf_call [1] F__law_draw (hr.mono (by omega)) tk (va_cons (vv 1) (va_cons ve_int va_nil)) (by rfl)))) vfa_nil)))) (ve_callTy call_int1 pc_int m_int (va_cons (ve_eq hr (vv 2) ve_int) va_nil) (by rfl)))) va_nil) (vss_kill [5] (vss_one (vs_expr (ve_append (vl_var 3) (vf_tup (vfa_cons (VE.vf (ve_item (VF.ve (vf_lst (vfa_cons (VE.vf ve_str) (vfa_cons (VE.vf ve_str) (vfa_cons (VE.vf ve_str) (vfa_cons (VE.vf ve_str) (vfa_cons (VE.vf ve_str) vfa_nil))))))) (VF.ve (vf_call [1] F__law_draw (hr.mono (by omega)) tk (va_cons (vv 1) (va_cons ve_int va_nil)) (by rfl))))) (vfa_cons (vf_call [1] F__law_number (hr.mono (by omega)) tk (va_cons (vv 1) va_nil) (by rfl)) vfa_nil))) stb_var)))) (hB 5 (by decide)) rfl rfl (by first | exact .inl rfl | exact .inr rfl))
      (vss_cons (vs_set 6 nd (VE.vf (VF.ve (vf_callTy call_list_of fc_list m_list (va_cons (vv 3) va_nil) (by rfl)))) (hB 6 (by decide)) rfl (by first | exact .inl rfl | exact .inr rfl))
      (vss_one (vs_for 7 nd (passes_of rfl) rfl (VF.ve (vf_lst (vfa_cons (vf_move 6) (vfa_cons (vf_slice (vv 6) vo_none (vo_some (ve_fdiv (ve_callB call_len pc_len m_len (va_cons (vv 3) va_nil) (by rfl)) ve_int))) (vfa_cons (vf_move 6) vfa_nil))))) (vss_kill [7, 8] (vss_cons (vs_set 8 nd (VE.vf (VF.ve (vf_call [] F_show_steps (hr.mono (by omega)) tk (va_cons (vv 7) va_nil) (by rfl)))) (hB 8 (by decide)) rfl (by first | exact .inl rfl | exact .inr rfl))
      (vss_one (vs_if (VW.vt (vw_or (vt_not (vt_val (ve_isi (c := (.ty "str")) IT_ m_isinstance (VE.vp (vv 8)) (pcl_ty _ m_str (by rfl) (by decide +kernel)) (by rfl)))) (vw_or (vt_ne hr (vv 8) (VF.ve (vf_call [] F__law_text_of (hr.mono (by omega)) tk (va_cons (vv 7) va_nil) (by rfl)))) (vw_or1 (vt_ne hr (vv 6) (vv 3)))))) (vss_one (vs_ret (VE.vf ve_bl))) vss_nil)))) (hB 7 (by decide)) rfl (by first | exact .inl rfl | exact .inr rfl)))))))) (hB 2 (by decide)) rfl rfl (by first | exact .inl rfl | exact .inr rfl))
      (vss_one (vs_ret (VE.vf (ve_eq hr (VF.ve (vf_call [] F_show_steps (hr.mono (by omega)) tk (va_cons (VF.ve (vf_lst vfa_nil)) va_nil) (by rfl))) ve_str))))))
end A
namespace A
open PySem PySem.Spec PyProof.Rows L2 Z
theorem all_mk {P : Program} {w : World} {K : PySem.W.Frag} {h : Heap} {mg : Str → Option Value} {fa : Addr} (X : K.In h) (G : h.Ns mainGlobals mg) (hfa : mg "law" = some (.ref fa))
    {f0 : Addr} {od0 an0 : Option Addr} {sl0 : Array (Option Value)} {oc0 kV0 dc0 pm0 cd0 ct0 : Value}
    {f1 : Addr} {od1 an1 : Option Addr} {sl1 : Array (Option Value)} {oc1 kV1 dc1 pm1 cd1 ct1 : Value}
    {f2 : Addr} {od2 an2 : Option Addr} {sl2 : Array (Option Value)} {oc2 kV2 dc2 pm2 cd2 ct2 : Value}
    {f3 : Addr} {od3 an3 : Option Addr} {sl3 : Array (Option Value)} {oc3 kV3 dc3 pm3 cd3 ct3 : Value}
    {f4 : Addr} {od4 an4 : Option Addr} {sl4 : Array (Option Value)} {oc4 kV4 dc4 pm4 cd4 ct4 : Value}
    {f5 : Addr} {od5 an5 : Option Addr} {sl5 : Array (Option Value)} {oc5 kV5 dc5 pm5 cd5 ct5 : Value}
    {f6 : Addr} {od6 an6 : Option Addr} {sl6 : Array (Option Value)} {oc6 kV6 dc6 pm6 cd6 ct6 : Value}
    (a0 : PySem.W.nsIn K mainGlobals "show_steps" = some (some (.ref f0))) (l0 : K.lookup f0 = some ⟨oc0, od0, .func (PySem.W.fnOf "show_steps" "show_steps" (defArgs s_show_steps) (defBody s_show_steps) (defScope s_show_steps) .none kV0 dc0 pm0 an0 cd0 ct0), sl0⟩) (c0 : PySem.W.codeIn K cd0 "show_steps" = true) (k0 : PySem.W.keepIn K (.ref f0) = true)
    (a1 : PySem.W.nsIn K mainGlobals "_law_mixed" = some (some (.ref f1))) (l1 : K.lookup f1 = some ⟨oc1, od1, .func (PySem.W.fnOf "_law_mixed" "_law_mixed" (defArgs s__law_mixed) (defBody s__law_mixed) (defScope s__law_mixed) .none kV1 dc1 pm1 an1 cd1 ct1), sl1⟩) (c1 : PySem.W.codeIn K cd1 "_law_mixed" = true) (k1 : PySem.W.keepIn K (.ref f1) = true)
    (a2 : PySem.W.nsIn K mainGlobals "_law_purse" = some (some (.ref f2))) (l2 : K.lookup f2 = some ⟨oc2, od2, .func (PySem.W.fnOf "_law_purse" "_law_purse" (defArgs s__law_purse) (defBody s__law_purse) (defScope s__law_purse) .none kV2 dc2 pm2 an2 cd2 ct2), sl2⟩) (c2 : PySem.W.codeIn K cd2 "_law_purse" = true) (k2 : PySem.W.keepIn K (.ref f2) = true)
    (a3 : PySem.W.nsIn K mainGlobals "_law_draw" = some (some (.ref f3))) (l3 : K.lookup f3 = some ⟨oc3, od3, .func (PySem.W.fnOf "_law_draw" "_law_draw" (defArgs s__law_draw) (defBody s__law_draw) (defScope s__law_draw) .none kV3 dc3 pm3 an3 cd3 ct3), sl3⟩) (c3 : PySem.W.codeIn K cd3 "_law_draw" = true) (k3 : PySem.W.keepIn K (.ref f3) = true)
    (a4 : PySem.W.nsIn K mainGlobals "_law_number" = some (some (.ref f4))) (l4 : K.lookup f4 = some ⟨oc4, od4, .func (PySem.W.fnOf "_law_number" "_law_number" (defArgs s__law_number) (defBody s__law_number) (defScope s__law_number) .none kV4 dc4 pm4 an4 cd4 ct4), sl4⟩) (c4 : PySem.W.codeIn K cd4 "_law_number" = true) (k4 : PySem.W.keepIn K (.ref f4) = true)
    (a5 : PySem.W.nsIn K mainGlobals "_law_text_of" = some (some (.ref f5))) (l5 : K.lookup f5 = some ⟨oc5, od5, .func (PySem.W.fnOf "_law_text_of" "_law_text_of" (defArgs s__law_text_of) (defBody s__law_text_of) (defScope s__law_text_of) .none kV5 dc5 pm5 an5 cd5 ct5), sl5⟩) (c5 : PySem.W.codeIn K cd5 "_law_text_of" = true) (k5 : PySem.W.keepIn K (.ref f5) = true)
    (a6 : PySem.W.nsIn K mainGlobals "law" = some (some (.ref f6))) (l6 : K.lookup f6 = some ⟨oc6, od6, .func (PySem.W.fnOf "law" "law" (defArgs s_law) (defBody s_law) (defScope s_law) .none kV6 dc6 pm6 an6 cd6 ct6), sl6⟩) (c6 : PySem.W.codeIn K cd6 "law" = true) (k6 : PySem.W.keepIn K (.ref f6) = true)
    (z_len : PySem.W.nsIn K mainGlobals "len" = some none)
    (z_int : PySem.W.nsIn K mainGlobals "int" = some none)
    (z_list : PySem.W.nsIn K mainGlobals "list" = some none)
    (z_range : PySem.W.nsIn K mainGlobals "range" = some none)
    (z_isinstance : PySem.W.nsIn K mainGlobals "isinstance" = some none)
    (z_str : PySem.W.nsIn K mainGlobals "str" = some none) :
    ∃ fd : FuncData, (∀ (s : Shared) (v : Value), BindsTo s fd ⟨[v], []⟩ [("_law_script", v)]) ∧ ∃ C : Str → Addr, ∀ base : Heap, K.In base → base.Ns mainGlobals mg → FnOk P w K mg base (L2.CX P w) 3 fa fd ["_law_script"] (toSp ⟨K, C⟩ [false] run_law) := by
  have e := hfa.symm.trans (PySem.W.mg_of X G a6)
  cases e
  have g : A.G K mg (fun x => 0) := {
    D_show_steps := ⟨_, _, fun_mk (st := s_show_steps) l0 c0 k0, PySem.W.mg_of X G a0, (fun_mk (st := s_show_steps) l0 c0 k0).binds (ps := ["steps"]) fun _ _ _ _ _ _ us hl => match us, hl with | [_], _ => rfl⟩,
    D__law_mixed := ⟨_, _, fun_mk (st := s__law_mixed) l1 c1 k1, PySem.W.mg_of X G a1, (fun_mk (st := s__law_mixed) l1 c1 k1).binds (ps := ["_law_cell", "_law_k"]) fun _ _ _ _ _ _ us hl => match us, hl with | [_, _], _ => rfl⟩,
    D__law_purse := ⟨_, _, fun_mk (st := s__law_purse) l2 c2 k2, PySem.W.mg_of X G a2, (fun_mk (st := s__law_purse) l2 c2 k2).binds (ps := ["_law_script"]) fun _ _ _ _ _ _ us hl => match us, hl with | [_], _ => rfl⟩,
    D__law_draw := ⟨_, _, fun_mk (st := s__law_draw) l3 c3 k3, PySem.W.mg_of X G a3, (fun_mk (st := s__law_draw) l3 c3 k3).binds (ps := ["_law_purse_here", "_law_out_of"]) fun _ _ _ _ _ _ us hl => match us, hl with | [_, _], _ => rfl⟩,
    D__law_number := ⟨_, _, fun_mk (st := s__law_number) l4 c4 k4, PySem.W.mg_of X G a4, (fun_mk (st := s__law_number) l4 c4 k4).binds (ps := ["_law_purse_here"]) fun _ _ _ _ _ _ us hl => match us, hl with | [_], _ => rfl⟩,
    D__law_text_of := ⟨_, _, fun_mk (st := s__law_text_of) l5 c5 k5, PySem.W.mg_of X G a5, (fun_mk (st := s__law_text_of) l5 c5 k5).binds (ps := ["_law_steps"]) fun _ _ _ _ _ _ us hl => match us, hl with | [_], _ => rfl⟩,
    D_law := ⟨_, _, fun_mk (st := s_law) l6 c6 k6, PySem.W.mg_of X G a6, (fun_mk (st := s_law) l6 c6 k6).binds (ps := ["_law_script"]) fun _ _ _ _ _ _ us hl => match us, hl with | [_], _ => rfl⟩,
    m_len := PySem.W.mg_none_of X G z_len,
    m_int := PySem.W.mg_none_of X G z_int,
    m_list := PySem.W.mg_none_of X G z_list,
    m_range := PySem.W.mg_none_of X G z_range,
    m_isinstance := PySem.W.mg_none_of X G z_isinstance,
    m_str := PySem.W.mg_none_of X G z_str,
    IT_ := itOf (List.forall_mem_cons.mpr ⟨kit_ty (by decide +kernel), List.forall_mem_cons.mpr ⟨kit_ty (by decide +kernel), List.forall_mem_cons.mpr ⟨kit_ty (by decide +kernel), List.forall_mem_cons.mpr ⟨kit_ty (by decide +kernel), List.forall_mem_cons.mpr ⟨kit_ty (by decide +kernel), List.forall_mem_cons.mpr ⟨kit_ty (by decide +kernel), List.forall_mem_cons.mpr ⟨kit_ty (by decide +kernel), (by simp)⟩⟩⟩⟩⟩⟩⟩) (List.forall_mem_cons.mpr ⟨(fun n e => by cases e), List.forall_mem_cons.mpr ⟨(fun n e => by cases e), List.forall_mem_cons.mpr ⟨(fun n e => by cases e), List.forall_mem_cons.mpr ⟨(fun n e => by cases e), List.forall_mem_cons.mpr ⟨(fun n e => by cases e), List.forall_mem_cons.mpr ⟨(fun n e => by cases e), List.forall_mem_cons.mpr ⟨(fun n e => by cases e), (by simp)⟩⟩⟩⟩⟩⟩⟩),
    XT_ := xtOf ((by simp [isiL, catL])) }
  refine ⟨PySem.W.fnOf "law" "law" (defArgs s_law) (defBody s_law) (defScope s_law) .none kV6 dc6 pm6 an6 cd6 ct6, fun s v => .of_eq rfl, (fun x => 0), fun base _ _ => ?_⟩
  exact ok_law0 g (fun_mk (st := s_law) l6 c6 k6)
end A
open PySem PySem.W PyProof.Rows
set_option maxHeartbeats 0 in
theorem PySem.Challenge.cw_askrise_k43_steps_shown_holds : PySem.Challenge.rw_askrise_k43_steps_shown.Holds := by
  w_on; o_law; k_head; (case hw => w_witness2)
  k_fill
  refine Z.walk_Z (l := PySem.Challenge.rw_askrise_k43_steps_shown) (k := 3) (x := "_law_script") A.run_law A.law_true rfl rfl ⟨rfl, by decide, by decide⟩ (fun w h Y => PySem.W.kIn_of Y) ?F
  intro w mg fa h KX G XX hmg
  refine' A.all_mk KX G hmg ?a0 ?l0 ?c0 ?k0 ?a1 ?l1 ?c1 ?k1 ?a2 ?l2 ?c2 ?k2 ?a3 ?l3 ?c3 ?k3 ?a4 ?l4 ?c4 ?k4 ?a5 ?l5 ?c5 ?k5 ?a6 ?l6 ?c6 ?k6 ?z_len ?z_int ?z_list ?z_range ?z_isinstance ?z_str
  (case a0 => k_is)
  (case l0 => k_is)
  (case c0 => k_is)
  (case k0 => k_is)
  (case a1 => k_is)
  (case l1 => k_is)
  (case c1 => k_is)
  (case k1 => k_is)
  (case a2 => k_is)
  (case l2 => k_is)
  (case c2 => k_is)
  (case k2 => k_is)
  (case a3 => k_is)
  (case l3 => k_is)
  (case c3 => k_is)
  (case k3 => k_is)
  (case a4 => k_is)
  (case l4 => k_is)
  (case c4 => k_is)
  (case k4 => k_is)
  (case a5 => k_is)
  (case l5 => k_is)
  (case c5 => k_is)
  (case k5 => k_is)
  (case a6 => k_is)
  (case l6 => k_is)
  (case c6 => k_is)
  (case k6 => k_is)
  (case z_len => k_is)
  (case z_int => k_is)
  (case z_list => k_is)
  (case z_range => k_is)
  (case z_isinstance => k_is)
  (case z_str => k_is)
