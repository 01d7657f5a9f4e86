import PyProof.Rows.All
import Wide.All
import OpenK.AllK
import Wide.FinOn
import HandS.ForMost
import HandS.ForExc
import HandS.Deep
import HandS.ExcValue
import HandS.SortInts
import PySem.Challenge.RW_askrise_k06_whole_turns_and_back
set_option Elab.async false
set_option linter.all false
set_option maxRecDepth 100000
set_option maxHeartbeats 4000000
namespace VS
open PySem PySem.Spec PyProof.Rows L2

/-! ### values without a heap -/
inductive PV where
  | non | bl (b : Bool) | int (i : Int) | str (x : Str)
  | lst (xs : List PV) | tup (xs : List PV) | dct (ks : List Key) (xs : List PV) | cl (xs : List PV)
  | exc (c : Value) | obj (v : V) | loc (k : Nat)

mutual
inductive Rep (K : PySem.W.Frag) (F : Hp) : PV → V → Prop
  | non : Rep K F .non .non
  | bl (b : Bool) : Rep K F (.bl b) (.bl b)
  | int (i : Int) : Rep K F (.int i) (.int i)
  | str (x : Str) : Rep K F (.str x) (.str x)
  | lst {a : Addr} {ws : List V} {xs : List PV} : F a = some (.lst ws) → Reps K F xs ws → Rep K F (.lst xs) (.ref a)
  | cl {a : Addr} {ws : List V} {xs : List PV} : SqL K F a ws → Reps K F xs ws → Rep K F (.cl xs) (.ref a)
  | tup {a : Addr} {ws : List V} {xs : List PV} : SqT K F a ws → Reps K F xs ws → Rep K F (.tup xs) (.ref a)
  | dct {a : Addr} {ws : List V} {ks : List Key} {xs : List PV} : Rd F a (.dK (ks.zip ws)) → ks.length = ws.length → Reps K F xs ws → Rep K F (.dct ks xs) (.ref a)
  | exc {a : Addr} {c : Value} : F a = some (ExO c a) → Rep K F (.exc c) (.ref a)
  | obj (v : V) : Rep K F (.obj v) v
inductive Reps (K : PySem.W.Frag) (F : Hp) : List PV → List V → Prop
  | nil : Reps K F [] []
  | cons {x : PV} {v : V} {xs : List PV} {vs : List V} : Rep K F x v → Reps K F xs vs → Reps K F (x :: xs) (v :: vs)
end

/-- a heap that has all of another -/
def Le (F G : Hp) : Prop := ∀ a o, F a = some o → G a = some o
theorem Le.refl (F : Hp) : Le F F := fun _ _ h => h
theorem Le.trans {F G H : Hp} (a : Le F G) (b : Le G H) : Le F H := fun x o h => b x o (a x o h)
theorem Le.rd {F G : Hp} (l : Le F G) {a : Addr} {u : HO} (h : Rd F a u) : Rd G a u := h.elim (fun h => .inl (l _ _ h)) fun ⟨o, h⟩ => .inr ⟨o, l _ _ h⟩
theorem Le.sqL {K : PySem.W.Frag} {F G : Hp} (l : Le F G) {a : Addr} {ws : List V} (h : SqL K F a ws) : SqL K G a ws := h.elim (fun h => .inl (l.rd h)) .inr
theorem Le.sqT {K : PySem.W.Frag} {F G : Hp} (l : Le F G) {a : Addr} {ws : List V} (h : SqT K F a ws) : SqT K G a ws := h.elim (fun h => .inl (l.rd h)) .inr

mutual
theorem Rep.le {K : PySem.W.Frag} {F G : Hp} (l : Le F G) : ∀ (x : PV) (v : V), Rep K F x v → Rep K G x v
  | .non, _, h => by cases h; exact .non
  | .bl b, _, h => by cases h; exact .bl b
  | .int i, _, h => by cases h; exact .int i
  | .str x, _, h => by cases h; exact .str x
  | .lst xs, _, h => by
    cases h with
    | lst a b => exact .lst (l _ _ a) (Reps.le l xs _ b)
  | .cl xs, _, h => by
    cases h with
    | cl a b => exact .cl (l.sqL a) (Reps.le l xs _ b)
  | .tup xs, _, h => by
    cases h with
    | tup a b => exact .tup (l.sqT a) (Reps.le l xs _ b)
  | .dct ks xs, _, h => by
    cases h with
    | dct a e b => exact .dct (l.rd a) e (Reps.le l xs _ b)
  | .exc c, _, h => by
    cases h with
    | exc a => exact .exc (l _ _ a)
  | .obj v, _, h => by cases h; exact .obj v
  | .loc k, _, h => by cases h
theorem Reps.le {K : PySem.W.Frag} {F G : Hp} (l : Le F G) : ∀ (xs : List PV) (vs : List V), Reps K F xs vs → Reps K G xs vs
  | [], _, h => by cases h; exact .nil
  | x :: xs, _, h => by
    cases h with
    | cons a b => exact .cons (Rep.le l x _ a) (Reps.le l xs _ b)
end
theorem Reps.length {K : PySem.W.Frag} {F : Hp} : ∀ {xs : List PV} {vs : List V}, Reps K F xs vs → xs.length = vs.length
  | [], _, h => by cases h; rfl
  | x :: xs, _, h => by
    cases h with
    | cons a b => simp [Reps.length b]
theorem Reps.append {K : PySem.W.Frag} {F : Hp} : ∀ {xs ys : List PV} {vs ws : List V}, Reps K F xs vs → Reps K F ys ws → Reps K F (xs ++ ys) (vs ++ ws)
  | [], _, _, _, h, g => by cases h; exact g
  | x :: xs, _, _, _, h, g => by
    cases h with
    | cons a b => exact .cons a (Reps.append b g)
theorem Reps.get {K : PySem.W.Frag} {F : Hp} : ∀ {xs : List PV} {vs : List V} {i : Nat} {x : PV}, Reps K F xs vs → xs[i]? = some x → ∃ v, vs[i]? = some v ∧ Rep K F x v
  | [], _, _, _, h, e => by simp at e
  | y :: xs, _, 0, x, h, e => by
    cases h with
    | cons a b => simp at e; subst e; exact ⟨_, rfl, a⟩
  | y :: xs, _, i + 1, x, h, e => by
    cases h with
    | cons a b => exact Reps.get (i := i) b (by simpa using e)
theorem Reps.drop {K : PySem.W.Frag} {F : Hp} : ∀ {xs : List PV} {vs : List V} (n : Nat), Reps K F xs vs → Reps K F (xs.drop n) (vs.drop n)
  | _, _, 0, h => h
  | [], _, n + 1, h => by cases h; exact .nil
  | x :: xs, _, n + 1, h => by
    cases h with
    | cons a b => exact Reps.drop n b
theorem Reps.take {K : PySem.W.Frag} {F : Hp} : ∀ {xs : List PV} {vs : List V} (n : Nat), Reps K F xs vs → Reps K F (xs.take n) (vs.take n)
  | _, _, 0, h => .nil
  | [], _, n + 1, h => by cases h; exact .nil
  | x :: xs, _, n + 1, h => by
    cases h with
    | cons a b => exact .cons a (Reps.take n b)
theorem Reps.set {K : PySem.W.Frag} {F : Hp} {x : PV} {v : V} (r : Rep K F x v) : ∀ {xs : List PV} {vs : List V} (n : Nat), Reps K F xs vs → Reps K F (xs.set n x) (vs.set n v)
  | [], _, _, h => by cases h; exact .nil
  | y :: xs, _, 0, h => by
    cases h with
    | cons a b => exact .cons r b
  | y :: xs, _, n + 1, h => by
    cases h with
    | cons a b => exact .cons a (Reps.set r n b)
theorem Reps.ints {K : PySem.W.Frag} {F : Hp} : ∀ ns : List Int, Reps K F (ns.map PV.int) (ns.map V.int)
  | [] => .nil
  | n :: ns => .cons (.int n) (Reps.ints ns)
theorem Reps.ints_eq {K : PySem.W.Frag} {F : Hp} : ∀ {ns : List Int} {vs : List V}, Reps K F (ns.map PV.int) vs → vs = ns.map V.int
  | [], _, h => by cases h; rfl
  | n :: ns, _, h => by
    cases h with
    | cons a b => cases a; rw [Reps.ints_eq b]; rfl

/-! ### owned data: every list and dict within is at an address of S -/
mutual
inductive OwnD (K : PySem.W.Frag) (F H : Hp) : PV → V → List Addr → Prop
  | non : OwnD K F H .non .non []
  | bl (b : Bool) : OwnD K F H (.bl b) (.bl b) []
  | int (i : Int) : OwnD K F H (.int i) (.int i) []
  | str (x : Str) : OwnD K F H (.str x) (.str x) []
  | obj (v : V) : OwnD K F H (.obj v) v []
  | exc {a : Addr} {c : Value} : F a = some (ExO c a) → OwnD K F H (.exc c) (.ref a) []
  | lst {a : Addr} {ws : List V} {xs : List PV} {S : List Addr} : H a = some (.lst ws) → OwnDs K F H xs ws S → a ∉ S → OwnD K F H (.lst xs) (.ref a) (a :: S)
  | tup {a : Addr} {ws : List V} {xs : List PV} {S : List Addr} : SqT K F a ws → OwnDs K F H xs ws S → OwnD K F H (.tup xs) (.ref a) S
  | dct {a : Addr} {ws : List V} {ks : List Key} {xs : List PV} {S : List Addr} : H a = some (.dK (ks.zip ws)) → ks.length = ws.length → OwnDs K F H xs ws S → a ∉ S → OwnD K F H (.dct ks xs) (.ref a) (a :: S)
inductive OwnDs (K : PySem.W.Frag) (F H : Hp) : List PV → List V → List Addr → Prop
  | nil : OwnDs K F H [] [] []
  | cons {x : PV} {v : V} {xs : List PV} {vs : List V} {S T : List Addr} : OwnD K F H x v S → OwnDs K F H xs vs T → (∀ a ∈ S, a ∉ T) → OwnDs K F H (x :: xs) (v :: vs) (S ++ T)
end

def NoT : HO → Prop
  | .lst _ => True
  | .dK _ => True
  | .dT _ => True
  | .ins _ _ _ => True
  | .own _ => True
  | _ => False

mutual
theorem OwnD.cells {K : PySem.W.Frag} {F H : Hp} : ∀ (x : PV) (v : V) (S : List Addr), OwnD K F H x v S → ∀ a ∈ S, ∃ o, H a = some o ∧ NoT o
  | .non, _, _, h, a, m => by cases h; cases m
  | .bl b, _, _, h, a, m => by cases h; cases m
  | .int i, _, _, h, a, m => by cases h; cases m
  | .str x, _, _, h, a, m => by cases h; cases m
  | .obj v, _, _, h, a, m => by cases h; cases m
  | .exc c, _, _, h, a, m => by cases h; cases m
  | .loc k, _, _, h, a, m => by cases h
  | .cl k, _, _, h, a, m => by cases h
  | .lst xs, _, _, h, a, m => by
    cases h with
    | lst e b _ =>
      rcases List.mem_cons.mp m with rfl | m
      · exact ⟨_, e, trivial⟩
      · exact OwnDs.cells xs _ _ b a m
  | .tup xs, _, _, h, a, m => by
    cases h with
    | tup e b => exact OwnDs.cells xs _ _ b a m
  | .dct ks xs, _, _, h, a, m => by
    cases h with
    | dct e _ b _ =>
      rcases List.mem_cons.mp m with rfl | m
      · exact ⟨_, e, trivial⟩
      · exact OwnDs.cells xs _ _ b a m
theorem OwnDs.cells {K : PySem.W.Frag} {F H : Hp} : ∀ (xs : List PV) (vs : List V) (S : List Addr), OwnDs K F H xs vs S → ∀ a ∈ S, ∃ o, H a = some o ∧ NoT o
  | [], _, _, h, a, m => by cases h; cases m
  | x :: xs, _, _, h, a, m => by
    cases h with
    | cons y z _ =>
      rcases List.mem_append.mp m with m | m
      · exact OwnD.cells x _ _ y a m
      · exact OwnDs.cells xs _ _ z a m
end
/-- .. of what is no list, dict or instance -/
def LeT (F G : Hp) : Prop := ∀ a o, ¬ NoT o → F a = some o → G a = some o
theorem Le.t {F G : Hp} (l : Le F G) : LeT F G := fun a o _ h => l a o h
theorem LeT.sqT {K : PySem.W.Frag} {F G : Hp} (l : LeT F G) {a : Addr} {ws : List V} (h : SqT K F a ws) : SqT K G a ws :=
  h.elim (fun h => .inl (h.elim (fun h => .inl (l _ _ (fun z => z) h)) fun ⟨o, h⟩ => .inr ⟨o, l _ _ (fun z => z) h⟩)) .inr
mutual
theorem OwnD.le {K : PySem.W.Frag} {F G H H' : Hp} (l : LeT F G) : ∀ (x : PV) (v : V) (S : List Addr), (∀ a ∈ S, ∀ o, H a = some o → H' a = some o) → OwnD K F H x v S → OwnD K G H' x v S
  | .non, _, _, k, h => by cases h; exact .non
  | .bl b, _, _, k, h => by cases h; exact .bl b
  | .int i, _, _, k, h => by cases h; exact .int i
  | .str x, _, _, k, h => by cases h; exact .str x
  | .obj v, _, _, k, h => by cases h; exact .obj v
  | .exc c, _, _, k, h => by
    cases h with
    | exc e => exact .exc (l _ _ (fun z => z) e)
  | .loc c, _, _, k, h => by cases h
  | .cl c, _, _, k, h => by cases h
  | .lst xs, _, _, k, h => by
    cases h with
    | lst e b n => exact .lst (k _ List.mem_cons_self _ e) (OwnDs.le l xs _ _ (fun a m => k a (List.mem_cons_of_mem _ m)) b) n
  | .tup xs, _, _, k, h => by
    cases h with
    | tup e b => exact .tup (l.sqT e) (OwnDs.le l xs _ _ k b)
  | .dct ks xs, _, _, k, h => by
    cases h with
    | dct e q b n => exact .dct (k _ List.mem_cons_self _ e) q (OwnDs.le l xs _ _ (fun a m => k a (List.mem_cons_of_mem _ m)) b) n
theorem OwnDs.le {K : PySem.W.Frag} {F G H H' : Hp} (l : LeT F G) : ∀ (xs : List PV) (vs : List V) (S : List Addr), (∀ a ∈ S, ∀ o, H a = some o → H' a = some o) → OwnDs K F H xs vs S → OwnDs K G H' xs vs S
  | [], _, _, k, h => by cases h; exact .nil
  | x :: xs, _, _, k, h => by
    cases h with
    | cons a b d => exact .cons (OwnD.le l x _ _ (fun a m => k a (List.mem_append_left _ m)) a) (OwnDs.le l xs _ _ (fun a m => k a (List.mem_append_right _ m)) b) d
end
/-! given up: shared from now on, in a heap G that has the cells -/
mutual
theorem OwnD.rep {K : PySem.W.Frag} {F G H : Hp} (l : Le F G) : ∀ (x : PV) (v : V) (S : List Addr), (∀ a ∈ S, ∀ o, H a = some o → G a = some o) → OwnD K F H x v S → Rep K G x v
  | .non, _, _, k, h => by cases h; exact .non
  | .bl b, _, _, k, h => by cases h; exact .bl b
  | .int i, _, _, k, h => by cases h; exact .int i
  | .str x, _, _, k, h => by cases h; exact .str x
  | .obj v, _, _, k, h => by cases h; exact .obj v
  | .exc c, _, _, k, h => by
    cases h with
    | exc e => exact .exc (l _ _ e)
  | .loc c, _, _, k, h => by cases h
  | .cl c, _, _, k, h => by cases h
  | .lst xs, _, _, k, h => by
    cases h with
    | lst e b n => exact .lst (k _ List.mem_cons_self _ e) (OwnDs.rep l xs _ _ (fun a m => k a (List.mem_cons_of_mem _ m)) b)
  | .tup xs, _, _, k, h => by
    cases h with
    | tup e b => exact .tup (l.sqT e) (OwnDs.rep l xs _ _ k b)
  | .dct ks xs, _, _, k, h => by
    cases h with
    | dct e q b n => exact .dct (.inl (k _ List.mem_cons_self _ e)) q (OwnDs.rep l xs _ _ (fun a m => k a (List.mem_cons_of_mem _ m)) b)
theorem OwnDs.rep {K : PySem.W.Frag} {F G H : Hp} (l : Le F G) : ∀ (xs : List PV) (vs : List V) (S : List Addr), (∀ a ∈ S, ∀ o, H a = some o → G a = some o) → OwnDs K F H xs vs S → Reps K G xs vs
  | [], _, _, k, h => by cases h; exact .nil
  | x :: xs, _, _, k, h => by
    cases h with
    | cons a b d => exact .cons (OwnD.rep l x _ _ (fun a m => k a (List.mem_append_left _ m)) a) (OwnDs.rep l xs _ _ (fun a m => k a (List.mem_append_right _ m)) b)
end
/-! without a list or dict within: nothing to own -/
mutual
def PV.lf : PV → Bool
  | .lst _ => false
  | .dct _ _ => false
  | .loc _ => false
  | .cl _ => false
  | .tup xs => PV.lfs xs
  | _ => true
def PV.lfs : List PV → Bool
  | [] => true
  | x :: xs => x.lf && PV.lfs xs
end
mutual
theorem OwnD.of_lf {K : PySem.W.Frag} {F H : Hp} : ∀ (x : PV) (v : V), x.lf = true → Rep K F x v → OwnD K F H x v []
  | .non, _, _, h => by cases h; exact .non
  | .bl b, _, _, h => by cases h; exact .bl b
  | .int i, _, _, h => by cases h; exact .int i
  | .str x, _, _, h => by cases h; exact .str x
  | .obj v, _, _, h => by cases h; exact .obj v
  | .exc c, _, _, h => by
    cases h with
    | exc e => exact .exc e
  | .loc c, _, _, h => by cases h
  | .lst xs, _, e, h => by cases e
  | .cl xs, _, e, h => by cases e
  | .dct ks xs, _, e, h => by cases e
  | .tup xs, _, e, h => by
    cases h with
    | tup a b => exact .tup a (OwnDs.of_lf xs _ e b)
theorem OwnDs.of_lf {K : PySem.W.Frag} {F H : Hp} : ∀ (xs : List PV) (vs : List V), PV.lfs xs = true → Reps K F xs vs → OwnDs K F H xs vs []
  | [], _, _, h => by cases h; exact .nil
  | x :: xs, _, e, h => by
    cases h with
    | cons a b =>
      have o1 : x.lf = true := (Bool.and_eq_true_iff.mp e).1
      have o2 : PV.lfs xs = true := (Bool.and_eq_true_iff.mp e).2
      exact OwnDs.cons (S := []) (T := []) (OwnD.of_lf x _ o1 a) (OwnDs.of_lf xs _ o2 b) (fun a m => by cases m)
end
theorem PV.lfs_of : ∀ {xs : List PV}, (∀ x ∈ xs, x.lf = true) → PV.lfs xs = true
  | [], _ => rfl
  | x :: xs, h => by
    rw [PV.lfs, h x List.mem_cons_self, PV.lfs_of fun y m => h y (List.mem_cons_of_mem _ m)]; rfl
theorem PV.lfs_ints (ns : List Int) : PV.lfs (ns.map PV.int) = true := PV.lfs_of fun x m => by
  obtain ⟨n, _, rfl⟩ := List.mem_map.mp m
  rfl
theorem OwnDs.length {K : PySem.W.Frag} {F H : Hp} : ∀ {xs : List PV} {vs : List V} {S : List Addr}, OwnDs K F H xs vs S → xs.length = vs.length
  | [], _, _, h => by cases h; rfl
  | x :: xs, _, _, h => by
    cases h with
    | cons a b _ => simp [OwnDs.length b]
end VS
namespace VS
open PySem PySem.Spec PyProof.Rows L2

/-! ### the state: names by slot, owned things by number -/
abbrev Locs := List (V × List Addr)
inductive LK where
  | flat (x : PV) | deep (x : PV)
def LK.pv : LK → PV
  | .flat x => x
  | .deep x => x
structure S where
  r : List (Option PV)
  m : List (Option LK)
structure Bs where
  D : Addr → Prop
  H0 : Hp
  M0 : Locs
def inM (M : Locs) (a : Addr) : Prop := ∃ p ∈ M, a ∈ p.2
open Classical in
noncomputable def FS (D : Addr → Prop) (M : Locs) (H : Hp) : Hp := fun a => if D a ∨ inM M a then none else H a
theorem FS_eq {D : Addr → Prop} {M : Locs} {H : Hp} {a : Addr} {o : HO} : FS D M H a = some o ↔ ¬ D a ∧ ¬ inM M a ∧ H a = some o := by
  unfold FS
  by_cases h : D a ∨ inM M a
  · rw [if_pos h]
    exact ⟨fun z => (nomatch z), fun ⟨a, b, _⟩ => (h.elim a b).elim⟩
  · rw [if_neg h]
    exact ⟨fun z => ⟨fun q => h (.inl q), fun q => h (.inr q), z⟩, fun z => z.2.2⟩
theorem FS_le {D : Addr → Prop} {M : Locs} {H : Hp} : Le (FS D M H) H := fun a o h => (FS_eq.mp h).2.2
inductive OwnK (K : PySem.W.Frag) (F H : Hp) : LK → V → List Addr → Prop
  | flatL {a : Addr} {ws : List V} {xs : List PV} : H a = some (.lst ws) → Reps K F xs ws → OwnK K F H (.flat (.lst xs)) (.ref a) [a]
  | flatD {a : Addr} {ws : List V} {ks : List Key} {xs : List PV} : H a = some (.dK (ks.zip ws)) → ks.length = ws.length → Reps K F xs ws → OwnK K F H (.flat (.dct ks xs)) (.ref a) [a]
  | deep {x : PV} {v : V} {A : List Addr} : OwnD K F H x v A → OwnK K F H (.deep x) v A
theorem OwnK.cells {K : PySem.W.Frag} {F H : Hp} {l : LK} {v : V} {A : List Addr} (h : OwnK K F H l v A) : ∀ a ∈ A, ∃ o, H a = some o ∧ NoT o := by
  intro a m
  cases h with
  | flatL e r => cases List.mem_singleton.mp m; exact ⟨_, e, trivial⟩
  | flatD e _ r => cases List.mem_singleton.mp m; exact ⟨_, e, trivial⟩
  | deep h => exact h.cells _ _ _ a m
theorem OwnK.le {K : PySem.W.Frag} {F G H H' : Hp} {k : LK} {v : V} {A : List Addr} (l : Le F G) (kp : ∀ a ∈ A, ∀ o, H a = some o → H' a = some o) (h : OwnK K F H k v A) : OwnK K G H' k v A := by
  cases h with
  | flatL e r => exact .flatL (kp _ List.mem_cons_self _ e) (r.le l)
  | flatD e q r => exact .flatD (kp _ List.mem_cons_self _ e) q (r.le l)
  | deep h => exact .deep (h.le l.t _ _ _ kp)
theorem OwnK.rep {K : PySem.W.Frag} {F G H : Hp} {k : LK} {v : V} {A : List Addr} (l : Le F G) (kp : ∀ a ∈ A, ∀ o, H a = some o → G a = some o) (h : OwnK K F H k v A) : Rep K G k.pv v := by
  cases h with
  | flatL e r => exact .lst (kp _ List.mem_cons_self _ e) (r.le l)
  | flatD e q r => exact .dct (.inl (kp _ List.mem_cons_self _ e)) q (r.le l)
  | deep h => exact h.rep l _ _ _ kp
structure Own (K : PySem.W.Frag) (D : Addr → Prop) (M : Locs) (m : List (Option LK)) (H : Hp) : Prop where
  len : M.length = m.length
  dis : ∀ (i j : Nat) p q, M[i]? = some p → M[j]? = some q → i ≠ j → ∀ a ∈ p.2, a ∉ q.2
  own : ∀ (i : Nat) p l, M[i]? = some p → m[i]? = some (some l) → OwnK K (FS D M H) H l p.1 p.2
  dead : ∀ (i : Nat) p, M[i]? = some p → m[i]? = some none → p.2 = []
  nD : ∀ a, inM M a → ¬ D a
  al : ∀ a, D a → ∃ o, H a = some o
theorem Own.cells {K : PySem.W.Frag} {D : Addr → Prop} {M : Locs} {m : List (Option LK)} {H : Hp} (o : Own K D M m H) : ∀ a, inM M a → ∃ u, H a = some u ∧ NoT u := fun a ⟨p, hp, ha⟩ => by
  obtain ⟨i, hi⟩ := List.mem_iff_getElem?.mp hp
  have hl : i < m.length := by rw [← o.len]; exact (List.getElem?_eq_some_iff.mp hi).1
  cases e : m[i]'hl with
  | none => rw [o.dead i p hi (by rw [List.getElem?_eq_getElem hl, e])] at ha; cases ha
  | some l => exact (o.own i p l hi (by rw [List.getElem?_eq_getElem hl, e])).cells a ha
/-- from one moment to a later one -/
structure Step (M M' : Locs) (H H' : Hp) : Prop where
  keep : ∀ a o, ¬ inM M a → H a = some o → H' a = some o
  new : ∀ a, inM M' a → inM M a ∨ H a = none
theorem Step.le {D : Addr → Prop} {M M' : Locs} {H H' : Hp} (t : Step M M' H H') : Le (FS D M H) (FS D M' H') := fun a o h => by
  obtain ⟨h1, h2, h3⟩ := FS_eq.mp h
  refine FS_eq.mpr ⟨h1, fun q => ?_, t.keep a o h2 h3⟩
  rcases t.new a q with z | z
  · exact h2 z
  · rw [h3] at z; cases z
theorem Step.trans {M M1 M2 : Locs} {H H1 H2 : Hp} (a : Step M M1 H H1) (b : Step M1 M2 H1 H2) : Step M M2 H H2 := by
  refine ⟨fun x o n h => b.keep x o (fun q => ?_) (a.keep x o n h), fun x q => ?_⟩
  · rcases a.new x q with z | z
    · exact n z
    · rw [h] at z; cases z
  · rcases b.new x q with z | z
    · exact a.new x z
    · by_cases n : inM M x
      · exact .inl n
      · cases e : H x with
        | none => exact .inr rfl
        | some o => rw [a.keep x o n e] at z; cases z
theorem Step.grow {M : Locs} {H H' : Hp} (h : Le H H') : Step M M H H' := ⟨fun a o _ e => h a o e, fun a q => .inl q⟩
theorem Step.refl {M : Locs} {H : Hp} : Step M M H H := .grow (Le.refl H)
def RepL (K : PySem.W.Frag) (F : Hp) (M : Locs) (x : PV) (v : V) : Prop := (∃ k A, x = .loc k ∧ M[k]? = some (v, A)) ∨ Rep K F x v
inductive RepLs (K : PySem.W.Frag) (F : Hp) (M : Locs) : List PV → List V → Prop
  | nil : RepLs K F M [] []
  | cons {x : PV} {v : V} {xs : List PV} {vs : List V} : RepL K F M x v → RepLs K F M xs vs → RepLs K F M (x :: xs) (v :: vs)
/-- the same roots -/
def Roots (M M' : Locs) : Prop := ∀ (k : Nat) v A, M[k]? = some (v, A) → ∃ A', M'[k]? = some (v, A')
theorem Roots.refl {M : Locs} : Roots M M := fun _ _ A h => ⟨A, h⟩
theorem Roots.trans {M M1 M2 : Locs} (a : Roots M M1) (b : Roots M1 M2) : Roots M M2 := fun k v A h => let ⟨A', h'⟩ := a k v A h; b k v A' h'
theorem RepL.step {K : PySem.W.Frag} {F F' : Hp} {M M' : Locs} {x : PV} {v : V} (l : Le F F') (r : Roots M M') (h : RepL K F M x v) : RepL K F' M' x v := by
  rcases h with ⟨k, A, rfl, e⟩ | h
  · obtain ⟨A', e'⟩ := r k v A e
    exact .inl ⟨k, A', rfl, e'⟩
  · exact .inr (h.le l)
theorem RepLs.step {K : PySem.W.Frag} {F F' : Hp} {M M' : Locs} (l : Le F F') (r : Roots M M') : ∀ {xs : List PV} {vs : List V}, RepLs K F M xs vs → RepLs K F' M' xs vs
  | _, _, .nil => .nil
  | _, _, .cons h t => .cons (h.step l r) (RepLs.step l r t)
theorem RepLs.length {K : PySem.W.Frag} {F : Hp} {M : Locs} : ∀ {xs : List PV} {vs : List V}, RepLs K F M xs vs → xs.length = vs.length
  | _, _, .nil => rfl
  | _, _, .cons h t => by simp [RepLs.length t]
theorem RepLs.get {K : PySem.W.Frag} {F : Hp} {M : Locs} : ∀ {xs : List PV} {vs : List V} {i : Nat} {x : PV}, RepLs K F M xs vs → xs[i]? = some x → ∃ v, vs[i]? = some v ∧ RepL K F M x v
  | _, _, _, _, .nil, e => by simp at e
  | _, _, 0, x, .cons a b, e => by simp at e; subst e; exact ⟨_, rfl, a⟩
  | _, _, i + 1, x, .cons a b, e => RepLs.get (i := i) b (by simpa using e)
structure Rel (K : PySem.W.Frag) (B : Bs) (M : Locs) (s : S) (σ : L2.St) (H : Hp) : Prop where
  own : Own K B.D M s.m H
  base : Step B.M0 M B.H0 H
  root : Roots B.M0 M
  len : σ.length = s.r.length
  env : ∀ (i : Nat) x, s.r[i]? = some (some x) → ∃ v, σ[i]? = some (some v) ∧ RepL K (FS B.D M H) M x v
section
variable {K : PySem.W.Frag} {B : Bs} {D : Addr → Prop} {M M' : Locs} {s : S} {σ : L2.St} {H H' : Hp} {m m' : List (Option LK)}
theorem Own.mk' (o : Own K D M m H) (st : Step M M' H H') (len : M'.length = m'.length) (dis : ∀ (i j : Nat) p q, M'[i]? = some p → M'[j]? = some q → i ≠ j → ∀ a ∈ p.2, a ∉ q.2)
    (each : ∀ (i : Nat) p, M'[i]? = some p → (M[i]? = some p ∧ m'[i]? = m[i]? ∧ ∀ a ∈ p.2, ∀ o, H a = some o → H' a = some o) ∨ (∃ l, m'[i]? = some (some l) ∧ OwnK K (FS D M' H') H' l p.1 p.2) ∨ (m'[i]? = some none ∧ p.2 = [])) : Own K D M' m' H' := by
  refine ⟨len, dis, fun i p l hi hl => ?_, fun i p hi hl => ?_, fun a ha hd => ?_, fun a hd => ?_⟩
  · rcases each i p hi with ⟨h1, h2, h3⟩ | ⟨l', h1, h2⟩ | ⟨h1, _⟩
    · rw [h2] at hl; exact (o.own i p l h1 hl).le st.le h3
    · rw [h1] at hl; cases hl; exact h2
    · rw [h1] at hl; cases hl
  · rcases each i p hi with ⟨h1, h2, h3⟩ | ⟨l', h1, h2⟩ | ⟨_, h2⟩
    · rw [h2] at hl; exact o.dead i p h1 hl
    · rw [h1] at hl; cases hl
    · exact h2
  · rcases st.new a ha with z | z
    · exact o.nD a z hd
    · obtain ⟨u, e⟩ := o.al a hd
      rw [e] at z; cases z
  · obtain ⟨u, e⟩ := o.al a hd
    exact ⟨u, st.keep a u (fun q => o.nD a q hd) e⟩
theorem Own.grow (o : Own K D M m H) (l : Le H H') : Own K D M m H' :=
  o.mk' (.grow l) o.len o.dis fun i p hi => .inl ⟨hi, rfl, fun a _ u h => l a u h⟩
theorem Rel.mk' (R : Rel K B M s σ H) (st : Step M M' H H') (rt : Roots M M') (o : Own K B.D M' m' H') : Rel K B M' ⟨s.r, m'⟩ σ H' :=
  ⟨o, R.base.trans st, R.root.trans rt, R.len, fun i x e => let ⟨v, h1, h2⟩ := R.env i x e; ⟨v, h1, h2.step st.le rt⟩⟩
theorem Rel.grow (R : Rel K B M s σ H) (l : Le H H') : Rel K B M s σ H' := R.mk' (.grow l) .refl (R.own.grow l)
/-- the last one is given up -/
theorem Own.give {v : V} {A : List Addr} {l : LK} (o : Own K D (M ++ [(v, A)]) (m ++ [some l]) H) : Own K D M m H ∧ Rep K (FS D M H) l.pv v ∧ Le (FS D (M ++ [(v, A)]) H) (FS D M H) := by
  have hl : M.length = m.length := by have := o.len; simpa using this
  have le : Le (FS D (M ++ [(v, A)]) H) (FS D M H) := fun a u h => by
    obtain ⟨h1, h2, h3⟩ := FS_eq.mp h
    exact FS_eq.mpr ⟨h1, fun ⟨p, hp, ha⟩ => h2 ⟨p, List.mem_append_left _ hp, ha⟩, h3⟩
  have at_ : ∀ (i : Nat) p, M[i]? = some p → (M ++ [(v, A)])[i]? = some p := fun i p h => by
    rw [List.getElem?_append_left (List.getElem?_eq_some_iff.mp h).1]; exact h
  have atm : ∀ (i : Nat) p, m[i]? = some p → (m ++ [some l])[i]? = some p := fun i p h => by
    rw [List.getElem?_append_left (List.getElem?_eq_some_iff.mp h).1]; exact h
  have hlast : (M ++ [(v, A)])[M.length]? = some (v, A) := by simp
  have hlast' : (m ++ [some l])[M.length]? = some (some l) := by rw [hl]; simp
  refine ⟨⟨hl, fun i j p q hi hj => o.dis i j p q (at_ i p hi) (at_ j q hj), fun i p l' hi hm => ?_, fun i p hi hm => o.dead i p (at_ i p hi) (atm i _ hm), fun a ⟨p, hp, ha⟩ => o.nD a ⟨p, List.mem_append_left _ hp, ha⟩, o.al⟩, ?_, le⟩
  · exact (o.own i p l' (at_ i p hi) (atm i _ hm)).le le fun a _ u h => h
  · refine (o.own _ _ _ hlast hlast').rep le fun a ha u h => FS_eq.mpr ?_
    have hin : inM (M ++ [(v, A)]) a := ⟨_, List.mem_append_right _ List.mem_cons_self, ha⟩
    refine ⟨o.nD a hin, fun ⟨p, hp, hpa⟩ => ?_, h⟩
    obtain ⟨i, hi⟩ := List.mem_iff_getElem?.mp hp
    have hlt := (List.getElem?_eq_some_iff.mp hi).1
    exact o.dis i M.length p _ (at_ i p hi) hlast (Nat.ne_of_lt hlt) a hpa ha
end
end VS
namespace VS
open PySem PySem.Spec PyProof.Rows L2

/-! ### behind an expression -/
structure Aft (K : PySem.W.Frag) (B : Bs) (M : Locs) (s : S) (σ : L2.St) (H : Hp) (M' : Locs) (s' : S) (H' : Hp) : Prop where
  rel : Rel K B M' s' σ H'
  st : Step M M' H H'
  rt : Roots M M'
  ln : M'.length = M.length
  rr : s'.r = s.r
section
variable {K : PySem.W.Frag} {B : Bs} {M M' M'' : Locs} {s s' s'' : S} {σ : L2.St} {H H' H'' : Hp}
theorem Aft.refl (R : Rel K B M s σ H) : Aft K B M s σ H M s H := ⟨R, .refl, .refl, rfl, rfl⟩
theorem Aft.trans (a : Aft K B M s σ H M' s' H') (b : Aft K B M' s' σ H' M'' s'' H'') : Aft K B M s σ H M'' s'' H'' :=
  ⟨b.rel, a.st.trans b.st, a.rt.trans b.rt, b.ln.trans a.ln, b.rr.trans a.rr⟩
theorem Aft.grow (a : Aft K B M s σ H M' s' H') (l : Le H' H'') : Aft K B M s σ H M' s' H'' :=
  ⟨a.rel.grow l, a.st.trans (.grow l), a.rt, a.ln, a.rr⟩
theorem Aft.repl (a : Aft K B M s σ H M' s' H') {x : PV} {v : V} (h : RepL K (FS B.D M H) M x v) : RepL K (FS B.D M' H') M' x v := h.step a.st.le a.rt
end
structure AftF (K : PySem.W.Frag) (B : Bs) (M : Locs) (s : S) (σ : L2.St) (H : Hp) (M' : Locs) (s' : S) (H' : Hp) (l : LK) (v : V) (A : List Addr) : Prop where
  rel : Rel K B (M' ++ [(v, A)]) ⟨s'.r, s'.m ++ [some l]⟩ σ H'
  st : Step M (M' ++ [(v, A)]) H H'
  rt : Roots M M'
  ln : M'.length = M.length
  rr : s'.r = s.r
section
variable {K : PySem.W.Frag} {B : Bs} {M M' : Locs} {s s' : S} {σ : L2.St} {H H' H'' : Hp} {l : LK} {v : V} {A : List Addr}
theorem inM_app {M : Locs} {p : V × List Addr} {a : Addr} : inM (M ++ [p]) a ↔ inM M a ∨ a ∈ p.2 := by
  constructor
  · rintro ⟨q, hq, ha⟩
    rcases List.mem_append.mp hq with h | h
    · exact .inl ⟨q, h, ha⟩
    · cases List.mem_singleton.mp h; exact .inr ha
  · rintro (⟨q, hq, ha⟩ | ha)
    · exact ⟨q, List.mem_append_left _ hq, ha⟩
    · exact ⟨p, List.mem_append_right _ List.mem_cons_self, ha⟩
theorem AftF.give (R : Rel K B M s σ H) (a : AftF K B M s σ H M' s' H' l v A) : Aft K B M s σ H M' s' H' ∧ Rep K (FS B.D M' H') l.pv v := by
  obtain ⟨o, r, le⟩ := a.rel.own.give
  have st : Step M M' H H' := ⟨a.st.keep, fun x q => a.st.new x (inM_app.mpr (.inl q))⟩
  refine ⟨⟨⟨o, R.base.trans st, R.root.trans a.rt, R.len.trans (by rw [a.rr]), fun i x e => ?_⟩, st, a.rt, a.ln, a.rr⟩, r⟩
  obtain ⟨u, h1, h2⟩ := R.env i x (by rw [← a.rr]; exact e)
  exact ⟨u, h1, h2.step st.le a.rt⟩
theorem Rel.push (R : Rel K B M s σ H) (le : Le H H') (fr : ∀ a ∈ A, H a = none) (ow : OwnK K (FS B.D (M ++ [(v, A)]) H') H' l v A) : AftF K B M s σ H M s H' l v A := by
  have st : Step M (M ++ [(v, A)]) H H' := ⟨fun a o _ h => le a o h, fun a q => (inM_app.mp q).elim .inl fun h => .inr (fr a h)⟩
  have rt : Roots M (M ++ [(v, A)]) := fun k u C h => ⟨C, by rw [List.getElem?_append_left (List.getElem?_eq_some_iff.mp h).1]; exact h⟩
  refine ⟨R.mk' st rt ?_, st, .refl, rfl, rfl⟩
  have at_ : ∀ (i : Nat) p, (M ++ [(v, A)])[i]? = some p → M[i]? = some p ∨ (i = M.length ∧ p = (v, A)) := fun i p h => by
    by_cases hi : i < M.length
    · rw [List.getElem?_append_left hi] at h; exact .inl h
    · rw [List.getElem?_append_right (by omega)] at h
      by_cases e : i = M.length
      · subst e; simp at h; exact .inr ⟨rfl, h.symm⟩
      · rw [List.getElem?_eq_none (by simp; omega)] at h; cases h
  have live : ∀ (i : Nat) p, M[i]? = some p → ∀ a ∈ p.2, a ∉ A := fun i p h a ha hA => by
    obtain ⟨u, e, _⟩ := R.own.cells a ⟨p, List.mem_iff_getElem?.mpr ⟨i, h⟩, ha⟩
    rw [fr a hA] at e; cases e
  refine R.own.mk' st (by simp [R.own.len]) (fun i j p q hi hj ne a ha hq => ?_) fun i p hi => ?_
  · rcases at_ i p hi with h1 | ⟨h1, rfl⟩
    · rcases at_ j q hj with h2 | ⟨h2, rfl⟩
      · exact R.own.dis i j p q h1 h2 ne a ha hq
      · exact live i p h1 a ha hq
    · rcases at_ j q hj with h2 | ⟨h2, rfl⟩
      · exact live j q h2 a hq ha
      · exact ne (h1.trans h2.symm)
  · rcases at_ i p hi with h1 | ⟨h1, rfl⟩
    · refine .inl ⟨h1, ?_, fun a _ u h => le a u h⟩
      rw [List.getElem?_append_left (by rw [← R.own.len]; exact (List.getElem?_eq_some_iff.mp h1).1)]
    · exact .inr (.inl ⟨l, by rw [h1, R.own.len]; simp, ow⟩)
/-- a new list -/
theorem upd_le {p : Addr} {o : HO} (hp : H p = none) : Le H (upd H p o) := fun a u h => by
  rw [upd_ne (ne_of_none h hp)]; exact h
theorem Rel.pushL (R : Rel K B M s σ H) {p : Addr} {xs : List PV} {ws : List V} (hp : H p = none) (r : Reps K (FS B.D M H) xs ws) : AftF K B M s σ H M s (upd H p (.lst ws)) (.flat (.lst xs)) (.ref p) [p] := by
  refine R.push (upd_le hp) (fun a m => by cases List.mem_singleton.mp m; exact hp) (.flatL upd_same (r.le ?_))
  have st : Step M (M ++ [(V.ref p, [p])]) H (upd H p (.lst ws)) := ⟨fun a o _ h => upd_le hp a o h, fun a q => (inM_app.mp q).elim .inl fun h => .inr (by cases List.mem_singleton.mp h; exact hp)⟩
  exact st.le
theorem Rel.pushD (R : Rel K B M s σ H) {p : Addr} {ks : List Key} {xs : List PV} {ws : List V} (hp : H p = none) (hl : ks.length = ws.length) (r : Reps K (FS B.D M H) xs ws) : AftF K B M s σ H M s (upd H p (.dK (ks.zip ws))) (.flat (.dct ks xs)) (.ref p) [p] := by
  refine R.push (upd_le hp) (fun a m => by cases List.mem_singleton.mp m; exact hp) (.flatD upd_same hl (r.le ?_))
  have st : Step M (M ++ [(V.ref p, [p])]) H (upd H p (.dK (ks.zip ws))) := ⟨fun a o _ h => upd_le hp a o h, fun a q => (inM_app.mp q).elim .inl fun h => .inr (by cases List.mem_singleton.mp h; exact hp)⟩
  exact st.le
/-- a new tuple, shared at once -/
theorem Rel.tuple (R : Rel K B M s σ H) {p : Addr} {xs : List PV} {ws : List V} (hp : H p = none) (r : Reps K (FS B.D M H) xs ws) : Rep K (FS B.D M (upd H p (.tup ws))) (.tup xs) (.ref p) := by
  have le := (Step.grow (M := M) (upd_le (o := .tup ws) hp)).le (D := B.D)
  refine .tup (.inl (.inl (FS_eq.mpr ⟨fun d => ?_, fun q => ?_, upd_same⟩))) (r.le le)
  · obtain ⟨u, e⟩ := R.own.al p d
    rw [hp] at e; cases e
  · obtain ⟨u, e, _⟩ := R.own.cells p q
    rw [hp] at e; cases e
end

/-! ### what a value is, seen through a loc -/
def kidsLf : PV → Bool
  | .lst xs => PV.lfs xs
  | .dct _ xs => PV.lfs xs
  | .tup xs => PV.lfs xs
  | _ => true
def S.look (s : S) : PV → PV
  | .loc k => match s.m[k]? with
    | some (some l) => l.pv
    | _ => .loc k
  | x => x
def S.flat (s : S) : PV → PV
  | .loc k => match s.m[k]? with
    | some (some (.flat y)) => y
    | some (some (.deep y)) => if kidsLf y then y else .loc k
    | _ => .loc k
  | x => x
section
variable {K : PySem.W.Frag} {B : Bs} {M M' : Locs} {s s' : S} {σ : L2.St} {H H' H'' : Hp} {x : PV} {v : V}
theorem not_loc {K : PySem.W.Frag} {F : Hp} {k : Nat} {v : V} : ¬ Rep K F (.loc k) v := fun h => by cases h
theorem RepL.rep {F : Hp} (h : RepL K F M x v) (n : ∀ k, x ≠ .loc k) : Rep K F x v := h.elim (fun ⟨k, _, e, _⟩ => (n k e).elim) fun h => h
/-- read through -/
theorem Rel.look (R : Rel K B M s σ H) (h : RepL K (FS B.D M H) M x v) {y : PV} (e : s.look x = y) (n : ∀ k, y ≠ .loc k) : Rep K H y v := by
  subst e
  rcases h with ⟨k, A, rfl, e⟩ | h
  · cases q : s.m[k]? with
    | none => exact (n k (by simp [S.look, q])).elim
    | some o =>
      cases o with
      | none => exact (n k (by simp [S.look, q])).elim
      | some l =>
        have := (R.own.own k _ l e q).rep (G := H) FS_le fun a _ u h => h
        simpa [S.look, q] using this
  · have e : s.look x = x := by
      cases x with
      | loc k => exact (not_loc h).elim
      | _ => rfl
    rw [e]; exact h.le FS_le
theorem Rel.flatL (R : Rel K B M s σ H) (h : RepL K (FS B.D M H) M x v) {xs : List PV} (e : s.flat x = .lst xs) : ∃ a ws, v = .ref a ∧ H a = some (.lst ws) ∧ Reps K (FS B.D M H) xs ws := by
  rcases h with ⟨k, A, rfl, q⟩ | h
  · cases z : s.m[k]? with
    | none => simp [S.flat, z] at e
    | some o =>
      cases o with
      | none => simp [S.flat, z] at e
      | some l =>
        have ow := R.own.own k _ l q z
        cases l with
        | flat y =>
          simp [S.flat, z] at e
          subst e
          cases ow with
          | flatL h1 h2 => exact ⟨_, _, rfl, h1, h2⟩
        | deep y =>
          simp only [S.flat, z] at e
          by_cases c : kidsLf y = true
          · rw [if_pos c] at e
            subst e
            cases ow with
            | deep h1 =>
              cases h1 with
              | lst h2 h3 h4 =>
                rename_i a ws A'
                refine ⟨_, _, rfl, h2, ?_⟩
                have : ∀ (xs : List PV) (ws : List V) (A' : List Addr), PV.lfs xs = true → OwnDs K (FS B.D M H) H xs ws A' → A' = [] := by
                  intro xs
                  induction xs with
                  | nil => intro ws A' _ h; cases h; rfl
                  | cons x xs ih =>
                    intro ws A' hl h
                    cases h with
                    | cons a b _ =>
                      have o1 : x.lf = true := (Bool.and_eq_true_iff.mp hl).1
                      have o2 : PV.lfs xs = true := (Bool.and_eq_true_iff.mp hl).2
                      have e2 := ih _ _ o2 b
                      subst e2
                      have hx : ∀ (x : PV) (v : V) (A : List Addr), x.lf = true → OwnD K (FS B.D M H) H x v A → A = [] := by
                        intro x
                        exact PV.rec (motive_1 := fun x => ∀ (v : V) (A : List Addr), x.lf = true → OwnD K (FS B.D M H) H x v A → A = []) (motive_2 := fun xs => ∀ (vs : List V) (A : List Addr), PV.lfs xs = true → OwnDs K (FS B.D M H) H xs vs A → A = [])
                          (by intro v A _ h; cases h; rfl) (by intro b v A _ h; cases h; rfl) (by intro b v A _ h; cases h; rfl) (by intro b v A _ h; cases h; rfl)
                          (by intro xs _ v A e; cases e) (by intro xs ih v A e h; cases h with | tup h1 h2 => exact ih _ _ e h2) (by intro ks xs _ v A e; cases e) (by intro xs _ v A e; cases e)
                          (by intro c v A _ h; cases h; rfl) (by intro b v A _ h; cases h; rfl) (by intro k v A e; cases e)
                          (by intro vs A _ h; cases h; rfl)
                          (by
                            intro x xs h1 h2 vs A e h
                            cases h with
                            | cons a b _ =>
                              rw [h1 _ _ (Bool.and_eq_true_iff.mp e).1 a, h2 _ _ (Bool.and_eq_true_iff.mp e).2 b]; rfl) x
                      rw [hx x _ _ o1 a]; rfl
                have eA := this xs ws _ c h3
                subst eA
                exact h3.rep (Le.refl _) _ _ _ (fun a m => by cases m)
          · rw [if_neg c] at e; cases e
  · cases x with
    | loc k => exact (not_loc h).elim
    | lst ys =>
      cases e
      cases h with
      | lst h1 h2 => exact ⟨_, _, rfl, FS_le _ _ h1, h2⟩
    | _ => cases e
/-- a list to be read: its items are shared -/
theorem Rel.seqL (R : Rel K B M s σ H) (h : RepL K (FS B.D M H) M x v) {xs : List PV} (e : s.flat x = .lst xs ∨ s.flat x = .cl xs) : ∃ a ws, v = .ref a ∧ SqL K H a ws ∧ Reps K (FS B.D M H) xs ws := by
  rcases e with e | e
  · obtain ⟨a, ws, h1, h2, h3⟩ := R.flatL h e
    exact ⟨a, ws, h1, .inl (.inl h2), h3⟩
  · rcases h with ⟨k, A, rfl, q⟩ | h
    · cases z : s.m[k]? with
      | none => simp [S.flat, z] at e
      | some o =>
        cases o with
        | none => simp [S.flat, z] at e
        | some l =>
          have ow := R.own.own k _ l q z
          cases l with
          | flat y => simp [S.flat, z] at e; subst e; cases ow
          | deep y =>
            simp only [S.flat, z] at e
            by_cases c : kidsLf y = true
            · rw [if_pos c] at e; subst e
              cases ow with
              | deep h1 => cases h1
            · rw [if_neg c] at e; cases e
    · cases x with
      | loc k => exact (not_loc h).elim
      | cl ys =>
        cases e
        cases h with
        | cl h1 h2 => exact ⟨_, _, rfl, FS_le.sqL h1, h2⟩
      | _ => cases e
end
end VS
namespace VS
open PySem PySem.Spec PyProof.Rows L2

/-! ### the judgements -/
abbrev TVE := (PV → S → Prop) → S → Prop
abbrev TVA := (List PV → S → Prop) → S → Prop
abbrev TVF := (LK → S → Prop) → S → Prop
abbrev TVT := (Bool → S → Prop) → S → Prop
def VE (X : Cx) (B : Bs) (e : Expr) (t : TVE) : Prop := ∃ T : TE, PE X e T ∧ ∀ (Qp : PV → S → Prop) (Q : VK) (s : S) (σ : L2.St) (H : Hp) (M : Locs), Rel X.K B M s σ H → t Qp s →
  (∀ x v s' H' M', Aft X.K B M s σ H M' s' H' → RepL X.K (FS B.D M' H') M' x v → Qp x s' → Q v H') → T σ H Q
def VA (X : Cx) (B : Bs) (es : List Expr) (t : TVA) : Prop := ∃ T : TA, PA X es T ∧ ∀ (Qp : List PV → S → Prop) (Q : List V → Hp → Prop) (s : S) (σ : L2.St) (H : Hp) (M : Locs), Rel X.K B M s σ H → t Qp s →
  (∀ xs vs s' H' M', Aft X.K B M s σ H M' s' H' → RepLs X.K (FS B.D M' H') M' xs vs → Qp xs s' → Q vs H') → T σ H Q
def VF (X : Cx) (B : Bs) (e : Expr) (t : TVF) : Prop := ∃ T : TE, PE X e T ∧ ∀ (Qp : LK → S → Prop) (Q : VK) (s : S) (σ : L2.St) (H : Hp) (M : Locs), Rel X.K B M s σ H → t Qp s →
  (∀ l v A s' H' M', AftF X.K B M s σ H M' s' H' l v A → Qp l s' → Q v H') → T σ H Q
def VT (X : Cx) (B : Bs) (e : Expr) (t : TVT) : Prop := ∃ T : TT, PT X e T ∧ ∀ (Qp : Bool → S → Prop) (Q : Bool → Hp → Prop) (s : S) (σ : L2.St) (H : Hp) (M : Locs), Rel X.K B M s σ H → t Qp s →
  (∀ b s' H' M', Aft X.K B M s σ H M' s' H' → Qp b s' → Q b H') → T σ H Q
def VW (X : Cx) (B : Bs) (e : Expr) (t : TVT) : Prop := ∃ T : TT, PW X e T ∧ ∀ (Qp : Bool → S → Prop) (Q : Bool → Hp → Prop) (s : S) (σ : L2.St) (H : Hp) (M : Locs), Rel X.K B M s σ H → t Qp s →
  (∀ b s' H' M', Aft X.K B M s σ H M' s' H' → Qp b s' → Q b H') → T σ H Q
section
variable {X : Cx} {B : Bs} {a b c e : Expr} {es : List Expr} {ta tb tc : TVE} {pos p : Pos}

def tPv (t : TVF) : TVE := fun Q s => t (fun l s' => Q l.pv s') s
theorem VF.ve {t : TVF} (h : VF X B e t) : VE X B e (tPv t) := by
  obtain ⟨T, p, w⟩ := h
  refine ⟨T, p, fun Qp Q s σ H M R ht k => w _ Q s σ H M R ht fun l v A s' H' M' af q => ?_⟩
  obtain ⟨a1, r⟩ := af.give R
  exact k _ v s' H' M' a1 (.inr r) q

def tvVar (i : Nat) : TVE := fun Q s => ∃ x, s.r[i]? = some (some x) ∧ Q x s
theorem ve_var (i : Nat) {x : Str} (hN : X.N[i]? = some x) (hv : Vis X.env.scope x) (hd : (x == ("__debug__" : Str)) = false := by decide) (hcd : (x == ("__classdict__" : Str)) = false := by decide) : VE X B (.Name x pos) (tvVar i) := by
  refine ⟨_, pe_var hN hv hd hcd, fun Qp Q s σ H M R ht k => ?_⟩
  obtain ⟨x, e, q⟩ := ht
  obtain ⟨v, h1, h2⟩ := R.env i x e
  exact ⟨v, h1, k x v s H M (.refl R) h2 q⟩
def tvC (x : PV) : TVE := fun Q s => Q x s
theorem ve_int {i : Int} {j : Nat} : VE X B (.Constant (.int i) j pos) (tvC (.int i)) :=
  ⟨_, pe_int, fun _ _ s σ H M R ht k => k _ _ s H M (.refl R) (.inr (.int i)) ht⟩
theorem ve_bl {i : Bool} {j : Nat} : VE X B (.Constant (.bool i) j pos) (tvC (.bl i)) :=
  ⟨_, pe_bl, fun _ _ s σ H M R ht k => k _ _ s H M (.refl R) (.inr (.bl i)) ht⟩
theorem ve_non {j : Nat} : VE X B (.Constant .none j pos) (tvC .non) :=
  ⟨_, pe_non, fun _ _ s σ H M R ht k => k _ _ s H M (.refl R) (.inr .non) ht⟩
theorem ve_str {x : Str} {j : Nat} : VE X B (.Constant (.str x) j pos) (tvC (.str x)) :=
  ⟨_, pe_str, fun _ _ s σ H M R ht k => k _ _ s H M (.refl R) (.inr (.str x)) ht⟩
/-- a module's constant number -/
theorem ve_gint {x : Str} {i : Int} {t : Tok} (hg : Gl X x) (hm : X.mg x = some (.int i t)) (hd : (x == ("__debug__" : Str)) = false := by decide) : VE X B (.Name x pos) (tvC (.int i)) :=
  ⟨_, pe_glob (v := .int i) hg hm ⟨_, rfl⟩ hd, fun _ _ s σ H M R ht k => k _ _ s H M (.refl R) (.inr (.int i)) ht⟩
theorem ve_gobj {x : Str} {f : Addr} (hg : Gl X x) (hm : X.mg x = some (.ref f)) (hd : (x == ("__debug__" : Str)) = false := by decide) : VE X B (.Name x pos) (tvC (.obj (.ref f))) :=
  ⟨_, pe_glob (v := .ref f) hg hm rfl hd, fun _ _ s σ H M R ht k => k _ _ s H M (.refl R) (.inr (.obj _)) ht⟩

/-! ### arguments -/
def tvNil : TVA := fun Q s => Q [] s
def tvCons (t : TVE) (u : TVA) : TVA := fun Q s => t (fun x s1 => u (fun xs s2 => Q (x :: xs) s2) s1) s
theorem va_nil : VA X B [] tvNil := ⟨_, pa_nil, fun _ _ s σ H M R ht k => k _ _ s H M (.refl R) .nil ht⟩
theorem va_cons {u : TVA} (h : VE X B e ta) (hs : VA X B es u) (hst : starEach (e :: es) X.env = (false, eval e X.env) :: starEach es X.env := by rfl) : VA X B (e :: es) (tvCons ta u) := by
  obtain ⟨T, p, w⟩ := h
  obtain ⟨T2, p2, w2⟩ := hs
  refine ⟨_, pa_cons p p2 hst, fun Qp Q s σ H M R ht k => ?_⟩
  refine w _ _ s σ H M R ht fun x v s1 H1 M1 a1 r1 q1 => ?_
  refine w2 _ _ s1 σ H1 M1 a1.rel q1 fun xs vs s2 H2 M2 a2 r2 q2 => ?_
  exact k _ _ s2 H2 M2 (a1.trans a2) (.cons (a2.repl r1) r2) q2

/-! ### two values in a row -/
abbrev G2 := S → PV → PV → (PV → Prop) → Prop
def POp (X : Cx) (B : Bs) (r : R2) (g : G2) : Prop := ∀ (s : S) (σ : L2.St) (H : Hp) (M : Locs) (x y : PV) (v w : V) (Qp : PV → Prop) (Q : VK), Rel X.K B M s σ H → RepL X.K (FS B.D M H) M x v → RepL X.K (FS B.D M H) M y w → g s x y Qp →
  (∀ z u H', Le H H' → Rep X.K (FS B.D M H') z u → Qp z → Q u H') → r v w H Q
abbrev G2F := S → PV → PV → (LK → Prop) → Prop
def FOp (X : Cx) (B : Bs) (r : R2) (g : G2F) : Prop := ∀ (s : S) (σ : L2.St) (H : Hp) (M : Locs) (x y : PV) (v w : V) (Qp : LK → Prop) (Q : VK), Rel X.K B M s σ H → RepL X.K (FS B.D M H) M x v → RepL X.K (FS B.D M H) M y w → g s x y Qp →
  (∀ l u A H', AftF X.K B M s σ H M s H' l u A → Qp l → Q u H') → r v w H Q
def tv2 (g : G2) (ta tb : TVE) : TVE := fun Q s => ta (fun x s1 => tb (fun y s2 => g s2 x y fun z => Q z s2) s1) s
def tv2F (g : G2F) (ta tb : TVE) : TVF := fun Q s => ta (fun x s1 => tb (fun y s2 => g s2 x y fun z => Q z s2) s1) s
theorem AftF.pre {K : PySem.W.Frag} {B : Bs} {M M1 : Locs} {s s1 : S} {σ : L2.St} {H H1 H' : Hp} {l : LK} {v : V} {A : List Addr} (a : Aft K B M s σ H M1 s1 H1) (f : AftF K B M1 s1 σ H1 M1 s1 H' l v A) : AftF K B M s σ H M1 s1 H' l v A :=
  ⟨f.rel, a.st.trans f.st, a.rt, a.ln, a.rr⟩
theorem AftF.pre' {K : PySem.W.Frag} {B : Bs} {M M1 M2 : Locs} {s s1 s2 : S} {σ : L2.St} {H H1 H' : Hp} {l : LK} {v : V} {A : List Addr} (a : Aft K B M s σ H M1 s1 H1) (f : AftF K B M1 s1 σ H1 M2 s2 H' l v A) : AftF K B M s σ H M2 s2 H' l v A :=
  ⟨f.rel, a.st.trans f.st, a.rt.trans f.rt, f.ln.trans a.ln, f.rr.trans a.rr⟩
theorem bin2 {r : R2} {g : G2} {f : TE → TE → TE} (hp : POp X B r g) (hf : ∀ T1 T2, f T1 T2 = tOp r T1 T2) (ha : VE X B a ta) (hb : VE X B b tb)
    (mk : ∀ T1 T2, PE X a T1 → PE X b T2 → PE X e (tOp r T1 T2)) : VE X B e (tv2 g ta tb) := by
  obtain ⟨T, p, w⟩ := ha
  obtain ⟨T2, p2, w2⟩ := hb
  refine ⟨_, mk T T2 p p2, fun Qp Q s σ H M R ht k => ?_⟩
  refine w _ _ s σ H M R ht fun x v s1 H1 M1 a1 r1 q1 => ?_
  refine w2 _ _ s1 σ H1 M1 a1.rel q1 fun y u s2 H2 M2 a2 r2 q2 => ?_
  refine hp s2 σ H2 M2 x y v u _ Q a2.rel (a2.repl r1) r2 q2 fun z u' H' le rz qz => ?_
  exact k z u' s2 H' M2 ((a1.trans a2).grow le) (.inr rz) qz
theorem ve_op {op : Operator} {r : R2} {g : G2} (ho : OpR X (binaryOp op) r) (hp : POp X B r g) (ha : VE X B a ta) (hb : VE X B b tb) : VE X B (.BinOp a op b pos) (tv2 g ta tb) :=
  bin2 (f := tOp r) hp (fun _ _ => rfl) ha hb fun _ _ => pe_op ho
theorem ve_cmp {op : CmpOp} {r : R2} {g : G2} (ho : OpR X (compareOp op) r) (hp : POp X B r g) (ha : VE X B a ta) (hb : VE X B b tb) (hm : behindInMarks op b = false) : VE X B (.Compare a [op] [b] pos) (tv2 g ta tb) :=
  bin2 (f := tOp r) hp (fun _ _ => rfl) ha hb fun _ _ h1 h2 => pe_cmpR ho h1 h2 hm
theorem ve_ix {r : R2} {g : G2} (ho : IxR X r) (hp : POp X B r g) (ha : VE X B a ta) (hb : VE X B b tb) (hs : PlainIx b) : VE X B (.Subscript a b pos) (tv2 g ta tb) :=
  bin2 (f := tOp r) hp (fun _ _ => rfl) ha hb fun _ _ h1 h2 => pe_ix ho h1 h2 hs
theorem vf_op {op : Operator} {r : R2} {g : G2F} (ho : OpR X (binaryOp op) r) (hp : FOp X B r g) (ha : VE X B a ta) (hb : VE X B b tb) : VF X B (.BinOp a op b pos) (tv2F g ta tb) := by
  obtain ⟨T, p, w⟩ := ha
  obtain ⟨T2, p2, w2⟩ := hb
  refine ⟨_, pe_op ho p p2, fun Qp Q s σ H M R ht k => ?_⟩
  refine w _ _ s σ H M R ht fun x v s1 H1 M1 a1 r1 q1 => ?_
  refine w2 _ _ s1 σ H1 M1 a1.rel q1 fun y u s2 H2 M2 a2 r2 q2 => ?_
  exact hp s2 σ H2 M2 x y v u _ Q a2.rel (a2.repl r1) r2 q2 fun l u' A H' af ql => k l u' A s2 H' M2 (.pre (a1.trans a2) af) ql

/-! ### numbers -/
def gI (C : Int → Int → Prop) (f : Int → Int → PV) : G2 := fun _ x y Q => match x, y with
  | .int i, .int j => C i j ∧ Q (f i j)
  | _, _ => False
def gI0 (f : Int → Int → PV) : G2 := fun _ x y Q => match x, y with
  | .int i, .int j => Q (f i j)
  | _, _ => False
theorem RepL.int {K : PySem.W.Frag} {F : Hp} {M : Locs} {i : Int} {v : V} (h : RepL K F M (.int i) v) : v = .int i := by
  rcases h with ⟨k, A, e, _⟩ | h
  · cases e
  · cases h; rfl
theorem pop_I {C : Int → Int → Prop} {f : Int → Int → PV} {f' : Int → Int → V} (hf : ∀ i j F, Rep X.K F (f i j) (f' i j)) : POp X B (rI C f') (gI C f) := by
  intro s σ H M x y v w Qp Q R hx hy g k
  cases x with
  | int i =>
    cases y with
    | int j => exact ⟨i, j, hx.int, hy.int, g.1, k _ _ H (Le.refl H) (hf i j _) g.2⟩
    | _ => exact g.elim
  | _ => exact g.elim
theorem pop_I0 {f : Int → Int → PV} {f' : Int → Int → V} (hf : ∀ i j F, Rep X.K F (f i j) (f' i j)) : POp X B (rI0 f') (gI0 f) := by
  intro s σ H M x y v w Qp Q R hx hy g k
  cases x with
  | int i =>
    cases y with
    | int j => exact ⟨i, j, hx.int, hy.int, k _ _ H (Le.refl H) (hf i j _) g⟩
    | _ => exact g.elim
  | _ => exact g.elim
theorem ve_sub (ha : VE X B a ta) (hb : VE X B b tb) : VE X B (.BinOp a .Sub b pos) (tv2 (gI0 fun i j => .int (i - j)) ta tb) := ve_op op_sub (pop_I0 fun i j _ => .int _) ha hb
theorem ve_mul (ha : VE X B a ta) (hb : VE X B b tb) : VE X B (.BinOp a .Mult b pos) (tv2 (gI CMul fun i j => .int (i * j)) ta tb) := ve_op op_mul (pop_I fun i j _ => .int _) ha hb
theorem ve_mod (ha : VE X B a ta) (hb : VE X B b tb) : VE X B (.BinOp a .Mod b pos) (tv2 (gI (fun _ j => 0 < j) fun i j => .int (i % j)) ta tb) := ve_op op_mod (pop_I fun i j _ => .int _) ha hb
theorem ve_fdiv (ha : VE X B a ta) (hb : VE X B b tb) : VE X B (.BinOp a .FloorDiv b pos) (tv2 (gI CDiv fun i j => .int (i / j)) ta tb) := ve_op op_fdiv (pop_I fun i j _ => .int _) ha hb
theorem ve_pow (ha : VE X B a ta) (hb : VE X B b tb) : VE X B (.BinOp a .Pow b pos) (tv2 (gI CPow fun i j => .int (i ^ j.toNat)) ta tb) := ve_op op_pow (pop_I fun i j _ => .int _) ha hb
theorem ve_lt (ha : VE X B a ta) (hb : VE X B b tb) : VE X B (.Compare a [.Lt] [b] pos) (tv2 (gI0 fun i j => .bl (decide (i < j))) ta tb) := ve_cmp op_lt (pop_I0 fun i j _ => .bl _) ha hb (nomark _)
theorem ve_le (ha : VE X B a ta) (hb : VE X B b tb) : VE X B (.Compare a [.LtE] [b] pos) (tv2 (gI0 fun i j => .bl (decide (i ≤ j))) ta tb) := ve_cmp op_le (pop_I0 fun i j _ => .bl _) ha hb (nomark _)
theorem ve_gt (ha : VE X B a ta) (hb : VE X B b tb) : VE X B (.Compare a [.Gt] [b] pos) (tv2 (gI0 fun i j => .bl (decide (j < i))) ta tb) := ve_cmp op_gt (pop_I0 fun i j _ => .bl _) ha hb (nomark _)
theorem ve_ge (ha : VE X B a ta) (hb : VE X B b tb) : VE X B (.Compare a [.GtE] [b] pos) (tv2 (gI0 fun i j => .bl (decide (j ≤ i))) ta tb) := ve_cmp op_ge (pop_I0 fun i j _ => .bl _) ha hb (nomark _)
/-- +: numbers, texts, lists -/
def gAdd : G2 := fun s x y Q => match s.flat x, s.flat y with
  | .int i, .int j => Q (.int (i + j))
  | .str i, .str j => i.length + j.length ≤ sizeLine ∧ Q (.str (i ++ j))
  | .lst xs, .lst ys => xs.length + ys.length ≤ sizeLine ∧ Q (.lst (xs ++ ys))
  | _, _ => False
def rAddAll : R2 := fun x y H Q => (rI0 (fun i j => V.int (i + j)) x y H Q) ∨ (∃ i j, x = .str i ∧ y = .str j ∧ i.length + j.length ≤ sizeLine ∧ Q (.str (i ++ j)) H) ∨ rCat x y H Q
theorem op_addAll : OpR X (binaryOp .Add) rAddAll := OpR.or op_add (OpR.or op_add_str op_cat)
theorem flat_plain {s : S} {x y : PV} {K : PySem.W.Frag} {F : Hp} {M : Locs} {v : V} {B : Bs} {σ : L2.St} {H : Hp} (R : Rel K B M s σ H) (h : RepL K (FS B.D M H) M x v) (e : s.flat x = y) (n : kidsLf y = true) (hn : ∀ k, y ≠ .loc k) (hl : ∀ xs, y ≠ .lst xs) (hd : ∀ ks xs, y ≠ .dct ks xs) : Rep K (FS B.D M H) y v := by
  rcases h with ⟨k, A, rfl, q⟩ | h
  · cases z : s.m[k]? with
    | none => simp [S.flat, z] at e; exact (hn k e.symm).elim
    | some o =>
      cases o with
      | none => simp [S.flat, z] at e; exact (hn k e.symm).elim
      | some l =>
        have ow := R.own.own k _ l q z
        cases l with
        | flat w =>
          simp [S.flat, z] at e; subst e
          cases ow with
          | flatL _ _ => exact (hl _ rfl).elim
          | flatD _ _ _ => exact (hd _ _ rfl).elim
        | deep w =>
          simp only [S.flat, z] at e
          by_cases c : kidsLf w = true
          · rw [if_pos c] at e; subst e
            cases ow with
            | deep h1 =>
              cases h1 with
              | lst _ _ _ => exact (hl _ rfl).elim
              | dct _ _ _ _ => exact (hd _ _ rfl).elim
              | non => exact .non
              | bl b => exact .bl b
              | int i => exact .int i
              | str i => exact .str i
              | obj => exact .obj _
              | exc i => exact .exc i
              | tup h2 h3 =>
                refine (OwnD.tup h2 h3).rep (Le.refl _) _ _ _ fun a m u hu => ?_
                obtain ⟨o, ho, _⟩ := h3.cells _ _ _ a m
                exact absurd m (by
                  have hx : ∀ (xs : List PV) (vs : List V) (A : List Addr), PV.lfs xs = true → OwnDs K (FS B.D M H) H xs vs A → A = [] := by
                    intro xs
                    exact PV.rec_1 (motive_1 := fun x => ∀ (v : V) (A : List Addr), x.lf = true → OwnD K (FS B.D M H) H x v A → A = []) (motive_2 := fun xs => ∀ (vs : List V) (A : List Addr), PV.lfs xs = true → OwnDs K (FS B.D M H) H xs vs A → A = [])
                      (by intro v A _ h; cases h; rfl) (by intro b v A _ h; cases h; rfl) (by intro b v A _ h; cases h; rfl) (by intro b v A _ h; cases h; rfl)
                      (by intro xs _ v A e; cases e) (by intro xs ih v A e h; cases h with | tup h1 h2 => exact ih _ _ e h2) (by intro ks xs _ v A e; cases e) (by intro xs _ v A e; cases e)
                      (by intro c v A _ h; cases h; rfl) (by intro b v A _ h; cases h; rfl) (by intro k v A e; cases e)
                      (by intro vs A _ h; cases h; rfl)
                      (by
                        intro x xs h1 h2 vs A e h
                        cases h with
                        | cons a b _ =>
                          rw [h1 _ _ (Bool.and_eq_true_iff.mp e).1 a, h2 _ _ (Bool.and_eq_true_iff.mp e).2 b]; rfl) xs
                  rw [hx _ _ _ c h3]; exact fun z => nomatch z)
          · rw [if_neg c] at e; exact (hn k e.symm).elim
  · have e2 : s.flat x = x := by
      cases x with
      | loc k => exact (not_loc h).elim
      | _ => rfl
    rw [e2] at e; subst e; exact h
theorem flat_int {s : S} {x : PV} {i : Int} {K : PySem.W.Frag} {M : Locs} {v : V} {B : Bs} {σ : L2.St} {H : Hp} (R : Rel K B M s σ H) (h : RepL K (FS B.D M H) M x v) (e : s.flat x = .int i) : v = .int i := by
  have := flat_plain (F := FS B.D M H) R h e rfl (fun _ z => nomatch z) (fun _ z => nomatch z) (fun _ _ z => nomatch z)
  cases this; rfl
theorem flat_str {s : S} {x : PV} {i : Str} {K : PySem.W.Frag} {M : Locs} {v : V} {B : Bs} {σ : L2.St} {H : Hp} (R : Rel K B M s σ H) (h : RepL K (FS B.D M H) M x v) (e : s.flat x = .str i) : v = .str i := by
  have := flat_plain (F := FS B.D M H) R h e rfl (fun _ z => nomatch z) (fun _ z => nomatch z) (fun _ _ z => nomatch z)
  cases this; rfl
theorem pop_add : POp X B rAddAll gAdd := by
  intro s σ H M x y v w Qp Q R hx hy g k
  unfold gAdd at g
  split at g
  · rename_i i j e1 e2
    exact .inl ⟨i, j, flat_int R hx e1, flat_int R hy e2, k _ _ H (Le.refl H) (.int _) g⟩
  · rename_i i j e1 e2
    exact .inr (.inl ⟨i, j, flat_str R hx e1, flat_str R hy e2, g.1, k _ _ H (Le.refl H) (.str _) g.2⟩)
  · rename_i xs ys e1 e2
    obtain ⟨a, ws, rfl, h1, r1⟩ := R.flatL hx e1
    obtain ⟨b, us, rfl, h2, r2⟩ := R.flatL hy e2
    refine .inr (.inr ⟨a, b, ws, us, rfl, rfl, h1, h2, by rw [← r1.length, ← r2.length]; exact g.1, fun p hp => ?_⟩)
    obtain ⟨af, rr⟩ := (R.pushL hp (r1.append r2)).give R
    exact k _ _ _ (upd_le hp) rr g.2
  · exact g.elim
theorem ve_add (ha : VE X B a ta) (hb : VE X B b tb) : VE X B (.BinOp a .Add b pos) (tv2 gAdd ta tb) := ve_op op_addAll pop_add ha hb
def gAddF : G2F := fun s x y Q => match s.flat x, s.flat y with
  | .lst xs, .lst ys => xs.length + ys.length ≤ sizeLine ∧ Q (.flat (.lst (xs ++ ys)))
  | _, _ => False
theorem fop_add : FOp X B rCat gAddF := by
  intro s σ H M x y v w Qp Q R hx hy g k
  unfold gAddF at g
  split at g
  · rename_i xs ys e1 e2
    obtain ⟨a, ws, rfl, h1, r1⟩ := R.flatL hx e1
    obtain ⟨b, us, rfl, h2, r2⟩ := R.flatL hy e2
    exact ⟨a, b, ws, us, rfl, rfl, h1, h2, by rw [← r1.length, ← r2.length]; exact g.1, fun p hp => k _ _ _ _ (R.pushL hp (r1.append r2)) g.2⟩
  · exact g.elim
theorem vf_add (ha : VE X B a ta) (hb : VE X B b tb) : VF X B (.BinOp a .Add b pos) (tv2F gAddF ta tb) := vf_op op_cat fop_add ha hb

/-! ### one value -/
abbrev G1 := S → PV → (PV → Prop) → Prop
def tv1 (g : G1) (ta : TVE) : TVE := fun Q s => ta (fun x s1 => g s1 x fun z => Q z s1) s
def gNeg : G1 := fun _ x Q => match x with
  | .int i => Q (.int (-i))
  | _ => False
theorem ve_neg (ha : VE X B a ta) : VE X B (.UnaryOp .USub a pos) (tv1 gNeg ta) := by
  obtain ⟨T, p, w⟩ := ha
  refine ⟨_, pe_un un_neg p, fun Qp Q s σ H M R ht k => ?_⟩
  refine w _ _ s σ H M R ht fun x v s1 H1 M1 a1 r1 q1 => ?_
  cases x with
  | int i => exact ⟨i, r1.int, k _ _ s1 H1 M1 a1 (.inr (.int _)) q1⟩
  | _ => exact q1.elim

/-! ### lists and tuples written out -/
theorem RepLs.reps {K : PySem.W.Frag} {F : Hp} {M : Locs} : ∀ {xs : List PV} {vs : List V}, RepLs K F M xs vs → (∀ x ∈ xs, ∀ k, x ≠ .loc k) → Reps K F xs vs
  | _, _, .nil, _ => .nil
  | _, _, .cons h t, n => .cons (h.rep (n _ List.mem_cons_self)) (RepLs.reps t fun x m => n x (List.mem_cons_of_mem _ m))
def noLocs : List PV → Bool
  | [] => true
  | .loc _ :: _ => false
  | _ :: r => noLocs r
theorem noLocs_ok : ∀ {xs : List PV}, noLocs xs = true → ∀ x ∈ xs, ∀ k, x ≠ .loc k
  | [], _, x, m, k => by cases m
  | y :: r, h, x, m, k => by
    cases y with
    | loc j => cases h
    | _ =>
      rcases List.mem_cons.mp m with rfl | m
      · exact fun z => nomatch z
      · exact noLocs_ok (xs := r) h x m k
def tvLst (t : TVA) : TVF := fun Q s => t (fun xs s' => xs.length ≤ sizeLine ∧ noLocs xs = true ∧ Q (.flat (.lst xs)) s') s
theorem vf_lst {t : TVA} (h : VA X B es t) : VF X B (.List es pos) (tvLst t) := by
  obtain ⟨T, p, w⟩ := h
  refine ⟨_, pe_lst p, fun Qp Q s σ H M R ht k => ?_⟩
  refine w _ _ s σ H M R ht fun xs vs s1 H1 M1 a1 r1 q1 => ?_
  exact ⟨by rw [← r1.length]; exact q1.1, fun p hp => k _ _ _ s1 _ M1 (.pre a1 (a1.rel.pushL hp (r1.reps (noLocs_ok q1.2.1)))) q1.2.2⟩
def tvTup (t : TVA) : TVE := fun Q s => t (fun xs s' => xs.length ≤ sizeLine ∧ noLocs xs = true ∧ Q (.tup xs) s') s
theorem ve_tup {t : TVA} {j : Nat} (h : VA X B es t) : VE X B (.Tuple es j pos) (tvTup t) := by
  obtain ⟨T, p, w⟩ := h
  refine ⟨_, pe_tup p, fun Qp Q s σ H M R ht k => ?_⟩
  refine w _ _ s σ H M R ht fun xs vs s1 H1 M1 a1 r1 q1 => ?_
  exact ⟨by rw [← r1.length]; exact q1.1, fun p hp => k _ _ s1 _ M1 (a1.grow (upd_le hp)) (.inr (a1.rel.tuple hp (r1.reps (noLocs_ok q1.2.1)))) q1.2.2⟩

/-! ### tests -/
theorem vt_val {t : TVE} (h : VE X B e t) (he : ∀ whole, isTrue e X.env whole = (do let v ← whole; standAt e.pos; holding [v] (truthy v)) := by intro _; rfl) : VT X B e (fun Q s => t (fun x s' => match x with | .bl b => Q b s' | _ => False) s) := by
  obtain ⟨T, p, w⟩ := h
  refine ⟨_, pt_val p he, fun Qp Q s σ H M R ht k => ?_⟩
  refine w _ _ s σ H M R ht fun x v s1 H1 M1 a1 r1 q1 => ?_
  cases x with
  | bl b =>
    rcases r1 with ⟨_, _, e, _⟩ | r1
    · cases e
    · cases r1; exact ⟨b, rfl, k b s1 H1 M1 a1 q1⟩
  | _ => exact q1.elim
def tvB (t : TVE) : TVT := fun Q s => t (fun x s' => match x with | .bl b => Q b s' | _ => False) s
/-- a comparison as a test -/
theorem vt_cmp {op : CmpOp} {r : R2} {g : G2} (ho : OpR X (compareOp op) r) (hp : POp X B r g) (ha : VE X B a ta) (hb : VE X B b tb) (hm : behindInMarks op b = false) : VT X B (.Compare a [op] [b] pos) (tvB (tv2 g ta tb)) := by
  obtain ⟨T, p, w⟩ := ha
  obtain ⟨T2, p2, w2⟩ := hb
  refine ⟨_, pt_cmpR ho p p2 hm, fun Qp Q s σ H M R ht k => ?_⟩
  refine w _ _ s σ H M R ht fun x v s1 H1 M1 a1 r1 q1 => ?_
  refine w2 _ _ s1 σ H1 M1 a1.rel q1 fun y u s2 H2 M2 a2 r2 q2 => ?_
  refine hp s2 σ H2 M2 x y v u _ _ a2.rel (a2.repl r1) r2 q2 fun z u' H' le rz qz => ?_
  cases z with
  | bl b => cases rz; exact ⟨b, rfl, k b s2 H' M2 ((a1.trans a2).grow le) qz⟩
  | _ => exact qz.elim
theorem vt_lt (ha : VE X B a ta) (hb : VE X B b tb) : VT X B (.Compare a [.Lt] [b] pos) (tvB (tv2 (gI0 fun i j => .bl (decide (i < j))) ta tb)) := vt_cmp op_lt (pop_I0 fun i j _ => .bl _) ha hb (nomark _)
theorem vt_le (ha : VE X B a ta) (hb : VE X B b tb) : VT X B (.Compare a [.LtE] [b] pos) (tvB (tv2 (gI0 fun i j => .bl (decide (i ≤ j))) ta tb)) := vt_cmp op_le (pop_I0 fun i j _ => .bl _) ha hb (nomark _)
theorem vt_gt (ha : VE X B a ta) (hb : VE X B b tb) : VT X B (.Compare a [.Gt] [b] pos) (tvB (tv2 (gI0 fun i j => .bl (decide (j < i))) ta tb)) := vt_cmp op_gt (pop_I0 fun i j _ => .bl _) ha hb (nomark _)
theorem vt_ge (ha : VE X B a ta) (hb : VE X B b tb) : VT X B (.Compare a [.GtE] [b] pos) (tvB (tv2 (gI0 fun i j => .bl (decide (j ≤ i))) ta tb)) := vt_cmp op_ge (pop_I0 fun i j _ => .bl _) ha hb (nomark _)
def tvNot (t : TVT) : TVT := fun Q s => t (fun c s' => Q (!c) s') s
theorem vt_not {t : TVT} (h : VT X B a t) : VT X B (.UnaryOp .Not a pos) (tvNot t) := by
  obtain ⟨T, p, w⟩ := h
  exact ⟨_, pt_not p, fun Qp Q s σ H M R ht k => w _ _ s σ H M R ht fun b s1 H1 M1 a1 q1 => k _ s1 H1 M1 a1 q1⟩
theorem VW.vt {t : TVT} (h : VW X B e t) : VT X B e t := by
  obtain ⟨T, p, w⟩ := h
  exact ⟨T, p.pt, w⟩
theorem vw_and1 {t : TVT} (h : VT X B a t) : VW X B (.BoolOp .And [a] pos) t := by
  obtain ⟨T, p, w⟩ := h
  exact ⟨T, pw_and1 p, w⟩
theorem vw_or1 {t : TVT} (h : VT X B a t) : VW X B (.BoolOp .Or [a] pos) t := by
  obtain ⟨T, p, w⟩ := h
  exact ⟨T, pw_or1 p, w⟩
def tvAnd (t u : TVT) : TVT := fun Q s => t (fun c s' => if c = true then u Q s' else Q false s') s
def tvOr (t u : TVT) : TVT := fun Q s => t (fun c s' => if c = true then Q true s' else u Q s') s
theorem vw_and {t u : TVT} {rest : List Expr} (h : VT X B a t) (g : VW X B (.BoolOp .And (b :: rest) pos) u) : VW X B (.BoolOp .And (a :: b :: rest) pos) (tvAnd t u) := by
  obtain ⟨T, p, w⟩ := h
  obtain ⟨T2, p2, w2⟩ := g
  refine ⟨_, pw_and p p2, fun Qp Q s σ H M R ht k => w _ _ s σ H M R ht fun c s1 H1 M1 a1 q1 => ?_⟩
  cases c with
  | true => exact w2 _ _ s1 σ H1 M1 a1.rel q1 fun d s2 H2 M2 a2 q2 => k d s2 H2 M2 (a1.trans a2) q2
  | false => exact k false s1 H1 M1 a1 q1
theorem vw_or {t u : TVT} {rest : List Expr} (h : VT X B a t) (g : VW X B (.BoolOp .Or (b :: rest) pos) u) : VW X B (.BoolOp .Or (a :: b :: rest) pos) (tvOr t u) := by
  obtain ⟨T, p, w⟩ := h
  obtain ⟨T2, p2, w2⟩ := g
  refine ⟨_, pw_or p p2, fun Qp Q s σ H M R ht k => w _ _ s σ H M R ht fun c s1 H1 M1 a1 q1 => ?_⟩
  cases c with
  | false => exact w2 _ _ s1 σ H1 M1 a1.rel q1 fun d s2 H2 M2 a2 q2 => k d s2 H2 M2 (a1.trans a2) q2
  | true => exact k true s1 H1 M1 a1 q1
end
end VS
namespace VS
open PySem PySem.Spec PyProof.Rows L2
abbrev nums (ns : List Int) : PV := .lst (ns.map PV.int)

/-! ### equality of data -/
mutual
def PV.toD : PV → Option PyData
  | .non => some .none
  | .bl b => some (.bool b)
  | .int i => some (.int i)
  | .str x => some (.str x)
  | .lst xs => (PV.toDs xs).map .list
  | .cl xs => (PV.toDs xs).map .list
  | .tup xs => (PV.toDs xs).map .tuple
  | _ => none
def PV.toDs : List PV → Option (List PyData)
  | [] => some []
  | x :: xs => match x.toD, PV.toDs xs with
    | some d, some ds => some (d :: ds)
    | _, _ => none
end
mutual
theorem Rep.dp {K : PySem.W.Frag} {H : Hp} : ∀ (x : PV) (v : V) (d : PyData), Rep K H x v → x.toD = some d → Dp K H v d
  | .non, _, _, h, e => by cases h; cases e; exact .non
  | .bl b, _, _, h, e => by cases h; cases e; exact .bl b
  | .int i, _, _, h, e => by cases h; cases e; exact .int i
  | .str x, _, _, h, e => by cases h; cases e; exact .str x
  | .lst xs, _, _, h, e => by
    cases h with
    | lst a b =>
      cases q : PV.toDs xs with
      | none => rw [PV.toD, q] at e; cases e
      | some ds => rw [PV.toD, q] at e; cases e; exact .lst (.inl (.inl a)) (Reps.dp xs _ ds b q)
  | .cl xs, _, _, h, e => by
    cases h with
    | cl a b =>
      cases q : PV.toDs xs with
      | none => rw [PV.toD, q] at e; cases e
      | some ds => rw [PV.toD, q] at e; cases e; exact .lst a (Reps.dp xs _ ds b q)
  | .tup xs, _, _, h, e => by
    cases h with
    | tup a b =>
      cases q : PV.toDs xs with
      | none => rw [PV.toD, q] at e; cases e
      | some ds => rw [PV.toD, q] at e; cases e; exact .tup a (Reps.dp xs _ ds b q)
  | .dct _ _, _, _, _, e => by cases e
  | .exc _, _, _, _, e => by cases e
  | .obj _, _, _, _, e => by cases e
  | .loc _, _, _, _, e => by cases e
theorem Reps.dp {K : PySem.W.Frag} {H : Hp} : ∀ (xs : List PV) (vs : List V) (ds : List PyData), Reps K H xs vs → PV.toDs xs = some ds → DpAll K H vs ds
  | [], _, _, h, e => by cases h; cases e; exact .nil
  | x :: xs, _, _, h, e => by
    cases h with
    | cons a b =>
      cases q1 : x.toD with
      | none => rw [PV.toDs, q1] at e; cases e
      | some d =>
        cases q2 : PV.toDs xs with
        | none => rw [PV.toDs, q1, q2] at e; cases e
        | some ds => rw [PV.toDs, q1, q2] at e; cases e; exact .cons (Rep.dp x _ d a q1) (Reps.dp xs _ ds b q2)
end
theorem toDs_ints : ∀ ns : List Int, PV.toDs (ns.map PV.int) = some (ns.map PyData.int)
  | [] => rfl
  | n :: ns => by rw [List.map_cons, PV.toDs, toDs_ints ns]; rfl
theorem toD_ints (ns : List Int) : (nums ns).toD = some (.list (ns.map PyData.int)) := by rw [nums, PV.toD, toDs_ints]; rfl
theorem toD_cints (ns : List Int) : (PV.cl (ns.map PV.int)).toD = some (.list (ns.map PyData.int)) := by rw [PV.toD, toDs_ints]; rfl
theorem lay_ints : ∀ ns : List Int, PyData.canLayAll0 (ns.map PyData.int) = true
  | [] => rfl
  | n :: ns => by rw [List.map_cons, PyData.canLayAll0, lay_ints ns]; rfl
theorem depth_ints : ∀ ns : List Int, PyData.depthAll (ns.map PyData.int) = 0
  | [] => rfl
  | n :: ns => by rw [List.map_cons, PyData.depthAll, depth_ints ns]; rfl
theorem shaped_ints (ns : List Int) : SeqAt.shaped (.list (ns.map PyData.int)) = true := by
  unfold SeqAt.shaped
  rw [PyData.canLay0, lay_ints, PyData.depth, depth_ints]; rfl
theorem eqvAll_ints : ∀ ns ms : List Int, PyData.eqvAll (ns.map PyData.int) (ms.map PyData.int) = decide (ns = ms)
  | [], [] => rfl
  | [], _ :: _ => rfl
  | _ :: _, [] => rfl
  | n :: ns, m :: ms => by
    rw [List.map_cons, List.map_cons, PyData.eqvAll, eqvAll_ints ns ms]
    show ((n == m) && decide (ns = ms)) = decide (n :: ns = m :: ms)
    by_cases h : n = m
    · subst h
      by_cases g : ns = ms
      · subst g; simp
      · simp [g]
    · simp [h]
theorem eqv_ints (ns ms : List Int) : PyData.eqv (.list (ns.map PyData.int)) (.list (ms.map PyData.int)) = decide (ns = ms) := by
  rw [PyData.eqv, eqvAll_ints]
section
variable {X : Cx} {B : Bs} {a b c e : Expr} {es : List Expr} {ta tb tc : TVE} {pos p p2 : Pos}
def gEq (f : Bool → Bool) : G2 := fun s x y Q => ∃ d e, (s.look x).toD = some d ∧ (s.look y).toD = some e ∧ SeqAt.shaped d = true ∧ SeqAt.shaped e = true ∧ Q (.bl (f (PyData.eqv d e)))
theorem toD_noloc {x : PV} {d : PyData} (h : x.toD = some d) : ∀ k, x ≠ .loc k := fun k e => by subst e; cases h
theorem pop_eq : POp X B (rEqD X.K) (gEq id) := by
  intro s σ H M x y v w Qp Q R hx hy ⟨d, e, h1, h2, s1, s2, q⟩ k
  exact ⟨d, e, (R.look hx rfl (toD_noloc h1)).dp _ _ _ h1, (R.look hy rfl (toD_noloc h2)).dp _ _ _ h2, s1, s2, k _ _ H (Le.refl H) (.bl _) q⟩
theorem pop_ne : POp X B (rNeD X.K) (gEq not) := by
  intro s σ H M x y v w Qp Q R hx hy ⟨d, e, h1, h2, s1, s2, q⟩ k
  exact ⟨d, e, (R.look hx rfl (toD_noloc h1)).dp _ _ _ h1, (R.look hy rfl (toD_noloc h2)).dp _ _ _ h2, s1, s2, k _ _ H (Le.refl H) (.bl _) q⟩
theorem ve_eq {k : Nat} (hr : Room k X.A) (ha : VE X B a ta) (hb : VE X B b tb) : VE X B (.Compare a [.Eq] [b] pos) (tv2 (gEq id) ta tb) := ve_cmp (op_eqD hr.units) pop_eq ha hb (nomark _)
theorem ve_ne {k : Nat} (hr : Room k X.A) (ha : VE X B a ta) (hb : VE X B b tb) : VE X B (.Compare a [.NotEq] [b] pos) (tv2 (gEq not) ta tb) := ve_cmp (op_neD hr.units) pop_ne ha hb (nomark _)
theorem vt_eq {k : Nat} (hr : Room k X.A) (ha : VE X B a ta) (hb : VE X B b tb) : VT X B (.Compare a [.Eq] [b] pos) (tvB (tv2 (gEq id) ta tb)) := vt_cmp (op_eqD hr.units) pop_eq ha hb (nomark _)
theorem vt_ne {k : Nat} (hr : Room k X.A) (ha : VE X B a ta) (hb : VE X B b tb) : VT X B (.Compare a [.NotEq] [b] pos) (tvB (tv2 (gEq not) ta tb)) := vt_cmp (op_neD hr.units) pop_ne ha hb (nomark _)
/-- the answers one meets -/
theorem gEq.int {f : Bool → Bool} {s : S} {x y : PV} {i j : Int} {Q : PV → Prop} (hx : s.look x = .int i) (hy : s.look y = .int j) (q : Q (.bl (f (decide (i = j))))) : gEq f s x y Q := by
  refine ⟨.int i, .int j, by rw [hx]; rfl, by rw [hy]; rfl, rfl, rfl, ?_⟩
  rw [show PyData.eqv (.int i) (.int j) = decide (i = j) from by rw [PyData.eqv]; by_cases h : i = j <;> simp [h]]; exact q
theorem gEq.ints {f : Bool → Bool} {s : S} {x y : PV} {ns ms : List Int} {Q : PV → Prop} (hx : s.look x = VS.nums ns) (hy : s.look y = VS.nums ms) (q : Q (.bl (f (decide (ns = ms))))) : gEq f s x y Q := by
  refine ⟨_, _, by rw [hx]; exact toD_ints ns, by rw [hy]; exact toD_ints ms, shaped_ints _, shaped_ints _, ?_⟩
  rw [eqv_ints]; exact q
theorem gEq.bl {f : Bool → Bool} {s : S} {x y : PV} {i j : Bool} {Q : PV → Prop} (hx : s.look x = .bl i) (hy : s.look y = .bl j) (q : Q (.bl (f (decide (i = j))))) : gEq f s x y Q := by
  refine ⟨.bool i, .bool j, by rw [hx]; rfl, by rw [hy]; rfl, rfl, rfl, ?_⟩
  rw [show PyData.eqv (.bool i) (.bool j) = decide (i = j) from by rw [PyData.eqv]; cases i <;> cases j <;> rfl]; exact q
/-! ### is None -/
def gIsN (f : Bool → Bool) : G2 := fun _ x y Q => match y with
  | .non => Q (.bl (f (match x with | .non => true | _ => false)))
  | _ => False
theorem RepL.isN {K : PySem.W.Frag} {F : Hp} {M : Locs} {x : PV} {v : V} {D : Addr → Prop} {m : List (Option LK)} {H : Hp} (h : RepL K F M x v) (hn : ∀ u, x ≠ .obj u) (hd : ∀ k, x ≠ .loc k) : decide (v = .non) = (match x with | .non => true | _ => false) := by
  rcases h with ⟨k, A, rfl, e⟩ | h
  · exact (hd k rfl).elim
  · cases h with
    | obj => exact (hn _ rfl).elim
    | _ => rfl
def gIsN' (f : Bool → Bool) : G2 := fun _ x y Q => match y, x with
  | .non, .obj _ => False
  | .non, .loc _ => False
  | .non, .non => Q (.bl (f true))
  | .non, _ => Q (.bl (f false))
  | _, _ => False
theorem isN_ok {f : Bool → Bool} {s : S} {σ : L2.St} {H : Hp} {M : Locs} {x y : PV} {v w : V} {Qp : PV → Prop} (R : Rel X.K B M s σ H) (hx : RepL X.K (FS B.D M H) M x v) (hy : RepL X.K (FS B.D M H) M y w) (g : gIsN' f s x y Qp) : w = .non ∧ Qp (.bl (f (decide (v = .non)))) := by
  cases y with
  | non =>
    have hw : w = .non := by
      rcases hy with ⟨_, _, e, _⟩ | h
      · cases e
      · cases h; rfl
    refine ⟨hw, ?_⟩
    cases x with
    | obj _ => exact g.elim
    | loc _ => exact g.elim
    | non => rw [hx.isN (D := B.D) (m := s.m) (H := H) (fun _ z => nomatch z) (fun _ z => nomatch z)]; exact g
    | _ => rw [hx.isN (D := B.D) (m := s.m) (H := H) (fun _ z => nomatch z) (fun _ z => nomatch z)]; exact g
  | _ => exact g.elim
theorem pop_isN : POp X B (fun x y H Q => y = .non ∧ Q (.bl (decide (x = .non))) H) (gIsN' id) := by
  intro s σ H M x y v w Qp Q R hx hy g k
  obtain ⟨h1, h2⟩ := isN_ok R hx hy g
  exact ⟨h1, k _ _ H (Le.refl H) (.bl _) h2⟩
theorem pop_notN : POp X B (fun x y H Q => y = .non ∧ Q (.bl (!decide (x = .non))) H) (gIsN' not) := by
  intro s σ H M x y v w Qp Q R hx hy g k
  obtain ⟨h1, h2⟩ := isN_ok R hx hy g
  exact ⟨h1, k _ _ H (Le.refl H) (.bl _) h2⟩
theorem ve_isN (ha : VE X B a ta) (hb : VE X B b tb) : VE X B (.Compare a [.Is] [b] pos) (tv2 (gIsN' id) ta tb) := ve_cmp op_isN pop_isN ha hb (nomark _)
theorem ve_notN (ha : VE X B a ta) (hb : VE X B b tb) : VE X B (.Compare a [.IsNot] [b] pos) (tv2 (gIsN' not) ta tb) := ve_cmp op_notN pop_notN ha hb (nomark _)
theorem vt_isN (ha : VE X B a ta) (hb : VE X B b tb) : VT X B (.Compare a [.Is] [b] pos) (tvB (tv2 (gIsN' id) ta tb)) := vt_cmp op_isN pop_isN ha hb (nomark _)
theorem vt_notN (ha : VE X B a ta) (hb : VE X B b tb) : VT X B (.Compare a [.IsNot] [b] pos) (tvB (tv2 (gIsN' not) ta tb)) := vt_cmp op_notN pop_notN ha hb (nomark _)
/-! ### in, for numbers in lists of numbers -/
def gIn (f : Bool → Bool) : G2 := fun s x y Q => ∃ (i : Int) (ns : List Int), x = .int i ∧ (s.look y = nums ns ∨ s.look y = .cl (ns.map PV.int)) ∧ Q (.bl (f (decide (i ∈ ns))))
theorem inV_ints (i : Int) : ∀ ns : List Int, inV (.int i) (ns.map V.int) = decide (i ∈ ns)
  | [] => by simp [inV]
  | n :: ns => by
    have := inV_ints i ns
    unfold inV at this ⊢
    rw [List.map_cons, List.any_cons, this]
    show ((n == i) || decide (i ∈ ns)) = decide (i ∈ n :: ns)
    by_cases h : n = i
    · subst h; simp
    · have h' : ¬ i = n := fun z => h z.symm
      simp [h, h']
theorem flat_ints : ∀ ns : List Int, (ns.map V.int).all flatV = true
  | [] => rfl
  | n :: ns => by rw [List.map_cons, List.all_cons, flat_ints ns]; rfl
theorem look_ints {K : PySem.W.Frag} {M : Locs} {s : S} {σ : L2.St} {H : Hp} {y : PV} {w : V} {ns : List Int} (R : Rel K B M s σ H) (hy : RepL K (FS B.D M H) M y w) (e : s.look y = nums ns ∨ s.look y = .cl (ns.map PV.int)) : ∃ p, w = .ref p ∧ SqL K H p (ns.map V.int) := by
  rcases e with e | e
  · have := R.look hy e (fun _ z => nomatch z)
    cases this with
    | lst h1 h2 => exact ⟨_, rfl, by rw [← h2.ints_eq]; exact .inl (.inl h1)⟩
  · have := R.look hy e (fun _ z => nomatch z)
    cases this with
    | cl h1 h2 => exact ⟨_, rfl, by rw [← h2.ints_eq]; exact h1⟩
theorem pop_in (neg : Bool) : POp X B (rIn X.K neg) (gIn (if neg then not else id)) := by
  intro s σ H M x y v w Qp Q R hx hy ⟨i, ns, h1, h2, q⟩ k
  subst h1
  obtain ⟨p, rfl, sq⟩ := look_ints R hy h2
  refine ⟨p, _, rfl, .inl sq, by rw [hx.int]; rfl, flat_ints ns, ?_⟩
  rw [hx.int, inV_ints]
  refine k (.bl (if neg then !decide (i ∈ ns) else decide (i ∈ ns))) _ H (Le.refl H) (.bl _) ?_
  cases neg <;> exact q
theorem ve_in (ha : VE X B a ta) (hb : VE X B b tb) (hm : behindInMarks .In b = false := by rfl) : VE X B (.Compare a [.In] [b] pos) (tv2 (gIn id) ta tb) := ve_cmp op_in_seq (pop_in false) ha hb hm
theorem ve_notin (ha : VE X B a ta) (hb : VE X B b tb) (hm : behindInMarks .NotIn b = false := by rfl) : VE X B (.Compare a [.NotIn] [b] pos) (tv2 (gIn not) ta tb) := ve_cmp op_notIn_seq (pop_in true) ha hb hm
theorem vt_in (ha : VE X B a ta) (hb : VE X B b tb) (hm : behindInMarks .In b = false := by rfl) : VT X B (.Compare a [.In] [b] pos) (tvB (tv2 (gIn id) ta tb)) := vt_cmp op_in_seq (pop_in false) ha hb hm
theorem vt_notin (ha : VE X B a ta) (hb : VE X B b tb) (hm : behindInMarks .NotIn b = false := by rfl) : VT X B (.Compare a [.NotIn] [b] pos) (tvB (tv2 (gIn not) ta tb)) := vt_cmp op_notIn_seq (pop_in true) ha hb hm
/-! ### items -/
def gIx : G2 := fun s x y Q => match s.flat x, y with
  | .lst xs, .int i => ∃ z, atI xs i = some z ∧ Q z
  | .cl xs, .int i => ∃ z, atI xs i = some z ∧ Q z
  | .tup xs, .int i => kidsLf (.tup xs) = true ∧ (∃ z, atI xs i = some z ∧ Q z) ∨ (s.flat x = x ∧ ∃ z, atI xs i = some z ∧ Q z)
  | _, _ => False
theorem Reps.at {K : PySem.W.Frag} {F : Hp} {xs : List PV} {ws : List V} {i : Int} {z : PV} (r : Reps K F xs ws) (h : atI xs i = some z) : ∃ u, atI ws i = some u ∧ Rep K F z u := by
  unfold atI at h ⊢
  rw [r.length] at h
  cases q : ixN ws.length i with
  | none => rw [q] at h; cases h
  | some j =>
    rw [q] at h
    obtain ⟨u, h1, h2⟩ := r.get h
    exact ⟨u, h1, h2⟩
theorem pop_ix : POp X B (rIx X.K) gIx := by
  intro s σ H M x y v w Qp Q R hx hy g k
  unfold gIx at g
  split at g
  · rename_i xs i e
    obtain ⟨z, hz, q⟩ := g
    obtain ⟨a, ws, rfl, h1, r1⟩ := R.flatL hx e
    obtain ⟨u, h2, r2⟩ := r1.at hz
    exact .inl ⟨a, ws, i, u, rfl, hy.int, .inl (.inl h1), h2, k z u H (Le.refl H) r2 q⟩
  · rename_i xs i e
    obtain ⟨z, hz, q⟩ := g
    obtain ⟨a, ws, rfl, h1, r1⟩ := R.seqL hx (.inr e)
    obtain ⟨u, h2, r2⟩ := r1.at hz
    exact .inl ⟨a, ws, i, u, rfl, hy.int, h1, h2, k z u H (Le.refl H) r2 q⟩
  · rename_i xs i e
    have hr : Rep X.K (FS B.D M H) (.tup xs) v := by
      rcases g with ⟨h1, _⟩ | ⟨h1, _⟩
      · exact flat_plain (F := FS B.D M H) R hx e h1 (fun _ z => nomatch z) (fun _ z => nomatch z) (fun _ _ z => nomatch z)
      · rw [h1] at e; subst e; exact hx.rep (fun _ z => nomatch z)
    have hz : ∃ z, atI xs i = some z ∧ Qp z := g.elim (fun h => h.2) fun h => h.2
    obtain ⟨z, hz, q⟩ := hz
    cases hr with
    | tup h1 r1 =>
      obtain ⟨u, h2, r2⟩ := r1.at hz
      exact .inr (.inl ⟨_, _, i, u, rfl, hy.int, FS_le.sqT h1, h2, k z u H (Le.refl H) r2 q⟩)
  · exact g.elim
theorem ve_item (ha : VE X B a ta) (hb : VE X B b tb) (hs : PlainIx b := by exact fun _ _ => rfl) : VE X B (.Subscript a b pos) (tv2 gIx ta tb) := ve_ix ix_seq pop_ix ha hb hs
/-! ### slices -/
def cutA {α : Type} (xs : List α) (lo hi : Option Int) : List α := (xs.drop (HT.sIx xs.length 0 lo)).take (HT.sIx xs.length xs.length hi - HT.sIx xs.length 0 lo)
abbrev TVO := (Option Int → S → Prop) → S → Prop
def VO (X : Cx) (B : Bs) (e : Option Expr) (t : TVO) : Prop := ∃ T : TO, PO X e T ∧ ∀ (Qp : Option Int → S → Prop) (Q : Option Int → Hp → Prop) (s : S) (σ : L2.St) (H : Hp) (M : Locs), Rel X.K B M s σ H → t Qp s →
  (∀ o s' H' M', Aft X.K B M s σ H M' s' H' → Qp o s' → Q o H') → T σ H Q
def tvNo : TVO := fun Q s => Q none s
def tvSome (t : TVE) : TVO := fun Q s => t (fun x s' => match x with | .int i => Q (some i) s' | _ => False) s
theorem vo_none : VO X B none tvNo := ⟨_, po_none, fun _ _ s σ H M R ht k => k _ s H M (.refl R) ht⟩
theorem vo_some (h : VE X B e ta) : VO X B (some e) (tvSome ta) := by
  obtain ⟨T, p, w⟩ := h
  refine ⟨_, po_some p, fun Qp Q s σ H M R ht k => w _ _ s σ H M R ht fun x v s1 H1 M1 a1 r1 q1 => ?_⟩
  cases x with
  | int i => exact ⟨i, r1.int, k _ s1 H1 M1 a1 q1⟩
  | _ => exact q1.elim
def tvSl (t : TVE) (lo hi : TVO) : TVF := fun Q s => t (fun x s1 => lo (fun l s2 => hi (fun u s3 => match s3.flat x with
  | .lst xs => Q (.flat (.lst (cutA xs l u))) s3
  | .cl xs => Q (.flat (.lst (cutA xs l u))) s3
  | _ => False) s2) s1) s
theorem Reps.cut {K : PySem.W.Frag} {F : Hp} {xs : List PV} {ws : List V} (r : Reps K F xs ws) (lo hi : Option Int) : Reps K F (cutA xs lo hi) (cutV ws lo hi) := by
  unfold cutA cutV
  rw [r.length]
  exact (r.drop _).take _
theorem vf_slice {lo hi : Option Expr} {tl th : TVO} (h : VE X B e ta) (hl : VO X B lo tl) (hh : VO X B hi th) : VF X B (.Subscript e (.Slice lo hi none p2) pos) (tvSl ta tl th) := by
  obtain ⟨T, p, w⟩ := h
  obtain ⟨T2, p2, w2⟩ := hl
  obtain ⟨T3, p3, w3⟩ := hh
  refine ⟨_, pe_slice sl_list p p2 p3, fun Qp Q s σ H M R ht k => ?_⟩
  refine w _ _ s σ H M R ht fun x v s1 H1 M1 a1 r1 q1 => ?_
  refine w2 _ _ s1 σ H1 M1 a1.rel q1 fun l s2 H2 M2 a2 q2 => ?_
  refine w3 _ _ s2 σ H2 M2 a2.rel q2 fun u s3 H3 M3 a3 q3 => ?_
  have rx := (a2.trans a3).repl r1
  have fin : ∀ xs, (s3.flat x = .lst xs ∨ s3.flat x = .cl xs) → Qp (.flat (.lst (cutA xs l u))) s3 → rSlL X.K v l u H3 Q := fun xs e q => by
    obtain ⟨a, ws, rfl, h1, rr⟩ := a3.rel.seqL rx e
    exact ⟨a, ws, rfl, h1, fun p hp => k _ _ _ s3 _ M3 (.pre ((a1.trans a2).trans a3) (a3.rel.pushL hp (rr.cut l u))) q⟩
  cases q : s3.flat x with
  | lst xs => rw [q] at q3; exact fin xs (.inl q) q3
  | cl xs => rw [q] at q3; exact fin xs (.inr q) q3
  | _ => rw [q] at q3; exact q3.elim
/-! ### built-in calls -/
abbrev GC := S → List PV → (PV → Prop) → Prop
def PCall (X : Cx) (B : Bs) (r : List V → Hp → VK → Prop) (g : GC) : Prop := ∀ (s : S) (σ : L2.St) (H : Hp) (M : Locs) (xs : List PV) (vs : List V) (Qp : PV → Prop) (Q : VK), Rel X.K B M s σ H → RepLs X.K (FS B.D M H) M xs vs → g s xs Qp →
  (∀ z u H', Le H H' → Rep X.K (FS B.D M H') z u → Qp z → Q u H') → r vs H Q
abbrev GCF := S → List PV → (LK → Prop) → Prop
def FCall (X : Cx) (B : Bs) (r : List V → Hp → VK → Prop) (g : GCF) : Prop := ∀ (s : S) (σ : L2.St) (H : Hp) (M : Locs) (xs : List PV) (vs : List V) (Qp : LK → Prop) (Q : VK), Rel X.K B M s σ H → RepLs X.K (FS B.D M H) M xs vs → g s xs Qp →
  (∀ l u A H', AftF X.K B M s σ H M s H' l u A → Qp l → Q u H') → r vs H Q
def tvCB (g : GC) (t : TVA) : TVE := fun Q s => t (fun xs s' => g s' xs fun z => Q z s') s
def tvCBF (g : GCF) (t : TVA) : TVF := fun Q s => t (fun xs s' => g s' xs fun z => Q z s') s
section
variable {r : List V → Hp → VK → Prop} {t : TVA} {x : Str} {id T : String}
theorem ve_callB {g : GC} (hc : CallR X (.builtin id) r) (hp : PCall X B r g) (hm : X.mg x = none) (ha : VA X B (e :: es) t) (hg : Gl X x) (hv : bootBuiltins x = some (.builtin id) := by decide +kernel) (hn : x ≠ "__name__" := by decide) (hdb : (x == ("__debug__" : Str)) = false := by decide)
    (he : starEach (e :: es) X.env = (false, eval e X.env) :: starEach es X.env := by rfl) (hpl : (backTo pos (starEach es X.env)).any (·.1) = false := by rfl) : VE X B (.Call (.Name x p) (e :: es) [] pos) (tvCB g t) := by
  obtain ⟨T, p, w⟩ := ha
  refine ⟨_, pe_callB hc hg hm hv p hn hdb he hpl, fun Qp Q s σ H M R ht k => w _ _ s σ H M R ht fun xs vs s1 H1 M1 a1 r1 q1 => ?_⟩
  exact hp s1 σ H1 M1 xs vs _ Q a1.rel r1 q1 fun z u H' le rz qz => k z u s1 H' M1 (a1.grow le) (.inr rz) qz
theorem ve_callTy {g : GC} (hc : CallR X (.type T) r) (hp : PCall X B r g) (hm : X.mg x = none) (ha : VA X B (e :: es) t) (hg : Gl X x) (hv : bootBuiltins x = some (.type T) := by decide +kernel) (hn : x ≠ "__name__" := by decide) (hdb : (x == ("__debug__" : Str)) = false := by decide)
    (he : starEach (e :: es) X.env = (false, eval e X.env) :: starEach es X.env := by rfl) (hpl : (backTo pos (starEach es X.env)).any (·.1) = false := by rfl) : VE X B (.Call (.Name x p) (e :: es) [] pos) (tvCB g t) := by
  obtain ⟨T, p, w⟩ := ha
  refine ⟨_, pe_callTy hc hg hm hv p hn hdb he hpl, fun Qp Q s σ H M R ht k => w _ _ s σ H M R ht fun xs vs s1 H1 M1 a1 r1 q1 => ?_⟩
  exact hp s1 σ H1 M1 xs vs _ Q a1.rel r1 q1 fun z u H' le rz qz => k z u s1 H' M1 (a1.grow le) (.inr rz) qz
theorem vf_callB {g : GCF} (hc : CallR X (.builtin id) r) (hp : FCall X B r g) (hm : X.mg x = none) (ha : VA X B (e :: es) t) (hg : Gl X x) (hv : bootBuiltins x = some (.builtin id) := by decide +kernel) (hn : x ≠ "__name__" := by decide) (hdb : (x == ("__debug__" : Str)) = false := by decide)
    (he : starEach (e :: es) X.env = (false, eval e X.env) :: starEach es X.env := by rfl) (hpl : (backTo pos (starEach es X.env)).any (·.1) = false := by rfl) : VF X B (.Call (.Name x p) (e :: es) [] pos) (tvCBF g t) := by
  obtain ⟨T, p, w⟩ := ha
  refine ⟨_, pe_callB hc hg hm hv p hn hdb he hpl, fun Qp Q s σ H M R ht k => w _ _ s σ H M R ht fun xs vs s1 H1 M1 a1 r1 q1 => ?_⟩
  exact hp s1 σ H1 M1 xs vs _ Q a1.rel r1 q1 fun l u A H' af ql => k l u A s1 H' M1 (.pre a1 af) ql
theorem vf_callTy {g : GCF} (hc : CallR X (.type T) r) (hp : FCall X B r g) (hm : X.mg x = none) (ha : VA X B (e :: es) t) (hg : Gl X x) (hv : bootBuiltins x = some (.type T) := by decide +kernel) (hn : x ≠ "__name__" := by decide) (hdb : (x == ("__debug__" : Str)) = false := by decide)
    (he : starEach (e :: es) X.env = (false, eval e X.env) :: starEach es X.env := by rfl) (hpl : (backTo pos (starEach es X.env)).any (·.1) = false := by rfl) : VF X B (.Call (.Name x p) (e :: es) [] pos) (tvCBF g t) := by
  obtain ⟨T, p, w⟩ := ha
  refine ⟨_, pe_callTy hc hg hm hv p hn hdb he hpl, fun Qp Q s σ H M R ht k => w _ _ s σ H M R ht fun xs vs s1 H1 M1 a1 r1 q1 => ?_⟩
  exact hp s1 σ H1 M1 xs vs _ Q a1.rel r1 q1 fun l u A H' af ql => k l u A s1 H' M1 (.pre a1 af) ql
end
theorem RepLs.one {K : PySem.W.Frag} {F : Hp} {M : Locs} {x : PV} {vs : List V} (h : RepLs K F M [x] vs) : ∃ v, vs = [v] ∧ RepL K F M x v := by
  cases h with
  | cons a b => cases b; exact ⟨_, rfl, a⟩
def gAbs : GC := fun s xs Q => match xs with
  | [.int i] => Q (.int (if i < 0 then -i else i))
  | _ => False
theorem pc_abs : PCall X B (fun xs H Q => ∃ i, xs = [.int i] ∧ Q (.int (if i < 0 then -i else i)) H) gAbs := by
  intro s σ H M xs vs Qp Q R hx g k
  unfold gAbs at g
  split at g
  · obtain ⟨v, rfl, r⟩ := hx.one
    exact ⟨_, by rw [r.int], k _ _ H (Le.refl H) (.int _) g⟩
  · exact g.elim
def gInt : GC := fun s xs Q => match xs with
  | [.int i] => Q (.int i)
  | [.bl b] => Q (.int (if b then 1 else 0))
  | _ => False
def gLen : GC := fun s xs Q => match xs with
  | [x] => (match s.look x with
    | .lst ys => Q (.int ys.length)
    | .cl ys => Q (.int ys.length)
    | .tup ys => Q (.int ys.length)
    | _ => False)
  | _ => False
theorem pc_len : PCall X B (fun xs H Q => ∃ p ys, xs = [.ref p] ∧ (SqL X.K H p ys ∨ SqT X.K H p ys) ∧ Q (.int ys.length) H) gLen := by
  intro s σ H M xs vs Qp Q R hx g k
  unfold gLen at g
  split at g
  · rename_i x
    obtain ⟨v, rfl, r⟩ := hx.one
    have fin : ∀ (n m : Nat), n = m → Qp (.int n) → Q (.int m) H := fun n m e q => by subst e; exact k _ _ H (Le.refl H) (.int _) q
    split at g
    · rename_i ys e
      have := R.look r e (fun _ z => nomatch z)
      cases this with
      | lst h1 h2 => exact ⟨_, _, rfl, .inl (.inl (.inl h1)), fin _ _ h2.length g⟩
    · rename_i ys e
      have := R.look r e (fun _ z => nomatch z)
      cases this with
      | cl h1 h2 => exact ⟨_, _, rfl, .inl h1, fin _ _ h2.length g⟩
    · rename_i ys e
      have := R.look r e (fun _ z => nomatch z)
      cases this with
      | tup h1 h2 => exact ⟨_, _, rfl, .inr h1, fin _ _ h2.length g⟩
    · exact g.elim
  · exact g.elim
/-- list(x) -/
def gList : GCF := fun s xs Q => match xs with
  | [x] => (match s.flat x with
    | .lst ys => Q (.flat (.lst ys))
    | .cl ys => Q (.flat (.lst ys))
    | _ => False)
  | _ => False
theorem fc_list : FCall X B (fun xs H Q => ∃ p ys, xs = [.ref p] ∧ (SqL X.K H p ys ∨ SqT X.K H p ys) ∧ ∀ l, H l = none → Q (.ref l) (upd H l (.lst ys))) gList := by
  intro s σ H M xs vs Qp Q R hx g k
  unfold gList at g
  split at g
  · rename_i x
    obtain ⟨v, rfl, r⟩ := hx.one
    split at g
    · rename_i ys e
      obtain ⟨a, ws, rfl, h1, rr⟩ := R.seqL r (.inl e)
      exact ⟨a, ws, rfl, .inl h1, fun l hl => k _ _ _ _ (R.pushL hl rr) g⟩
    · rename_i ys e
      obtain ⟨a, ws, rfl, h1, rr⟩ := R.seqL r (.inr e)
      exact ⟨a, ws, rfl, .inl h1, fun l hl => k _ _ _ _ (R.pushL hl rr) g⟩
    · exact g.elim
  · exact g.elim
end
end VS
namespace VS
open PySem PySem.Spec PyProof.Rows L2

/-! ### promises over values -/
abbrev Ms := List (Option LK)
abbrev PSp := List PV → Ms → (PV → Ms → Prop) → (Value → Ms → Prop) → Prop
def toSp (K : PySem.W.Frag) (n : Nat) (ps : PSp) : Sp := fun vs H Q E => vs.length = n ∧ ∃ (D : Addr → Prop) (M : Locs) (m : Ms) (xs : List PV) (Qp : PV → Ms → Prop) (Ep : Value → Ms → Prop),
  Own K D M m H ∧ RepLs K (FS D M H) M xs vs ∧ ps xs m Qp Ep ∧
  (∀ x v A M' m' H', Own K D (M' ++ [(v, A)]) (m' ++ [some (.deep x)]) H' → Step M (M' ++ [(v, A)]) H H' → Roots M M' → M'.length = M.length → Qp x m' → Q v H') ∧
  (∀ c M' m' H', Own K D M' m' H' → Step M M' H H' → Roots M M' → M'.length = M.length → Ep c m' → E c none H')
/-- the def x keeps the promise -/
structure Fn (P : Program) (w : World) (K : PySem.W.Frag) (mg : Str → Option Value) (base : Heap) (x : Str) (k n : Nat) (psp : PSp) : Prop where
  ex : ∃ f fd ps, mg x = some (.ref f) ∧ PySem.W.keepIn K (.ref f) = true ∧ Binds K fd ps [] ∧ FnOk P w K mg base (L2.CX P w) k f fd ps (toSp K n psp)
theorem Fn.imp {P : Program} {w : World} {K : PySem.W.Frag} {mg : Str → Option Value} {base : Heap} {x : Str} {k n : Nat} {psp psp' : PSp} (F : Fn P w K mg base x k n psp) (h : ∀ xs m Q E, psp' xs m Q E → psp xs m Q E) : Fn P w K mg base x k n psp' := by
  obtain ⟨f, fd, ps, h1, h2, h3, h4⟩ := F.ex
  exact ⟨f, fd, ps, h1, h2, h3, h4.imp fun vs H Q E ⟨hl, D, M, m, xs, Qp, Ep, o, r, p, q⟩ => ⟨hl, D, M, m, xs, Qp, Ep, o, r, h _ _ _ _ p, q⟩⟩
theorem Fn.mono {P : Program} {w : World} {K : PySem.W.Frag} {mg : Str → Option Value} {base : Heap} {x : Str} {j k n : Nat} {psp : PSp} (F : Fn P w K mg base x j n psp) (h : j ≤ k) : Fn P w K mg base x k n psp := by
  obtain ⟨f, fd, ps, h1, h2, h3, h4⟩ := F.ex
  exact ⟨f, fd, ps, h1, h2, h3, h4.mono h⟩
/-- what is wanted of an error -/
def WP (K : PySem.W.Frag) (B : Bs) (Wp : Value → S → Prop) : WX := fun c d σ H => d = none ∧ ∃ s M, Rel K B M s σ H ∧ Wp c s

/-! ### statements -/
structure VD where
  nx : S → Prop
  rt : PV → S → Prop
  bk : S → Prop := fun _ => False
  ct : S → Prop := fun _ => False
structure Back (K : PySem.W.Frag) (B : Bs) (F0 : Hp) (d : VD) (D : Ends) : Prop where
  nx : ∀ s σ H M, Rel K B M s σ H → Le F0 (FS B.D M H) → d.nx s → D.nx σ H
  rt : ∀ x v A s σ H M, Rel K B (M ++ [(v, A)]) ⟨s.r, s.m ++ [some (.deep x)]⟩ σ H → Roots B.M0 M → d.rt x s → D.rt v H
  bk : ∀ s σ H M, Rel K B M s σ H → Le F0 (FS B.D M H) → d.bk s → D.bk σ H
  ct : ∀ s σ H M, Rel K B M s σ H → Le F0 (FS B.D M H) → d.ct s → D.ct σ H
abbrev TVS := VD → S → Prop
def VS1 (X : Cx) (B : Bs) (st : Stmt) (t : TVS) : Prop := ∃ T : TS, PS X st T ∧ ∀ (d : VD) (D : Ends) (s : S) (σ : L2.St) (H : Hp) (M : Locs) (F0 : Hp), Rel X.K B M s σ H → Le F0 (FS B.D M H) → t d s → Back X.K B F0 d D → T D σ H
def VSs (X : Cx) (B : Bs) (st : List Stmt) (t : TVS) : Prop := ∃ T : TS, PSs X st T ∧ ∀ (d : VD) (D : Ends) (s : S) (σ : L2.St) (H : Hp) (M : Locs) (F0 : Hp), Rel X.K B M s σ H → Le F0 (FS B.D M H) → t d s → Back X.K B F0 d D → T D σ H

def r0 (N : List Str) (xs : List PV) : List (Option PV) := xs.map some ++ List.replicate (N.length - xs.length) none
theorem Own.cut {K : PySem.W.Frag} {D : Addr → Prop} {M : Locs} {m : Ms} {H : Hp} {n : Nat} (o : Own K D M m H) : Own K D (M.take n) (m.take n) H := by
  have at_ : ∀ {α : Type} {l : List α} {i : Nat} {p : α}, (l.take n)[i]? = some p → l[i]? = some p := fun {α l i p} h => by
    rw [List.getElem?_take] at h
    split at h
    · exact h
    · cases h
  have le : Le (FS D M H) (FS D (M.take n) H) := fun a u h => by
    obtain ⟨h1, h2, h3⟩ := FS_eq.mp h
    exact FS_eq.mpr ⟨h1, fun ⟨p, hp, ha⟩ => h2 ⟨p, List.mem_of_mem_take hp, ha⟩, h3⟩
  refine ⟨by simp [o.len], fun i j p q hi hj => o.dis i j p q (at_ hi) (at_ hj), fun i p l hi hl => (o.own i p l (at_ hi) (at_ hl)).le le fun _ _ _ h => h, fun i p hi hl => o.dead i p (at_ hi) (at_ hl), fun a ⟨p, hp, ha⟩ => o.nD a ⟨p, List.mem_of_mem_take hp, ha⟩, o.al⟩
theorem Own.cutL {K : PySem.W.Frag} {D : Addr → Prop} {M : Locs} {m : Ms} {H : Hp} {n : Nat} {q : V × List Addr} {l : LK} (o : Own K D (M ++ [q]) (m ++ [some l]) H) : Own K D (M.take n ++ [q]) (m.take n ++ [some l]) H := by
  have hl : M.length = m.length := by have := o.len; simpa using this
  have mem : ∀ p ∈ M.take n ++ [q], p ∈ M ++ [q] := fun p hp => (List.mem_append.mp hp).elim (fun h => List.mem_append_left _ (List.mem_of_mem_take h)) fun h => List.mem_append_right _ h
  have le : Le (FS D (M ++ [q]) H) (FS D (M.take n ++ [q]) H) := fun a u h => by
    obtain ⟨h1, h2, h3⟩ := FS_eq.mp h
    exact FS_eq.mpr ⟨h1, fun ⟨p, hp, ha⟩ => h2 ⟨p, mem p hp, ha⟩, h3⟩
  have at_ : ∀ i p, (M.take n ++ [q])[i]? = some p → ∃ j, (M ++ [q])[j]? = some p ∧ (m ++ [some l])[j]? = (m.take n ++ [some l])[i]? ∧ (i < (M.take n).length ∧ j = i ∨ i = (M.take n).length ∧ j = M.length) := fun i p h => by
    by_cases hi : i < (M.take n).length
    · have hi2 : i < M.length := Nat.lt_of_lt_of_le hi (by simp; omega)
      rw [List.getElem?_append_left hi] at h
      refine ⟨i, ?_, ?_, .inl ⟨hi, rfl⟩⟩
      · rw [List.getElem?_append_left hi2]
        rw [List.getElem?_take] at h
        split at h
        · exact h
        · cases h
      · rw [List.getElem?_append_left (by omega), List.getElem?_append_left (by simp at hi ⊢; omega), List.getElem?_take, if_pos (by simp at hi; omega)]
    · have e : i = (M.take n).length := by
        have := (List.getElem?_eq_some_iff.mp h).1
        simp at this hi ⊢; omega
      subst e
      rw [List.getElem?_append_right (Nat.le_refl _)] at h
      simp at h
      refine ⟨M.length, by simp [h], ?_, .inr ⟨rfl, rfl⟩⟩
      have e1 : (m ++ [some l])[M.length]? = some (some l) := by rw [hl]; simp
      have e2 : (m.take n ++ [some l])[(M.take n).length]? = some (some l) := by
        have e3 : (M.take n).length = (m.take n).length := by simp [hl]
        rw [e3]; simp
      rw [e1, e2]
  refine ⟨by simp [hl], fun i j p q' hi hj ne => ?_, fun i p l' hi hm => ?_, fun i p hi hm => ?_, fun a ⟨p, hp, ha⟩ => o.nD a ⟨p, mem p hp, ha⟩, o.al⟩
  · obtain ⟨i', h1, _, c1⟩ := at_ i p hi
    obtain ⟨j', h2, _, c2⟩ := at_ j q' hj
    refine o.dis i' j' p q' h1 h2 fun z => ne ?_
    have hle : (M.take n).length ≤ M.length := by simp; omega
    rcases c1 with ⟨c, rfl⟩ | ⟨c, d⟩
    · rcases c2 with ⟨c', rfl⟩ | ⟨c', d'⟩
      · exact z
      · omega
    · rcases c2 with ⟨c', rfl⟩ | ⟨c', d'⟩
      · omega
      · omega
  · obtain ⟨i', h1, h2, _⟩ := at_ i p hi
    exact (o.own i' p l' h1 (h2.trans hm)).le le fun _ _ _ h => h
  · obtain ⟨i', h1, h2, _⟩ := at_ i p hi
    exact o.dead i' p h1 (h2.trans hm)
theorem Step.sub {M M' M'' : Locs} {H H' : Hp} (t : Step M M' H H') (h : ∀ a, inM M'' a → inM M' a) : Step M M'' H H' := ⟨t.keep, fun a q => t.new a (h a q)⟩
theorem inM_take {M : Locs} {n : Nat} {a : Addr} (h : inM (M.take n) a) : inM M a := let ⟨p, hp, ha⟩ := h; ⟨p, List.mem_of_mem_take hp, ha⟩
theorem Roots.take {M0 M : Locs} (h : Roots M0 M) : Roots M0 (M.take M0.length) := fun k v A e => by
  obtain ⟨A', e'⟩ := h k v A e
  refine ⟨A', ?_⟩
  rw [List.getElem?_take, if_pos (List.getElem?_eq_some_iff.mp e).1]; exact e'
theorem Roots.len {M0 M : Locs} (h : Roots M0 M) : M0.length ≤ M.length := by
  by_cases c : M0.length = 0
  · omega
  · have hi : M0.length - 1 < M0.length := by omega
    obtain ⟨A', e⟩ := h (M0.length - 1) (M0[M0.length - 1]).1 (M0[M0.length - 1]).2 (by rw [List.getElem?_eq_getElem hi])
    have := (List.getElem?_eq_some_iff.mp e).1
    omega
theorem fnok_mk {P : Program} {w : World} {K : PySem.W.Frag} {mg : Str → Option Value} {base : Heap} {x qual : Str} {st : Stmt} {f : Addr} {fd : FuncData} {N ps : List Str} {k n : Nat} {psp : PSp} (F : Fun K x qual st f fd) (sc : FnScope N ps (defScope st)) (hn : ps.length = n)
    (hb : ∀ (cdv : Value) (A : Around) (outer : List Env) (s : Shared) (H : Hp) (E : XK) (B : Bs) (xs : List PV) (m : Ms) (Qp : PV → Ms → Prop) (Ep : Value → Ms → Prop), Room k (A.deeper (envOfC qual (defScope st) s.heap.objs.size f cdv)) →
      Takes (cxOf (L2.CX P w) P w K mg base N qual (defScope st) f cdv A outer s H E) (WP K B fun c s => Ep c (s.m.take m.length)) → B.M0.length = m.length → xs.length = n → psp xs m Qp Ep →
      ∃ t, VSs (cxOf (L2.CX P w) P w K mg base N qual (defScope st) f cdv A outer s H E) B (defBody st) t ∧ t { nx := fun s => Qp .non (s.m.take m.length), rt := fun x s => Qp x (s.m.take m.length) } ⟨r0 N xs, m⟩) : FnOk P w K mg base (L2.CX P w) (k + 1) f fd ps (toSp K n psp) := by
  refine F.okX sc (fun vs H Q E h => h.1.trans hn.symm) fun cdv A outer s H vs Q E hr h => ?_
  obtain ⟨hl, D, M, m, xs, Qp, Ep, o, r, p, kq, ke⟩ := h
  have hml : M.length = m.length := o.len
  have tk : Takes (cxOf (L2.CX P w) P w K mg base N qual (defScope st) f cdv A outer s H E) (WP K ⟨D, H, M⟩ fun c s => Ep c (s.m.take m.length)) := by
    refine Takes.imp (takes_of (E := E) rfl rfl rfl rfl) fun c d σ H' hw => ?_
    obtain ⟨rfl, s', M', R, hw⟩ := hw
    have hle := R.root.len
    refine ke c (M'.take M.length) (s'.m.take M.length) H' R.own.cut (R.base.sub fun a => inM_take) R.root.take ?_ (by rw [hml]; exact hw)
    rw [List.length_take]; exact Nat.min_eq_left hle
  have fin : ∀ (y : PV) (v : V) (A' : List Addr) (s' : S) (σ : L2.St) (H' : Hp) (M' : Locs), Rel K ⟨D, H, M⟩ (M' ++ [(v, A')]) ⟨s'.r, s'.m ++ [some (.deep y)]⟩ σ H' → Roots M M' → Qp y (s'.m.take m.length) → Q v H' := fun y v A' s' σ H' M' R rt q => by
    have hle := rt.len
    refine kq y v A' (M'.take M.length) (s'.m.take M.length) H' R.own.cutL (R.base.sub fun a h => ?_) rt.take ?_ (by rw [hml]; exact q)
    · rcases inM_app.mp h with z | z
      · exact inM_app.mpr (.inl (inM_take z))
      · exact inM_app.mpr (.inr z)
    · rw [List.length_take]; exact Nat.min_eq_left hle
  obtain ⟨t, ⟨T, pT, wT⟩, ht⟩ := hb cdv A outer s H E ⟨D, H, M⟩ xs m Qp Ep hr tk hml (r.length.trans hl) p
  refine ⟨T, pT, wT _ _ ⟨r0 N xs, m⟩ _ _ M (fun _ => none) ⟨o, .refl, .refl, ?_, fun i y e => ?_⟩ (fun _ _ z => nomatch z) ht ⟨fun s' σ H' M' R _ q => ?_, fun y v A' s' σ H' M' R rt q => ?_, fun _ _ _ _ _ _ q => q.elim, fun _ _ _ _ _ _ q => q.elim⟩⟩
  · show (vs.map some ++ List.replicate (N.length - vs.length) none).length = (xs.map some ++ List.replicate (N.length - xs.length) none).length
    simp [r.length]
  · have e' : (xs.map some ++ List.replicate (N.length - xs.length) none)[i]? = some (some y) := e
    by_cases hi : i < xs.length
    · rw [List.getElem?_append_left (by simpa using hi), List.getElem?_map] at e'
      cases q : xs[i]? with
      | none => rw [q] at e'; cases e'
      | some z =>
        rw [q] at e'; cases e'
        obtain ⟨v, h1, h2⟩ := r.get q
        refine ⟨v, ?_, h2⟩
        show (vs.map some ++ List.replicate (N.length - vs.length) none)[i]? = some (some v)
        rw [List.getElem?_append_left (by rw [List.length_map, ← r.length]; exact hi), List.getElem?_map, h1]; rfl
    · rw [List.getElem?_append_right (by simpa using hi), List.getElem?_replicate] at e'
      split at e'
      · cases e'
      · cases e'
  · exact fin .non .non [] s' σ H' M' (R.push (Le.refl H') (fun a m => by cases m) (.deep .non)).rel R.root q
  · exact fin y v A' s' σ H' M' R rt q
theorem fn_mk {P : Program} {w : World} {K : PySem.W.Frag} {mg : Str → Option Value} {base : Heap} {x qual : Str} {st : Stmt} {f : Addr} {fd : FuncData} {N ps : List Str} {k n : Nat} {psp : PSp} (F : Fun K x qual st f fd) (gm : mg x = some (.ref f)) (bd : Binds K fd ps []) (sc : FnScope N ps (defScope st)) (hn : ps.length = n)
    (hb : ∀ (cdv : Value) (A : Around) (outer : List Env) (s : Shared) (H : Hp) (E : XK) (B : Bs) (xs : List PV) (m : Ms) (Qp : PV → Ms → Prop) (Ep : Value → Ms → Prop), Room k (A.deeper (envOfC qual (defScope st) s.heap.objs.size f cdv)) →
      Takes (cxOf (L2.CX P w) P w K mg base N qual (defScope st) f cdv A outer s H E) (WP K B fun c s => Ep c (s.m.take m.length)) → B.M0.length = m.length → xs.length = n → psp xs m Qp Ep →
      ∃ t, VSs (cxOf (L2.CX P w) P w K mg base N qual (defScope st) f cdv A outer s H E) B (defBody st) t ∧ t { nx := fun s => Qp .non (s.m.take m.length), rt := fun x s => Qp x (s.m.take m.length) } ⟨r0 N xs, m⟩) : Fn P w K mg base x (k + 1) n psp :=
  ⟨f, fd, ps, gm, F.kp, bd, fnok_mk F sc hn hb⟩
end VS
namespace VS
open PySem PySem.Spec PyProof.Rows L2
section
variable {X : Cx} {B : Bs} {a b c e o : Expr} {es : List Expr} {ta tb tc te : TVE} {pos p p2 : Pos} {st : Stmt} {rest : List Stmt} {t u : TVS}

/-! ### blocks -/
def tvSeq (t u : TVS) : TVS := fun d s => t { d with nx := u d } s
theorem vss_nil : VSs X B [] (fun d s => d.nx s) := ⟨_, pss_nil, fun d D s σ H M F0 R l ht k => k.nx s σ H M R l ht⟩
theorem vss_one (h : VS1 X B st t) : VSs X B [st] t := by
  obtain ⟨T, p, w⟩ := h
  exact ⟨T, pss_one p, w⟩
theorem vss_cons (h : VS1 X B st t) (g : VSs X B rest u) : VSs X B (st :: rest) (tvSeq t u) := by
  obtain ⟨T, p, w⟩ := h
  obtain ⟨T2, p2, w2⟩ := g
  exact ⟨_, pss_cons p p2, fun d D s σ H M F0 R l ht k => w _ _ s σ H M F0 R l ht ⟨fun s1 σ1 H1 M1 R1 l1 q1 => w2 d D s1 σ1 H1 M1 F0 R1 l1 q1 k, k.rt, k.bk, k.ct⟩⟩
theorem vs_pass : VS1 X B (.Pass pos) (fun d s => d.nx s) := ⟨_, ps_pass, fun d D s σ H M F0 R l ht k => k.nx s σ H M R l ht⟩
theorem vs_break : VS1 X B (.Break pos) (fun d s => d.bk s) := ⟨_, ps_break, fun d D s σ H M F0 R l ht k => k.bk s σ H M R l ht⟩
theorem vs_continue : VS1 X B (.Continue pos) (fun d s => d.ct s) := ⟨_, ps_continue, fun d D s σ H M F0 R l ht k => k.ct s σ H M R l ht⟩
def tvExpr (te : TVE) : TVS := fun d s => te (fun _ s' => d.nx s') s
theorem Aft.fz {K : PySem.W.Frag} {M M' : Locs} {s s' : S} {σ : L2.St} {H H' F0 : Hp} (a : Aft K B M s σ H M' s' H') (l : Le F0 (FS B.D M H)) : Le F0 (FS B.D M' H') := l.trans a.st.le
theorem vs_expr (h : VE X B e te) (hs : swapsWith e none pos.line X.env = pure false := by rfl) : VS1 X B (.Expr e pos) (tvExpr te) := by
  obtain ⟨T, p, w⟩ := h
  exact ⟨_, ps_expr p hs, fun d D s σ H M F0 R l ht k => w _ _ s σ H M R ht fun x v s1 H1 M1 a1 r1 q1 => k.nx s1 σ H1 M1 a1.rel (a1.fz l) q1⟩
/-! ### names set -/
theorem Rel.set {K : PySem.W.Frag} {M : Locs} {s : S} {σ : L2.St} {H : Hp} {x : PV} {v : V} (R : Rel K B M s σ H) (i : Nat) (r : RepL K (FS B.D M H) M x v) : Rel K B M ⟨s.r.set i (some x), s.m⟩ (σ.set i (some v)) H := by
  refine ⟨R.own, R.base, R.root, by simp [R.len], fun j y e => ?_⟩
  have e' : (s.r.set i (some x))[j]? = some (some y) := e
  by_cases h : i = j
  · subst h
    by_cases hi : i < s.r.length
    · rw [List.getElem?_set_self hi] at e'
      cases e'
      exact ⟨v, List.getElem?_set_self (by rw [R.len]; exact hi), r⟩
    · rw [List.getElem?_eq_none (by simp; omega)] at e'; cases e'
  · rw [List.getElem?_set_ne h] at e'
    obtain ⟨u, h1, h2⟩ := R.env j y e'
    exact ⟨u, by rw [List.getElem?_set_ne h]; exact h1, h2⟩
def tvSet (i : Nat) (te : TVE) : TVS := fun d s => te (fun x s' => d.nx ⟨s'.r.set i (some x), s'.m⟩) s
theorem vs_set (i : Nat) {x : Str} {pos' : Pos} (hN : X.N.Nodup) (h : VE X B e te) (hi : X.N[i]? = some x) (hx : Loc X.env.scope x) (hs : swapsWith e (some (.Name x pos')) pos.line X.env = pure false := by rfl) (hf : X.fn x = true ∨ X.env.scope.names.lookup x = some .local := by first | exact .inl rfl | exact .inr rfl | assumption) :
    VS1 X B (.Assign [.Name x pos'] e pos) (tvSet i te) := by
  obtain ⟨T, p, w⟩ := h
  refine ⟨_, ps_set hN hi hx p hs hf, fun d D s σ H M F0 R l ht k => w _ _ s σ H M R ht fun x v s1 H1 M1 a1 r1 q1 => ?_⟩
  exact k.nx _ _ _ M1 (a1.rel.set i r1) (a1.fz l) q1
/-- a new thing of its own, with the next number -/
def tvSetF (i : Nat) (te : TVF) : TVS := fun d s => te (fun l s' => d.nx ⟨s'.r.set i (some (.loc s'.m.length)), s'.m ++ [some l]⟩) s
theorem vs_setF (i : Nat) {x : Str} {pos' : Pos} {te : TVF} (hN : X.N.Nodup) (h : VF X B e te) (hi : X.N[i]? = some x) (hx : Loc X.env.scope x) (hs : swapsWith e (some (.Name x pos')) pos.line X.env = pure false := by rfl) (hf : X.fn x = true ∨ X.env.scope.names.lookup x = some .local := by first | exact .inl rfl | exact .inr rfl | assumption) :
    VS1 X B (.Assign [.Name x pos'] e pos) (tvSetF i te) := by
  obtain ⟨T, p, w⟩ := h
  refine ⟨_, ps_set hN hi hx p hs hf, fun d D s σ H M F0 R le ht k => w _ _ s σ H M R ht fun l v A s1 H1 M1 a1 q1 => ?_⟩
  have hl : M1.length = s1.m.length := by have := a1.rel.own.len; simpa using this
  exact k.nx _ _ _ _ (a1.rel.set i (.inl ⟨s1.m.length, A, rfl, by rw [← hl]; simp⟩)) (le.trans a1.st.le) q1
/-- a new thing in the place of number k, which only this name has -/
def sole (k i : Nat) (r : List (Option PV)) : Bool := (List.range r.length).all fun j => j == i || match r[j]? with
  | some (some (.loc k')) => k' != k
  | _ => true
theorem sole_ok {k i : Nat} {r : List (Option PV)} (h : sole k i r = true) : ∀ (j : Nat) (x : PV), r[j]? = some (some x) → j ≠ i → x ≠ .loc k := fun j x e ne z => by
  have hj : j < r.length := (List.getElem?_eq_some_iff.mp e).1
  have := List.all_eq_true.mp h j (List.mem_range.mpr hj)
  rw [e, z] at this
  simp [ne] at this
def tvSetK (n0 i k : Nat) (te : TVF) : TVS := fun d s => te (fun l s' => n0 ≤ k ∧ k < s'.m.length ∧ sole k i s'.r = true ∧ d.nx ⟨s'.r.set i (some (.loc k)), s'.m.set k (some l)⟩) s
theorem Rel.re {K : PySem.W.Frag} {M : Locs} {s : S} {σ : L2.St} {H : Hp} {l : LK} {v : V} {A : List Addr} {k i : Nat} (R : Rel K B (M ++ [(v, A)]) ⟨s.r, s.m ++ [some l]⟩ σ H) (ho : ∀ (j : Nat) (x : PV), s.r[j]? = some (some x) → ∃ u, σ[j]? = some (some u) ∧ RepL K (FS B.D M H) M x u) (rt : Roots B.M0 M) (h0 : B.M0.length ≤ k) (hk : k < s.m.length) (so : sole k i s.r = true) :
    Rel K B (M.set k (v, A)) ⟨s.r.set i (some (.loc k)), s.m.set k (some l)⟩ (σ.set i (some v)) H ∧ Le (FS B.D (M ++ [(v, A)]) H) (FS B.D (M.set k (v, A)) H) := by
  have hl : M.length = s.m.length := by have := R.own.len; simpa using this
  have hkM : k < M.length := by omega
  have hlast : (M ++ [(v, A)])[M.length]? = some (v, A) := by simp
  have hlastm : (s.m ++ [some l])[M.length]? = some (some l) := by rw [hl]; simp
  have at_ : ∀ (j : Nat) q, (M.set k (v, A))[j]? = some q → (j ≠ k ∧ M[j]? = some q) ∨ (j = k ∧ q = (v, A)) := fun j q h => by
    by_cases z : k = j
    · subst z; rw [List.getElem?_set_self hkM] at h; cases h; exact .inr ⟨rfl, rfl⟩
    · rw [List.getElem?_set_ne z] at h; exact .inl ⟨Ne.symm z, h⟩
  have up : ∀ (j : Nat) q, M[j]? = some q → (M ++ [(v, A)])[j]? = some q := fun j q h => by
    rw [List.getElem?_append_left (List.getElem?_eq_some_iff.mp h).1]; exact h
  have upm : ∀ (j : Nat) q, s.m[j]? = some q → (s.m ++ [some l])[j]? = some q := fun j q h => by
    rw [List.getElem?_append_left (List.getElem?_eq_some_iff.mp h).1]; exact h
  have mem : ∀ x, inM (M.set k (v, A)) x → inM (M ++ [(v, A)]) x := fun x ⟨q, hq, hx⟩ => by
    obtain ⟨j, hj⟩ := List.mem_iff_getElem?.mp hq
    rcases at_ j q hj with ⟨_, h⟩ | ⟨_, rfl⟩
    · exact ⟨q, List.mem_iff_getElem?.mpr ⟨j, up j q h⟩, hx⟩
    · exact ⟨_, List.mem_append_right _ List.mem_cons_self, hx⟩
  have le : Le (FS B.D (M ++ [(v, A)]) H) (FS B.D (M.set k (v, A)) H) := fun x u h => by
    obtain ⟨h1, h2, h3⟩ := FS_eq.mp h
    exact FS_eq.mpr ⟨h1, fun q => h2 (mem x q), h3⟩
  have own : Own K B.D (M.set k (v, A)) (s.m.set k (some l)) H := by
    refine ⟨by simp [hl], fun i' j p q hi hj ne => ?_, fun i' p l' hi hm => ?_, fun i' p hi hm => ?_, fun x q => R.own.nD x (mem x q), R.own.al⟩
    · rcases at_ i' p hi with ⟨n1, h1⟩ | ⟨n1, rfl⟩
      · rcases at_ j q hj with ⟨n2, h2⟩ | ⟨n2, rfl⟩
        · exact R.own.dis i' j p q (up _ _ h1) (up _ _ h2) ne
        · exact R.own.dis i' M.length p _ (up _ _ h1) hlast (Nat.ne_of_lt (List.getElem?_eq_some_iff.mp h1).1)
      · rcases at_ j q hj with ⟨n2, h2⟩ | ⟨n2, rfl⟩
        · exact R.own.dis M.length j _ q hlast (up _ _ h2) (Ne.symm (Nat.ne_of_lt (List.getElem?_eq_some_iff.mp h2).1))
        · exact (ne (n1.trans n2.symm)).elim
    · rcases at_ i' p hi with ⟨n1, h1⟩ | ⟨n1, rfl⟩
      · have hm' : (s.m.set k (some l))[i']? = some (some l') := hm
        rw [List.getElem?_set_ne (Ne.symm n1)] at hm'
        exact (R.own.own i' p l' (up _ _ h1) (upm _ _ hm')).le le fun _ _ _ h => h
      · subst n1
        have hm' : (s.m.set i' (some l))[i']? = some (some l') := hm
        rw [List.getElem?_set_self hk] at hm'
        cases hm'
        exact (R.own.own M.length _ l hlast hlastm).le le fun _ _ _ h => h
    · rcases at_ i' p hi with ⟨n1, h1⟩ | ⟨n1, rfl⟩
      · have hm' : (s.m.set k (some l))[i']? = some none := hm
        rw [List.getElem?_set_ne (Ne.symm n1)] at hm'
        exact R.own.dead i' p (up _ _ h1) (upm _ _ hm')
      · subst n1
        have hm' : (s.m.set i' (some l))[i']? = some none := hm
        rw [List.getElem?_set_self hk] at hm'; cases hm'
  refine ⟨⟨own, R.base.sub mem, fun j u C h => ?_, by simpa using R.len, fun j y e' => ?_⟩, le⟩
  · obtain ⟨C', h'⟩ := rt j u C h
    have hj : j < B.M0.length := (List.getElem?_eq_some_iff.mp h).1
    exact ⟨C', by rw [List.getElem?_set_ne (by omega)]; exact h'⟩
  · have e1 : (s.r.set i (some (.loc k)))[j]? = some (some y) := e'
    by_cases h : i = j
    · subst h
      by_cases hi : i < s.r.length
      · rw [List.getElem?_set_self hi] at e1
        cases e1
        exact ⟨v, List.getElem?_set_self (by rw [R.len]; exact hi), .inl ⟨k, A, rfl, List.getElem?_set_self hkM⟩⟩
      · rw [List.getElem?_eq_none (by simp; omega)] at e1; cases e1
    · rw [List.getElem?_set_ne h] at e1
      obtain ⟨u, h1, h2⟩ := ho j y e1
      obtain ⟨u', h1', h2'⟩ := R.env j y e1
      rw [h1] at h1'; cases h1'
      refine ⟨u, by rw [List.getElem?_set_ne h]; exact h1, ?_⟩
      rcases h2 with ⟨k', C, rfl, hC⟩ | h2
      · have nk : k' ≠ k := fun z => sole_ok so j _ e1 (Ne.symm h) (by rw [z])
        exact .inl ⟨k', C, rfl, by rw [List.getElem?_set_ne (Ne.symm nk)]; exact hC⟩
      · rcases h2' with ⟨k', C, rfl, hC⟩ | h2'
        · exact (not_loc h2).elim
        · exact .inr (h2'.le le)
theorem vs_setK (i k : Nat) {n0 : Nat} {x : Str} {pos' : Pos} {te : TVF} (hB : B.M0.length = n0) (hN : X.N.Nodup) (h : VF X B e te) (hi : X.N[i]? = some x) (hx : Loc X.env.scope x) (hs : swapsWith e (some (.Name x pos')) pos.line X.env = pure false := by rfl) (hf : X.fn x = true ∨ X.env.scope.names.lookup x = some .local := by first | exact .inl rfl | exact .inr rfl | assumption) :
    VS1 X B (.Assign [.Name x pos'] e pos) (tvSetK n0 i k te) := by
  obtain ⟨T, p, w⟩ := h
  refine ⟨_, ps_set hN hi hx p hs hf, fun d D s σ H M F0 R le ht kk => w _ _ s σ H M R ht fun l v A s1 H1 M1 a1 q1 => ?_⟩
  obtain ⟨q0, q1, q2, q3⟩ := q1
  obtain ⟨a2, _⟩ := a1.give R
  obtain ⟨R2, le2⟩ := Rel.re a1.rel a2.rel.env a2.rel.root (by rw [hB]; exact q0) q1 q2
  exact kk.nx _ _ _ _ R2 ((le.trans a1.st.le).trans le2) q3
/-! ### several names from a tuple -/
theorem Rel.setAll {K : PySem.W.Frag} {M : Locs} {H : Hp} : ∀ (is : List Nat) (xs : List PV) (vs : List V) (s : S) (σ : L2.St), Rel K B M s σ H → Reps K (FS B.D M H) xs vs → Rel K B M ⟨(is.zip xs).foldl (fun r q => r.set q.1 (some q.2)) s.r, s.m⟩ ((is.zip vs).foldl (fun r q => r.set q.1 (some q.2)) σ) H
  | [], xs, vs, s, σ, R, h => by simpa using R
  | i :: is, [], _, s, σ, R, h => by cases h; simpa using R
  | i :: is, x :: xs, _, s, σ, R, h => by
    cases h with
    | cons h1 h2 =>
      have := Rel.setAll is xs _ _ _ (R.set i (.inr h1)) h2
      simpa using this
def tvUn (is : List Nat) (te : TVE) : TVS := fun d s => te (fun x s' => match x with
  | .tup xs => xs.length = is.length ∧ d.nx ⟨(is.zip xs).foldl (fun r q => r.set q.1 (some q.2)) s'.r, s'.m⟩
  | _ => False) s
theorem vs_un {is : List Nat} {tg : Expr} {g : TG} (hg : PG X tg g) (h : VE X B e te)
    (hgs : ∀ (a : Addr) (ws : List V) (σ : L2.St) (H : Hp) (Q : L2.St → Hp → Prop), SqT X.K H a ws → ws.length = is.length → Q ((is.zip ws).foldl (fun r q => r.set q.1 (some q.2)) σ) H → g (.ref a) σ H Q)
    (hs : swapsWithSole [tg] e pos.line X.env = pure false := by rfl) (hw : swappedStores [tg] e X.env = pure none := by rfl)
    (h1 : (assignEach [tg] X.env).map (·.2) = [assign tg X.env] := by rfl) : VS1 X B (.Assign [tg] e pos) (tvUn is te) := by
  obtain ⟨T, p, w⟩ := h
  refine ⟨_, ps_asg p hg hs hw h1, fun d D s σ H M F0 R le ht k => w _ _ s σ H M R ht fun x v s1 H1 M1 a1 r1 q1 => ?_⟩
  cases x with
  | tup xs =>
    have r := r1.rep (fun _ z => nomatch z)
    cases r with
    | tup h1 h2 => exact hgs _ _ σ H1 _ (FS_le.sqT h1) (h2.length.symm.trans q1.1) (k.nx _ _ _ M1 (a1.rel.setAll is xs _ _ _ h2) (a1.fz le) q1.2)
  | _ => exact q1.elim
theorem vs_un2 (i j : Nat) {x y : Str} {px py pt : Pos} {kt : Nat} (hN : X.N.Nodup) (hc : X.calm = true) (h : VE X B e te) (hi : X.N[i]? = some x) (hj : X.N[j]? = some y) (hx : Loc X.env.scope x) (hy : Loc X.env.scope y)
    (hn : (assignEach [.Name x px, .Name y py] X.env).length = 2 := by rfl) (hst : (assignEach [.Name x px, .Name y py] X.env).findIdx? (·.1) = none := by rfl)
    (hs : swapsWithSole [.Tuple [.Name x px, .Name y py] kt pt] e pos.line X.env = pure false := by rfl) (hw : swappedStores [.Tuple [.Name x px, .Name y py] kt pt] e X.env = pure none := by rfl)
    (h1 : (assignEach [.Tuple [.Name x px, .Name y py] kt pt] X.env).map (·.2) = [assign (.Tuple [.Name x px, .Name y py] kt pt) X.env] := by rfl)
    (f1 : X.fn x = true ∨ X.env.scope.names.lookup x = some .local := by first | exact .inl rfl | exact .inr rfl) (f2 : X.fn y = true ∨ X.env.scope.names.lookup y = some .local := by first | exact .inl rfl | exact .inr rfl)
    (c1 : PGs X [.Name x px, .Name y py] (gCons (gName i) (gCons (gName j) gNil)) := by exact pgs_cons (pg_name (by assumption) (by first | rfl | assumption) (by first | exact .inl rfl | exact .inr rfl | assumption) (by first | exact .inl rfl | exact .inr rfl | assumption)) (pgs_cons (pg_name (by assumption) (by first | rfl | assumption) (by first | exact .inl rfl | exact .inr rfl | assumption) (by first | exact .inl rfl | exact .inr rfl | assumption)) pgs_nil)) :
    VS1 X B (.Assign [.Tuple [.Name x px, .Name y py] kt pt] e pos) (tvUn [i, j] te) := by
  refine vs_un (pg_tup hc c1 hn hst) h (fun a ws σ H Q h1 h2 q => ?_) hs hw h1
  match ws, h2 with
  | [w1, w2], _ => exact ⟨a, _, rfl, h1, rfl, w1, [w2], rfl, w2, [], rfl, rfl, q⟩
theorem vs_un3 (i j k : Nat) {x y z : Str} {px py pz pt : Pos} {kt : Nat} (hN : X.N.Nodup) (hc : X.calm = true) (h : VE X B e te) (hi : X.N[i]? = some x) (hj : X.N[j]? = some y) (hk : X.N[k]? = some z) (hx : Loc X.env.scope x) (hy : Loc X.env.scope y) (hz : Loc X.env.scope z)
    (hn : (assignEach [.Name x px, .Name y py, .Name z pz] X.env).length = 3 := by rfl) (hst : (assignEach [.Name x px, .Name y py, .Name z pz] X.env).findIdx? (·.1) = none := by rfl)
    (hs : swapsWithSole [.Tuple [.Name x px, .Name y py, .Name z pz] kt pt] e pos.line X.env = pure false := by rfl) (hw : swappedStores [.Tuple [.Name x px, .Name y py, .Name z pz] kt pt] e X.env = pure none := by rfl)
    (h1 : (assignEach [.Tuple [.Name x px, .Name y py, .Name z pz] kt pt] X.env).map (·.2) = [assign (.Tuple [.Name x px, .Name y py, .Name z pz] kt pt) X.env] := by rfl)
    (f1 : X.fn x = true ∨ X.env.scope.names.lookup x = some .local := by first | exact .inl rfl | exact .inr rfl) (f2 : X.fn y = true ∨ X.env.scope.names.lookup y = some .local := by first | exact .inl rfl | exact .inr rfl) (f3 : X.fn z = true ∨ X.env.scope.names.lookup z = some .local := by first | exact .inl rfl | exact .inr rfl)
    (c1 : PGs X [.Name x px, .Name y py, .Name z pz] (gCons (gName i) (gCons (gName j) (gCons (gName k) gNil))) := by exact pgs_cons (pg_name (by assumption) (by first | rfl | assumption) (by first | exact .inl rfl | exact .inr rfl | assumption) (by first | exact .inl rfl | exact .inr rfl | assumption)) (pgs_cons (pg_name (by assumption) (by first | rfl | assumption) (by first | exact .inl rfl | exact .inr rfl | assumption) (by first | exact .inl rfl | exact .inr rfl | assumption)) (pgs_cons (pg_name (by assumption) (by first | rfl | assumption) (by first | exact .inl rfl | exact .inr rfl | assumption) (by first | exact .inl rfl | exact .inr rfl | assumption)) pgs_nil))) :
    VS1 X B (.Assign [.Tuple [.Name x px, .Name y py, .Name z pz] kt pt] e pos) (tvUn [i, j, k] te) := by
  refine vs_un (pg_tup hc c1 hn hst) h (fun a ws σ H Q h1 h2 q => ?_) hs hw h1
  match ws, h2 with
  | [w1, w2, w3], _ => exact ⟨a, _, rfl, h1, rfl, w1, [w2, w3], rfl, w2, [w3], rfl, w3, [], rfl, rfl, q⟩
/-! ### += -/
def tvAug (i : Nat) (g : G2) (te : TVE) : TVS := fun d s => ∃ x, s.r[i]? = some (some x) ∧ te (fun y s' => g s' x y fun z => d.nx ⟨s'.r.set i (some z), s'.m⟩) s
theorem vs_aug (i : Nat) {x : Str} {op : Operator} {r : R2} {g : G2} {pos' : Pos} (ho : OpR X (inplaceOp op) r) (hp : POp X B r g) (hN : X.N.Nodup) (h : VE X B e te) (hi : X.N[i]? = some x) (hx : Loc X.env.scope x) (hf : X.fn x = true ∨ X.env.scope.names.lookup x = some .local := by first | exact .inl rfl | exact .inr rfl | assumption) :
    VS1 X B (.AugAssign (.Name x pos') op e pos) (tvAug i g te) := by
  obtain ⟨T, p, w⟩ := h
  refine ⟨_, ps_aug hN hi hx p (show PIp X op r from ho) hf, fun d D s σ H M F0 R l0 ht k => ?_⟩
  obtain ⟨y, e1, ht⟩ := ht
  obtain ⟨v, h1, h2⟩ := R.env i y e1
  refine ⟨v, h1, w _ _ s σ H M R ht fun z u s1 H1 M1 a1 r1 q1 => ?_⟩
  refine hp s1 σ H1 M1 y z v u _ _ a1.rel (a1.repl h2) r1 q1 fun z' u' H' le rz qz => ?_
  exact k.nx _ _ _ M1 ((a1.rel.grow le).set i (.inr rz)) ((a1.grow le).fz l0) qz
/-! ### if, while, for -/
def tvIf (c : TVT) (t u : TVS) : TVS := fun d s => c (fun b s' => if b = true then t d s' else u d s') s
theorem vs_if {tc : TVT} {x y : List Stmt} (hc : VT X B c tc) (hx : VSs X B x t) (hy : VSs X B y u) : VS1 X B (.If c x y pos) (tvIf tc t u) := by
  obtain ⟨T, p, w⟩ := hc
  obtain ⟨T1, p1, w1⟩ := hx
  obtain ⟨T2, p2, w2⟩ := hy
  refine ⟨_, ps_if p p1 p2, fun d D s σ H M F0 R le ht k => w _ _ s σ H M R ht fun b s1 H1 M1 a1 q1 => ?_⟩
  cases b with
  | true => exact w1 d D s1 σ H1 M1 F0 a1.rel (a1.fz le) q1 k
  | false => exact w2 d D s1 σ H1 M1 F0 a1.rel (a1.fz le) q1 k
def tvWhile (c : TVT) (t : TVS) : TVS := fun d s => ∃ W : Nat → S → Prop, (∃ n, W n s) ∧ ∀ n s, W n s → c (fun b s' => if b = true then t { nx := fun s => ∃ n', n' < n ∧ W n' s, rt := d.rt, bk := d.nx, ct := fun s => ∃ n', n' < n ∧ W n' s } s' else d.nx s') s
theorem vs_while {tc : TVT} {body : List Stmt} (hp : PassesOwn (model X.prog X.w) X.A X.env X.xe) (hc : VT X B c tc) (hb : VSs X B body t) : VS1 X B (.While c body [] pos) (tvWhile tc t) := by
  obtain ⟨T, p, w⟩ := hc
  obtain ⟨T1, p1, w1⟩ := hb
  refine ⟨_, ps_while hp p p1, fun d D s σ H M F0 R le ht k => ?_⟩
  obtain ⟨W, ⟨n, w0⟩, turn⟩ := ht
  refine ⟨fun n σ H => ∃ s M, Rel X.K B M s σ H ∧ Le F0 (FS B.D M H) ∧ W n s, ⟨n, s, M, R, le, w0⟩, fun n σ H ⟨s, M, R, le, hw⟩ => ?_⟩
  refine w _ _ s σ H M R (turn n s hw) fun b s1 H1 M1 a1 q1 => ?_
  cases b with
  | true =>
    refine ⟨fun σ' H' => ∃ n', n' < n ∧ ∃ s M, Rel X.K B M s σ' H' ∧ Le F0 (FS B.D M H') ∧ W n' s, fun σ' H' h => h, ?_⟩
    refine w1 _ _ s1 σ H1 M1 F0 a1.rel (a1.fz le) q1 ⟨fun s2 σ2 H2 M2 R2 l2 ⟨n', l, q⟩ => ⟨n', l, s2, M2, R2, l2, q⟩, k.rt, k.nx, fun s2 σ2 H2 M2 R2 l2 ⟨n', l, q⟩ => ⟨n', l, s2, M2, R2, l2, q⟩⟩
  | false => exact k.nx s1 σ H1 M1 a1.rel (a1.fz le) q1
def tvForL (j : Nat) (te : TVE) (t : TVS) : TVS := fun d s => te (fun x s1 => ∃ xs, (x = .lst xs ∨ x = .cl xs) ∧ ∃ W : Nat → S → Prop, W 0 s1 ∧ (∀ i y s, xs[i]? = some y → W i s → t { nx := W (i + 1), rt := d.rt, bk := d.nx, ct := W (i + 1) } ⟨s.r.set j (some y), s.m⟩) ∧ ∀ s, W xs.length s → d.nx s) s
theorem vs_forL (j : Nat) {x : Str} {px : Pos} {iter : Expr} {body : List Stmt} (hN : X.N.Nodup) (hp : PassesOwn (model X.prog X.w) X.A X.env X.xe) (hc : X.calm = true) (hi : VE X B iter te) (hb : VSs X B body t) (hj : X.N[j]? = some x) (hx : Loc X.env.scope x)
    (hf : X.fn x = true ∨ X.env.scope.names.lookup x = some .local := by first | exact .inl rfl | exact .inr rfl | assumption) (hs : ∀ y, foldedSetIterable iter X.env y = pure y := by intro _; rfl) :
    VS1 X B (.For (.Name x px) iter body [] pos) (tvForL j te t) := by
  obtain ⟨T, p, w⟩ := hi
  obtain ⟨T1, p1, w1⟩ := hb
  refine ⟨_, ps_for hp hc (pi_list p) (pg_name hN hj hx hf) p1 hs, fun d D s σ H M F0 R le ht k => ?_⟩
  refine w _ _ s σ H M R ht fun x v s1 H1 M1 a1 r1 q1 => ?_
  obtain ⟨xs, ex, W, w0, turn, fin⟩ := q1
  have view : ∃ a ws, v = .ref a ∧ SqL X.K (FS B.D M1 H1) a ws ∧ Reps X.K (FS B.D M1 H1) xs ws := by
    rcases ex with rfl | rfl
    · have r := r1.rep (fun _ z => nomatch z)
      cases r with
      | lst h1 h2 => exact ⟨_, _, rfl, .inl (.inl h1), h2⟩
    · have r := r1.rep (fun _ z => nomatch z)
      cases r with
      | cl h1 h2 => exact ⟨_, _, rfl, h1, h2⟩
  obtain ⟨a, ws, rfl, sq, rr⟩ := view
  have le1 := a1.fz le
  refine ⟨a, rfl, ⟨_, FS_le.sqL sq⟩, for_list (xs := ws) (fun i σ' H' => ∃ s' M', Rel X.K B M' s' σ' H' ∧ Le (FS B.D M1 H1) (FS B.D M' H') ∧ W i s') ⟨s1, M1, a1.rel, Le.refl _, w0⟩ (fun i σ' H' _ ⟨s', M', R', l', _⟩ => FS_le.sqL (l'.sqL sq)) (fun i y σ' H' hy ⟨s', M', R', l', hw⟩ => ?_) fun σ' H' ⟨s', M', R', l', hw⟩ => ?_⟩
  · have hxi : ∃ z, xs[i]? = some z := by
      have hlt : i < ws.length := (List.getElem?_eq_some_iff.mp hy).1
      exact ⟨xs[i]'(by rw [rr.length]; exact hlt), List.getElem?_eq_getElem _⟩
    obtain ⟨z, hz⟩ := hxi
    obtain ⟨y', h1, h2⟩ := rr.get hz
    rw [hy] at h1; cases h1
    exact w1 _ _ _ _ H' M' (FS B.D M1 H1) (R'.set j (.inr (h2.le l'))) l' (turn i z s' hz hw) ⟨fun s2 σ2 H2 M2 R2 l2 q2 => ⟨s2, M2, R2, l2, q2⟩, k.rt, fun s2 σ2 H2 M2 R2 l2 q2 => k.nx s2 σ2 H2 M2 R2 (le1.trans l2) q2, fun s2 σ2 H2 M2 R2 l2 q2 => ⟨s2, M2, R2, l2, q2⟩⟩
  · exact k.nx _ _ _ _ R' (le1.trans l') (fin s' (by rw [rr.length]; exact hw))
/-- for j in range(n); range(lo, hi) -/
def forW (j : Nat) (lo : Int) (n : Nat) (t : TVS) (d : VD) (s1 : S) : Prop := ∃ W : Nat → S → Prop, W 0 s1 ∧ (∀ i s, i < n → W i s → t { nx := W (i + 1), rt := d.rt, bk := d.nx, ct := W (i + 1) } ⟨s.r.set j (some (.int (lo + i))), s.m⟩) ∧ ∀ s, W n s → d.nx s
def tvForR1 (j : Nat) (te : TVA) (t : TVS) : TVS := fun d s => te (fun xs s1 => match xs with
  | [.int z] => -(2 ^ 62) ≤ z ∧ z < 2 ^ 62 ∧ forW j 0 z.toNat t d s1
  | _ => False) s
def tvForR2 (j : Nat) (te : TVA) (t : TVS) : TVS := fun d s => te (fun xs s1 => match xs with
  | [.int lo, .int hi] => (-(2 ^ 62) ≤ lo ∧ lo < 2 ^ 62 ∧ -(2 ^ 62) ≤ hi ∧ hi < 2 ^ 62) ∧ forW j lo (hi - lo).toNat t d s1
  | _ => False) s
theorem RepLs.ints {K : PySem.W.Frag} {F : Hp} {M : Locs} {ns : List Int} {vs : List V} (h : RepLs K F M (ns.map PV.int) vs) : vs = ns.map V.int := (h.reps fun x m k => by
  obtain ⟨n, _, rfl⟩ := List.mem_map.mp m
  exact fun z => nomatch z).ints_eq
theorem forR_core {T1 : TS} {d : VD} {D : Ends} {s1 : S} {σ : L2.St} {H1 F0 : Hp} {M1 : Locs} {j : Nat} {lo : Int} {n : Nat} {W : Nat → S → Prop} (w1 : ∀ (d : VD) (D : Ends) (s : S) (σ : L2.St) (H : Hp) (M : Locs) (F0 : Hp), Rel X.K B M s σ H → Le F0 (FS B.D M H) → t d s → Back X.K B F0 d D → T1 D σ H)
    (R1 : Rel X.K B M1 s1 σ H1) (le1 : Le F0 (FS B.D M1 H1)) (w0 : W 0 s1) (turn : ∀ i s, i < n → W i s → t { nx := W (i + 1), rt := d.rt, bk := d.nx, ct := W (i + 1) } ⟨s.r.set j (some (.int (lo + i))), s.m⟩) (fin : ∀ s, W n s → d.nx s) (k : Back X.K B F0 d D) :
    ∃ W : Nat → Nat → L2.St → Hp → Prop, (∃ m, W 0 m σ H1) ∧ ∀ i m σ H, W i m σ H →
      ((Itr lo n).stop i H ∧ D.nx σ H) ∨ ((Itr lo n).go i H ∧ ∃ N : L2.St → Hp → Prop, (∀ σ' H', N σ' H' → ∃ m', m' < m ∧ W (i + 1) m' σ' H') ∧ ∀ x H', (Itr lo n).yld i H x H' → gName j x σ H' fun σ2 H2 => T1 { D with nx := N, ct := N, bk := D.nx } σ2 H2) := by
  refine for_range (fun i σ' H' => ∃ s' M', Rel X.K B M' s' σ' H' ∧ Le F0 (FS B.D M' H') ∧ W i s') ⟨s1, M1, R1, le1, w0⟩ (fun i σ' H' hi ⟨s', M', R', l', hw⟩ => ?_) fun σ' H' ⟨s', M', R', l', hw⟩ => ?_
  · exact w1 _ _ _ _ H' M' F0 (R'.set j (.inr (.int _))) l' (turn i s' hi hw) ⟨fun s2 σ2 H2 M2 R2 l2 q2 => ⟨s2, M2, R2, l2, q2⟩, k.rt, fun s2 σ2 H2 M2 R2 l2 q2 => k.nx s2 σ2 H2 M2 R2 l2 q2, fun s2 σ2 H2 M2 R2 l2 q2 => ⟨s2, M2, R2, l2, q2⟩⟩
  · exact k.nx _ _ _ _ R' l' (fin s' hw)
theorem vs_forR1 (j : Nat) {x : Str} {px pp pq : Pos} {body : List Stmt} {ua : TVA} (hN : X.N.Nodup) (hp : PassesOwn (model X.prog X.w) X.A X.env X.xe) (hc : X.calm = true) (hm : X.mg "range" = none) (hi : VA X B [a] ua) (hb : VSs X B body t) (hg : Gl X "range") (hj : X.N[j]? = some x) (hx : Loc X.env.scope x)
    (hf : X.fn x = true ∨ X.env.scope.names.lookup x = some .local := by first | exact .inl rfl | exact .inr rfl | assumption) (hs : starEach [a] X.env = [(false, eval a X.env)] := by rfl) (hss : ∀ y, foldedSetIterable (.Call (.Name "range" pp) [a] [] pq) X.env y = pure y := by intro _; rfl) :
    VS1 X B (.For (.Name x px) (.Call (.Name "range" pp) [a] [] pq) body [] pos) (tvForR1 j ua t) := by
  obtain ⟨T, p, w⟩ := hi
  obtain ⟨T1, p1, w1⟩ := hb
  refine ⟨_, ps_for hp hc (pi_range1 hg hm p hs) (pg_name hN hj hx hf) p1 hss, fun d D s σ H M F0 R le ht k => ?_⟩
  refine w _ _ s σ H M R ht fun xs vs s1 H1 M1 a1 r1 q1 => ?_
  split at q1
  · rename_i z
    obtain ⟨h1, h2, W, w0, turn, fin⟩ := q1
    obtain ⟨v, rfl, r⟩ := r1.one
    exact ⟨z, by rw [r.int], h1, h2, forR_core (F0 := F0) w1 a1.rel (a1.fz le) w0 turn fin k⟩
  · exact q1.elim
theorem vs_forR2 (j : Nat) {x : Str} {px pp pq : Pos} {body : List Stmt} {ua : TVA} (hN : X.N.Nodup) (hp : PassesOwn (model X.prog X.w) X.A X.env X.xe) (hc : X.calm = true) (hm : X.mg "range" = none) (hi : VA X B [a, b] ua) (hb : VSs X B body t) (hg : Gl X "range") (hj : X.N[j]? = some x) (hx : Loc X.env.scope x)
    (hf : X.fn x = true ∨ X.env.scope.names.lookup x = some .local := by first | exact .inl rfl | exact .inr rfl | assumption) (hs : starEach [a, b] X.env = [(false, eval a X.env), (false, eval b X.env)] := by rfl) (hs2 : starEach [b] X.env = [(false, eval b X.env)] := by rfl) (hss : ∀ y, foldedSetIterable (.Call (.Name "range" pp) [a, b] [] pq) X.env y = pure y := by intro _; rfl) :
    VS1 X B (.For (.Name x px) (.Call (.Name "range" pp) [a, b] [] pq) body [] pos) (tvForR2 j ua t) := by
  obtain ⟨T, p, w⟩ := hi
  obtain ⟨T1, p1, w1⟩ := hb
  refine ⟨_, ps_for hp hc (pi_range2 hg hm p hs hs2) (pg_name hN hj hx hf) p1 hss, fun d D s σ H M F0 R le ht k => ?_⟩
  refine w _ _ s σ H M R ht fun xs vs s1 H1 M1 a1 r1 q1 => ?_
  split at q1
  · rename_i lo hi
    obtain ⟨h1, W, w0, turn, fin⟩ := q1
    have ev : vs = [.int lo, .int hi] := RepLs.ints (ns := [lo, hi]) r1
    exact ⟨lo, hi, ev, h1, forR_core (F0 := F0) w1 a1.rel (a1.fz le) w0 turn fin k⟩
  · exact q1.elim
end
end VS
namespace VS
open PySem PySem.Spec PyProof.Rows L2
/-! ### what is handed back is wholly one's own -/
def Deepen : LK → PV → Prop
  | .deep x, y => y = x
  | .flat x, y => y = x ∧ kidsLf x = true
theorem OwnK.deepen {K : PySem.W.Frag} {F H : Hp} {l : LK} {x : PV} {v : V} {A : List Addr} (d : Deepen l x) (h : OwnK K F H l v A) : OwnK K F H (.deep x) v A := by
  cases h with
  | flatL e r =>
    obtain ⟨rfl, k⟩ := d
    exact .deep (.lst e (OwnDs.of_lf _ _ k r) (by simp))
  | flatD e q r =>
    obtain ⟨rfl, k⟩ := d
    exact .deep (.dct e q (OwnDs.of_lf _ _ k r) (by simp))
  | deep h => cases d; exact .deep h
theorem Own.deepen {K : PySem.W.Frag} {D : Addr → Prop} {M : Locs} {m : Ms} {H : Hp} {l : LK} {x : PV} {q : V × List Addr} (o : Own K D (M ++ [q]) (m ++ [some l]) H) (d : Deepen l x) : Own K D (M ++ [q]) (m ++ [some (.deep x)]) H := by
  have hl : M.length = m.length := by have := o.len; simpa using this
  refine o.mk' .refl (by simp [hl]) o.dis fun i p hi => ?_
  by_cases c : i < M.length
  · refine .inl ⟨hi, ?_, fun _ _ _ h => h⟩
    rw [List.getElem?_append_left (by omega), List.getElem?_append_left (by omega)]
  · have e : i = M.length := by have := (List.getElem?_eq_some_iff.mp hi).1; simp at this; omega
    subst e
    have hp : p = q := by simp at hi; exact hi.symm
    subst hp
    exact .inr (.inl ⟨_, by rw [hl]; simp, (o.own M.length p l (by simp) (by rw [hl]; simp)).deepen d⟩)
theorem AftF.deepen {K : PySem.W.Frag} {B : Bs} {M M' : Locs} {s s' : S} {σ : L2.St} {H H' : Hp} {l : LK} {v : V} {A : List Addr} {x : PV} (a : AftF K B M s σ H M' s' H' l v A) (d : Deepen l x) : AftF K B M s σ H M' s' H' (.deep x) v A :=
  ⟨⟨a.rel.own.deepen d, a.rel.base, a.rel.root, a.rel.len, a.rel.env⟩, a.st, a.rt, a.ln, a.rr⟩
section
variable {X : Cx} {B : Bs} {a b c e o : Expr} {es : List Expr} {ta tb tc te to : TVE} {pos p p2 apos cpos : Pos} {st : Stmt} {rest : List Stmt} {t u : TVS}
def tvRet (te : TVF) : TVS := fun d s => te (fun l s' => ∃ x, Deepen l x ∧ d.rt x s') s
theorem vs_ret {te : TVF} (h : VF X B e te) : VS1 X B (.Return (some e) pos) (tvRet te) := by
  obtain ⟨T, p, w⟩ := h
  refine ⟨_, ps_ret p, fun d D s σ H M F0 R le ht k => w _ _ s σ H M R ht fun l v A s1 H1 M1 a1 q1 => ?_⟩
  obtain ⟨x, hd, q⟩ := q1
  exact k.rt x v A s1 σ H1 M1 (a1.deepen hd).rel (R.root.trans a1.rt) q
/-- without a list within: anybody's -/
def tvLf (te : TVE) : TVF := fun Q s => te (fun x s' => x.lf = true ∧ Q (.deep x) s') s
theorem lf_noloc {x : PV} (h : x.lf = true) : ∀ k, x ≠ .loc k := fun k e => by subst e; cases h
theorem vf_lf (h : VE X B e te) : VF X B e (tvLf te) := by
  obtain ⟨T, p, w⟩ := h
  refine ⟨_, p, fun Qp Q s σ H M R ht k => w _ _ s σ H M R ht fun x v s1 H1 M1 a1 r1 q1 => ?_⟩
  refine k (.deep x) v [] s1 H1 M1 (.pre a1 (a1.rel.push (Le.refl H1) (fun a m => by cases m) (.deep (OwnD.of_lf x v q1.1 ((r1.rep (lf_noloc q1.1)).le fun a u h => ?_))))) q1.2
  obtain ⟨h1, h2, h3⟩ := FS_eq.mp h
  exact FS_eq.mpr ⟨h1, fun q => (inM_app.mp q).elim h2 (fun z => by cases z), h3⟩
theorem vs_retN : VS1 X B (.Return none pos) (fun d s => d.rt .non s) :=
  ⟨_, ps_retN, fun d D s σ H M F0 R le ht k => k.rt .non .non [] s σ H M (R.push (Le.refl H) (fun a m => by cases m) (.deep .non)).rel R.root ht⟩
/-- a thing of one's own is handed on by its name -/
def tvMove (i : Nat) : TVF := fun Q s => ∃ k l, s.r[i]? = some (some (.loc k)) ∧ s.m[k]? = some (some l) ∧ Q l ⟨s.r, s.m.set k none⟩
theorem Rel.move {K : PySem.W.Frag} {M : Locs} {s : S} {σ : L2.St} {H : Hp} {k : Nat} {l : LK} {v : V} {A : List Addr} (R : Rel K B M s σ H) (hM : M[k]? = some (v, A)) (hm : s.m[k]? = some (some l)) : AftF K B M s σ H (M.set k (v, [])) ⟨s.r, s.m.set k none⟩ H l v A := by
  have hk : k < M.length := (List.getElem?_eq_some_iff.mp hM).1
  have hkm : k < s.m.length := (List.getElem?_eq_some_iff.mp hm).1
  have at_ : ∀ (j : Nat) q, (M.set k (v, []) ++ [(v, A)])[j]? = some q → (j ≠ k ∧ M[j]? = some q) ∨ (j = k ∧ q = (v, [])) ∨ (j = M.length ∧ q = (v, A)) := fun j q h => by
    by_cases hj : j < M.length
    · rw [List.getElem?_append_left (by simpa using hj)] at h
      by_cases z : k = j
      · subst z; rw [List.getElem?_set_self hj] at h; cases h; exact .inr (.inl ⟨rfl, rfl⟩)
      · rw [List.getElem?_set_ne z] at h; exact .inl ⟨Ne.symm z, h⟩
    · have e : j = M.length := by have := (List.getElem?_eq_some_iff.mp h).1; simp at this; omega
      subst e
      have : (M.set k (v, []) ++ [(v, A)])[M.length]? = some (v, A) := by
        rw [List.getElem?_append_right (by simp)]; simp
      rw [this] at h; cases h
      exact .inr (.inr ⟨rfl, rfl⟩)
  have mem : ∀ x, inM (M.set k (v, []) ++ [(v, A)]) x → inM M x := fun x ⟨q, hq, hx⟩ => by
    obtain ⟨j, hj⟩ := List.mem_iff_getElem?.mp hq
    rcases at_ j q hj with ⟨_, h⟩ | ⟨_, rfl⟩ | ⟨_, rfl⟩
    · exact ⟨q, List.mem_iff_getElem?.mpr ⟨j, h⟩, hx⟩
    · cases hx
    · exact ⟨_, List.mem_iff_getElem?.mpr ⟨k, hM⟩, hx⟩
  have st : Step M (M.set k (v, []) ++ [(v, A)]) H H := ⟨fun a o _ h => h, fun a q => .inl (mem a q)⟩
  have rt : Roots M (M.set k (v, [])) := fun j u C h => by
    by_cases z : k = j
    · subst z; rw [hM] at h; cases h; exact ⟨[], List.getElem?_set_self hk⟩
    · exact ⟨C, by rw [List.getElem?_set_ne z]; exact h⟩
  have rt2 : Roots M (M.set k (v, []) ++ [(v, A)]) := fun j u C h => by
    obtain ⟨C', h'⟩ := rt j u C h
    exact ⟨C', by rw [List.getElem?_append_left (List.getElem?_eq_some_iff.mp h').1]; exact h'⟩
  refine ⟨R.mk' st rt2 (R.own.mk' st (by simp [R.own.len]) (fun i j p q hi hj ne x hx hq => ?_) fun i p hi => ?_), st, rt, by simp, rfl⟩
  · rcases at_ i p hi with ⟨n1, h1⟩ | ⟨n1, rfl⟩ | ⟨n1, rfl⟩
    · rcases at_ j q hj with ⟨n2, h2⟩ | ⟨n2, rfl⟩ | ⟨n2, rfl⟩
      · exact R.own.dis i j p q h1 h2 ne x hx hq
      · cases hq
      · exact R.own.dis i k p _ h1 hM n1 x hx hq
    · cases hx
    · rcases at_ j q hj with ⟨n2, h2⟩ | ⟨n2, rfl⟩ | ⟨n2, rfl⟩
      · exact R.own.dis k j _ q hM h2 (Ne.symm n2) x hx hq
      · cases hq
      · exact ne (n1.trans n2.symm)
  · rcases at_ i p hi with ⟨n1, h1⟩ | ⟨n1, rfl⟩ | ⟨n1, rfl⟩
    · refine .inl ⟨h1, ?_, fun _ _ _ h => h⟩
      have hi2 : i < s.m.length := by rw [← R.own.len]; exact (List.getElem?_eq_some_iff.mp h1).1
      rw [List.getElem?_append_left (by simpa using hi2), List.getElem?_set_ne (Ne.symm n1)]
    · subst n1
      exact .inr (.inr ⟨by rw [List.getElem?_append_left (by simpa using hkm), List.getElem?_set_self hkm], rfl⟩)
    · refine .inr (.inl ⟨l, ?_, (R.own.own k _ l hM hm).le st.le fun _ _ _ h => h⟩)
      rw [n1, R.own.len, List.getElem?_append_right (by simp)]; simp
theorem vf_move (i : Nat) {x : Str} (hN : X.N[i]? = some x) (hv : Vis X.env.scope x) (hd : (x == ("__debug__" : Str)) = false := by decide) (hcd : (x == ("__classdict__" : Str)) = false := by decide) : VF X B (.Name x pos) (tvMove i) := by
  refine ⟨_, pe_var hN hv hd hcd, fun Qp Q s σ H M R ht k => ?_⟩
  obtain ⟨j, l, e1, e2, q⟩ := ht
  obtain ⟨v, h1, h2⟩ := R.env i _ e1
  refine ⟨v, h1, ?_⟩
  rcases h2 with ⟨j', A, e, hM⟩ | h2
  · cases e
    exact k l v A _ H _ (R.move hM e2) q
  · exact (not_loc h2).elim
/-! ### a tuple of things of one's own -/
def VFA (X : Cx) (B : Bs) (es : List Expr) (t : TVA) : Prop := ∃ T : TA, PA X es T ∧ ∀ (Qp : List PV → S → Prop) (Q : List V → Hp → Prop) (s : S) (σ : L2.St) (H : Hp) (M : Locs), Rel X.K B M s σ H → t Qp s →
  (∀ xs (ps : Locs) s' H' M', Rel X.K B (M' ++ ps) ⟨s'.r, s'.m ++ xs.map fun x => some (.deep x)⟩ σ H' → ps.length = xs.length → Step M (M' ++ ps) H H' → Roots M M' → M'.length = M.length → s'.r = s.r → Qp xs s' → Q (ps.map Prod.fst) H') → T σ H Q
theorem vfa_nil : VFA X B [] tvNil := ⟨_, pa_nil, fun Qp Q s σ H M R ht k => k [] [] s H M (by simpa using R) rfl (by simpa using Step.refl) .refl rfl rfl ht⟩
def tvfCons (te : TVF) (u : TVA) : TVA := fun Q s => te (fun l s1 => ∃ x, Deepen l x ∧ u (fun xs s2 => ∃ m', s2.m = m' ++ [some (.deep x)] ∧ Q (x :: xs) ⟨s2.r, m'⟩) ⟨s1.r, s1.m ++ [some (.deep x)]⟩) s
theorem vfa_cons {te : TVF} {u : TVA} (h : VF X B e te) (hs : VFA X B es u) (hst : starEach (e :: es) X.env = (false, eval e X.env) :: starEach es X.env := by rfl) : VFA X B (e :: es) (tvfCons te u) := by
  obtain ⟨T, p, w⟩ := h
  obtain ⟨T2, p2, w2⟩ := hs
  refine ⟨_, pa_cons p p2 hst, fun Qp Q s σ H M R ht k => ?_⟩
  refine w _ _ s σ H M R ht fun l v A s1 H1 M1 a1 q1 => ?_
  obtain ⟨x, hd, q1⟩ := q1
  have a1 := a1.deepen hd
  refine w2 _ _ _ σ H1 _ a1.rel q1 fun xs ps s2 H2 M2 R2 hl st2 rt2 ln2 rr2 q2 => ?_
  obtain ⟨m', em, q⟩ := q2
  have hlen : M2.length = M1.length + 1 := by simpa using ln2
  obtain ⟨M3, p3, rfl⟩ : ∃ M3 p3, M2 = M3 ++ [p3] := by
    refine ⟨M2.dropLast, M2.getLast (by intro z; rw [z] at hlen; simp at hlen), (List.dropLast_concat_getLast _).symm⟩
  have h3 : M3.length = M1.length := by simpa using hlen
  have e3 : p3.1 = v := by
    obtain ⟨A', e'⟩ := rt2 M1.length v A (by simp)
    rw [← h3] at e'
    simp at e'
    rw [e']
  have e4 : ((p3 :: ps).map Prod.fst) = v :: ps.map Prod.fst := by rw [List.map_cons, e3]
  show Q (v :: ps.map Prod.fst) H2
  rw [← e4]
  refine k (x :: xs) (p3 :: ps) ⟨s2.r, m'⟩ H2 M3 ?_ (by simp [hl]) ?_ ?_ (h3.trans a1.ln) (rr2.trans a1.rr) q
  · have : Rel X.K B (M3 ++ [p3] ++ ps) ⟨s2.r, s2.m ++ xs.map fun x => some (.deep x)⟩ σ H2 := R2
    rw [em] at this
    simpa using this
  · have := a1.st.trans st2
    simpa using this
  · intro j u' C h
    obtain ⟨C1, h1⟩ := a1.rt j u' C h
    have hj : j < M1.length := (List.getElem?_eq_some_iff.mp h1).1
    obtain ⟨C2, h2⟩ := rt2 j u' C1 (by rw [List.getElem?_append_left hj]; exact h1)
    exact ⟨C2, by rw [List.getElem?_append_left (by omega)] at h2; exact h2⟩
/-- the last ones become one tuple -/
theorem OwnDs.all {K : PySem.W.Frag} {F H : Hp} : ∀ (xs : List PV) (ps : Locs), ps.length = xs.length → (∀ (i : Nat) p x, ps[i]? = some p → xs[i]? = some x → OwnD K F H x p.1 p.2) → (∀ (i j : Nat) p q, ps[i]? = some p → ps[j]? = some q → i ≠ j → ∀ a ∈ p.2, a ∉ q.2) → OwnDs K F H xs (ps.map Prod.fst) (ps.flatMap Prod.snd)
  | [], [], _, _, _ => .nil
  | x :: xs, p :: ps, hl, h, d => by
    have t1 := OwnDs.all xs ps (by simpa using hl) (fun i q y h1 h2 => h (i + 1) q y (by simpa using h1) (by simpa using h2)) (fun i j q q' h1 h2 ne => d (i + 1) (j + 1) q q' (by simpa using h1) (by simpa using h2) (by omega))
    rw [List.map_cons, List.flatMap_cons]
    refine .cons (h 0 p x rfl rfl) t1 fun a ha hb => ?_
    obtain ⟨q, hq, haq⟩ := List.mem_flatMap.mp hb
    obtain ⟨j, hj⟩ := List.mem_iff_getElem?.mp hq
    exact d 0 (j + 1) p q rfl (by simpa using hj) (by omega) a ha haq
  | [], p :: ps, hl, _, _ => by simp at hl
  | x :: xs, [], hl, _, _ => by simp at hl
theorem Rel.tup {K : PySem.W.Frag} {M : Locs} {s : S} {σ : L2.St} {H : Hp} {xs : List PV} {ps : Locs} {q : Addr} (R : Rel K B (M ++ ps) ⟨s.r, s.m ++ xs.map fun x => some (.deep x)⟩ σ H) (hl : ps.length = xs.length) (hln : M.length = s.m.length) (ho : ∀ (j : Nat) (x : PV), s.r[j]? = some (some x) → ∃ u, σ[j]? = some (some u) ∧ RepL K (FS B.D (M ++ ps) H) M x u) (rt : Roots B.M0 M) (hq : H q = none) :
    Rel K B (M ++ [(.ref q, ps.flatMap Prod.snd)]) ⟨s.r, s.m ++ [some (.deep (.tup xs))]⟩ σ (upd H q (.tup (ps.map Prod.fst))) ∧ Step (M ++ ps) (M ++ [(.ref q, ps.flatMap Prod.snd)]) H (upd H q (.tup (ps.map Prod.fst))) := by
  have mem : ∀ x, inM (M ++ [(V.ref q, ps.flatMap Prod.snd)]) x ↔ inM (M ++ ps) x := fun x => by
    constructor
    · intro h
      rcases inM_app.mp h with ⟨p, hp, hx⟩ | h
      · exact ⟨p, List.mem_append_left _ hp, hx⟩
      · obtain ⟨p, hp, hx⟩ := List.mem_flatMap.mp h
        exact ⟨p, List.mem_append_right _ hp, hx⟩
    · rintro ⟨p, hp, hx⟩
      rcases List.mem_append.mp hp with h | h
      · exact inM_app.mpr (.inl ⟨p, h, hx⟩)
      · exact inM_app.mpr (.inr (List.mem_flatMap.mpr ⟨p, h, hx⟩))
  have le0 : Le H (upd H q (.tup (ps.map Prod.fst))) := upd_le hq
  have st : Step (M ++ ps) (M ++ [(V.ref q, ps.flatMap Prod.snd)]) H (upd H q (.tup (ps.map Prod.fst))) := ⟨fun a o _ h => le0 a o h, fun a h => .inl ((mem a).mp h)⟩
  have le := st.le (D := B.D)
  have nq : ¬ inM (M ++ ps) q := fun z => by
    obtain ⟨u, e, _⟩ := R.own.cells q z
    rw [hq] at e; cases e
  have nD : ¬ B.D q := fun z => by
    obtain ⟨u, e⟩ := R.own.al q z
    rw [hq] at e; cases e
  have atM : ∀ (i : Nat) p, M[i]? = some p → (M ++ ps)[i]? = some p := fun i p h => by
    rw [List.getElem?_append_left (List.getElem?_eq_some_iff.mp h).1]; exact h
  have atP : ∀ (i : Nat) p, ps[i]? = some p → (M ++ ps)[M.length + i]? = some p := fun i p h => by
    rw [List.getElem?_append_right (by omega)]; simpa using h
  have at_ : ∀ (j : Nat) p, (M ++ [(V.ref q, ps.flatMap Prod.snd)])[j]? = some p → M[j]? = some p ∨ (j = M.length ∧ p = (V.ref q, ps.flatMap Prod.snd)) := fun j p h => by
    by_cases hj : j < M.length
    · rw [List.getElem?_append_left hj] at h; exact .inl h
    · have e : j = M.length := by have := (List.getElem?_eq_some_iff.mp h).1; simp at this; omega
      subst e; simp at h; exact .inr ⟨rfl, h.symm⟩
  have own : Own K B.D (M ++ [(V.ref q, ps.flatMap Prod.snd)]) (s.m ++ [some (.deep (.tup xs))]) (upd H q (.tup (ps.map Prod.fst))) := by
    refine ⟨by simp [hln], fun i j p r hi hj ne x hx hr => ?_, fun i p l hi hm => ?_, fun i p hi hm => ?_, fun x h => R.own.nD x ((mem x).mp h), fun x d => let ⟨u, e⟩ := R.own.al x d; ⟨u, le0 x u e⟩⟩
    · rcases at_ i p hi with h1 | ⟨h1, rfl⟩
      · rcases at_ j r hj with h2 | ⟨h2, rfl⟩
        · exact R.own.dis i j p r (atM _ _ h1) (atM _ _ h2) ne x hx hr
        · obtain ⟨p', hp', hx'⟩ := List.mem_flatMap.mp hr
          obtain ⟨j', hj'⟩ := List.mem_iff_getElem?.mp hp'
          have := (List.getElem?_eq_some_iff.mp h1).1
          exact R.own.dis i (M.length + j') p p' (atM _ _ h1) (atP _ _ hj') (by omega) x hx hx'
      · rcases at_ j r hj with h2 | ⟨h2, rfl⟩
        · obtain ⟨p', hp', hx'⟩ := List.mem_flatMap.mp hx
          obtain ⟨j', hj'⟩ := List.mem_iff_getElem?.mp hp'
          have := (List.getElem?_eq_some_iff.mp h2).1
          exact R.own.dis j (M.length + j') r p' (atM _ _ h2) (atP _ _ hj') (by omega) x hr hx'
        · exact ne (h1.trans h2.symm)
    · rcases at_ i p hi with h1 | ⟨h1, rfl⟩
      · have hi' : i < s.m.length := by rw [← hln]; exact (List.getElem?_eq_some_iff.mp h1).1
        refine (R.own.own i p l (atM _ _ h1) ?_).le le fun a _ u h => le0 a u h
        rw [List.getElem?_append_left hi'] at hm ⊢; exact hm
      · subst h1
        rw [hln] at hm
        simp at hm
        subst hm
        refine .deep (.tup (.inl (.inl (FS_eq.mpr ⟨nD, fun z => nq ((mem q).mp z), upd_same⟩))) (OwnDs.all xs ps hl (fun i p x h1 h2 => ?_) fun i j p r h1 h2 ne => R.own.dis _ _ p r (atP _ _ h1) (atP _ _ h2) (by omega)))
        have := R.own.own (M.length + i) p (.deep x) (atP _ _ h1) (by
          show (s.m ++ xs.map fun x => some (LK.deep x))[M.length + i]? = _
          rw [hln, List.getElem?_append_right (by omega)]; simp [h2])
        cases this with
        | deep h => exact h.le le.t _ _ _ fun a _ u hu => le0 a u hu
    · rcases at_ i p hi with h1 | ⟨h1, rfl⟩
      · have hi' : i < s.m.length := by rw [← hln]; exact (List.getElem?_eq_some_iff.mp h1).1
        refine R.own.dead i p (atM _ _ h1) ?_
        rw [List.getElem?_append_left hi'] at hm ⊢; exact hm
      · subst h1; rw [hln] at hm; simp at hm
  refine ⟨⟨own, R.base.trans st, fun k u C h => ?_, R.len, fun j x ex => ?_⟩, st⟩
  · obtain ⟨C', h'⟩ := rt k u C h
    exact ⟨C', by rw [List.getElem?_append_left (List.getElem?_eq_some_iff.mp h').1]; exact h'⟩
  · obtain ⟨u, h1, h2⟩ := ho j x ex
    refine ⟨u, h1, h2.step le fun k u C h => ⟨C, by rw [List.getElem?_append_left (List.getElem?_eq_some_iff.mp h).1]; exact h⟩⟩
def tvfTup (t : TVA) : TVF := fun Q s => t (fun xs s' => xs.length ≤ sizeLine ∧ Q (.deep (.tup xs)) s') s
theorem vf_tup {t : TVA} {j : Nat} (h : VFA X B es t) : VF X B (.Tuple es j pos) (tvfTup t) := by
  obtain ⟨T, p, w⟩ := h
  refine ⟨_, pe_tup p, fun Qp Q s σ H M R ht k => ?_⟩
  refine w _ _ s σ H M R ht fun xs ps s1 H1 M1 R1 hl st1 rt1 ln1 rr1 q1 => ?_
  refine ⟨by rw [List.length_map, hl]; exact q1.1, fun q hq => ?_⟩
  have hln : M1.length = s1.m.length := by
    have := R1.own.len
    simp [hl] at this; exact this
  have sub : Step M M1 H H1 := ⟨st1.keep, fun a z => st1.new a (let ⟨p, hp, ha⟩ := z; ⟨p, List.mem_append_left _ hp, ha⟩)⟩
  have ho : ∀ (j : Nat) (x : PV), s1.r[j]? = some (some x) → ∃ u, σ[j]? = some (some u) ∧ RepL X.K (FS B.D (M1 ++ ps) H1) M1 x u := fun j x ex => by
    obtain ⟨u, h1, h2⟩ := R.env j x (by rw [← rr1]; exact ex)
    exact ⟨u, h1, h2.step st1.le rt1⟩
  obtain ⟨R2, st2⟩ := R1.tup hl hln ho (R.root.trans rt1) hq
  exact k _ _ _ s1 _ M1 ⟨R2, st1.trans st2, rt1, ln1, rr1⟩ q1.2
end
end VS
namespace VS
open PySem PySem.Spec PyProof.Rows L2
section
variable {X : Cx} {B : Bs} {a b c e o i : Expr} {es : List Expr} {ta tb tc te to ti : TVE} {pos p p2 apos cpos : Pos} {st : Stmt} {rest : List Stmt} {t u : TVS}
/-! ### a thing of one's own is changed at its top -/
theorem Rel.put {K : PySem.W.Frag} {M : Locs} {s : S} {σ : L2.St} {H : Hp} {k : Nat} {l : LK} {v : V} {A : List Addr} {q : Addr} {ob : HO} (R : Rel K B M s σ H) (hM : M[k]? = some (v, A)) (hm : k < s.m.length) (hq : q ∈ A) (ow : OwnK K (FS B.D M (upd H q ob)) (upd H q ob) l v A) :
    Aft K B M s σ H M ⟨s.r, s.m.set k (some l)⟩ (upd H q ob) := by
  have hin : inM M q := ⟨_, List.mem_iff_getElem?.mpr ⟨k, hM⟩, hq⟩
  have st : Step M M H (upd H q ob) := ⟨fun a o n h => by rw [upd_ne (fun z => n (by rw [z]; exact hin))]; exact h, fun a h => .inl h⟩
  refine ⟨R.mk' st .refl (R.own.mk' st (by simp [R.own.len]) R.own.dis fun i p hi => ?_), st, .refl, rfl, rfl⟩
  by_cases z : k = i
  · subst z
    rw [hM] at hi; cases hi
    exact .inr (.inl ⟨l, List.getElem?_set_self hm, ow⟩)
  · refine .inl ⟨hi, by rw [List.getElem?_set_ne z], fun a ha u h => ?_⟩
    rw [upd_ne (fun y => R.own.dis i k p _ hi hM (Ne.symm z) a ha (by rw [y]; exact hq))]; exact h
theorem FS_upd_le {D : Addr → Prop} {M : Locs} {H : Hp} {q : Addr} {ob : HO} (hq : inM M q) : Le (FS D M H) (FS D M (upd H q ob)) := fun a u h => by
  obtain ⟨h1, h2, h3⟩ := FS_eq.mp h
  exact FS_eq.mpr ⟨h1, h2, by rw [upd_ne (fun z => h2 (by rw [z]; exact hq))]; exact h3⟩
theorem own_nil {K : PySem.W.Frag} {F H : Hp} {xs : List PV} : ∀ {vs : List V} {A : List Addr}, PV.lfs xs = true → OwnDs K F H xs vs A → A = [] := by
  intro vs A h1 h2
  exact PV.rec_1 (motive_1 := fun x => ∀ (v : V) (A : List Addr), x.lf = true → OwnD K F H x v A → A = []) (motive_2 := fun xs => ∀ (vs : List V) (A : List Addr), PV.lfs xs = true → OwnDs K F H xs vs A → A = [])
    (by intro v A _ h; cases h; rfl) (by intro b v A _ h; cases h; rfl) (by intro b v A _ h; cases h; rfl) (by intro b v A _ h; cases h; rfl)
    (by intro xs _ v A e; cases e) (by intro xs ih v A e h; cases h with | tup h1 h2 => exact ih _ _ e h2) (by intro ks xs _ v A e; cases e) (by intro xs _ v A e; cases e)
    (by intro c v A _ h; cases h; rfl) (by intro b v A _ h; cases h; rfl) (by intro k v A e; cases e)
    (by intro vs A _ h; cases h; rfl)
    (by
      intro x xs h1 h2 vs A e h
      cases h with
      | cons a b _ =>
        rw [h1 _ _ (Bool.and_eq_true_iff.mp e).1 a, h2 _ _ (Bool.and_eq_true_iff.mp e).2 b]; rfl) xs vs A h1 h2
/-- the list at number k, and what may be put into it -/
inductive LstAt : LK → List PV → (PV → Bool) → (List PV → LK) → Prop
  | flat {xs : List PV} : LstAt (.flat (.lst xs)) xs (fun y => noLocs [y]) (fun ys => .flat (.lst ys))
  | deep {xs : List PV} : PV.lfs xs = true → LstAt (.deep (.lst xs)) xs (fun y => y.lf) (fun ys => .deep (.lst ys))
theorem PV.lfs_append : ∀ {xs ys : List PV}, PV.lfs xs = true → PV.lfs ys = true → PV.lfs (xs ++ ys) = true
  | [], _, _, h => h
  | x :: xs, ys, h, g => by
    rw [List.cons_append, PV.lfs, (Bool.and_eq_true_iff.mp h).1, PV.lfs_append (Bool.and_eq_true_iff.mp h).2 g]; rfl
theorem lf_mem : ∀ {xs : List PV}, PV.lfs xs = true → ∀ x ∈ xs, x.lf = true
  | x :: xs, h, y, m => by
    rcases List.mem_cons.mp m with rfl | m
    · exact (Bool.and_eq_true_iff.mp h).1
    · exact lf_mem (Bool.and_eq_true_iff.mp h).2 y m
theorem LstAt.view {K : PySem.W.Frag} {M : Locs} {s : S} {σ : L2.St} {H : Hp} {k : Nat} {l : LK} {xs : List PV} {may : PV → Bool} {mk : List PV → LK} (L : LstAt l xs may mk) (R : Rel K B M s σ H) (hm : s.m[k]? = some (some l)) {v : V} {A : List Addr} (hM : M[k]? = some (v, A)) :
    ∃ q ws, v = .ref q ∧ A = [q] ∧ H q = some (.lst ws) ∧ Reps K (FS B.D M H) xs ws ∧ ∀ ys us, (∀ y ∈ ys, y ∈ xs ∨ may y = true) → Reps K (FS B.D M H) ys us → Aft K B M s σ H M ⟨s.r, s.m.set k (some (mk ys))⟩ (upd H q (.lst us)) := by
  have ow := R.own.own k _ l hM hm
  have hk := (List.getElem?_eq_some_iff.mp hm).1
  cases L with
  | flat =>
    cases ow with
    | flatL h1 h2 =>
      refine ⟨_, _, rfl, rfl, h1, h2, fun ys us _ r => R.put hM hk List.mem_cons_self (.flatL upd_same (r.le (FS_upd_le ⟨_, List.mem_iff_getElem?.mpr ⟨k, hM⟩, List.mem_cons_self⟩)))⟩
  | deep hl =>
    cases ow with
    | deep h =>
      cases h with
      | lst h1 h2 h3 =>
        have e := own_nil hl h2
        subst e
        have r1 : Reps K (FS B.D M H) xs _ := h2.rep (Le.refl _) _ _ _ (fun a m => by cases m)
        refine ⟨_, _, rfl, rfl, h1, r1, fun ys us hy r => R.put hM hk List.mem_cons_self (.deep (.lst upd_same (OwnDs.of_lf ys us (PV.lfs_of fun y m => ?_) (r.le (FS_upd_le ⟨_, List.mem_iff_getElem?.mpr ⟨k, hM⟩, List.mem_cons_self⟩))) (by simp)))⟩
        rcases hy y m with z | z
        · exact lf_mem hl y z
        · exact z
theorem may_noloc {l : LK} {xs : List PV} {may : PV → Bool} {mk : List PV → LK} (L : LstAt l xs may mk) {y : PV} (h : may y = true) : ∀ k, y ≠ .loc k := by
  cases L with
  | flat => exact noLocs_ok h y List.mem_cons_self
  | deep _ => exact lf_noloc h
/-- xs.append(y) -/
def tvApp (to te : TVE) : TVE := fun Q s => to (fun x s1 => ∃ k l0 xs0 may0 mk0, x = .loc k ∧ s1.m[k]? = some (some l0) ∧ LstAt l0 xs0 may0 mk0 ∧ te (fun y s2 => ∃ l xs may mk, s2.m[k]? = some (some l) ∧ LstAt l xs may mk ∧ may y = true ∧ xs.length < sizeLine ∧ Q .non ⟨s2.r, s2.m.set k (some (mk (xs ++ [y])))⟩) s1) s
theorem ve_append (ho : VE X B o to) (he : VE X B e te) (hbase : attributeBase o "append" X.env (eval o X.env) = eval o X.env := by rfl)
    (hfew : ((backTo cpos (starEach (e :: []) X.env)).all (fun x => !x.1) && (backToKw cpos (keywordEach [] X.env)).all (fun x => x.1.isSome) && decide ((e :: []).length + ([] : List Keyword).length + (if ([] : List Keyword).isEmpty then 0 else 1) < 30)) = true := by rfl)
    (hline : (apos.endLine == cpos.line) = true := by rfl) (hs : starEach (e :: []) X.env = (false, eval e X.env) :: starEach [] X.env := by rfl) (hplain : (backTo cpos (starEach [] X.env)).any (·.1) = false := by rfl) :
    VE X B (.Call (.Attribute o "append" apos) [e] [] cpos) (tvApp to te) := by
  obtain ⟨T, p, w⟩ := ho
  obtain ⟨T2, p2, w2⟩ := he
  refine ⟨_, pe_bm PySem.F.plainAttrs_list PySem.F.slot_list_append PySem.F.type_list_append mt_append p (pa_cons p2 pa_nil hs) hbase hfew hline hs hplain, fun Qp Q s σ H M R ht k => ?_⟩
  refine w _ _ s σ H M R ht fun x v s1 H1 M1 a1 r1 q1 => ?_
  obtain ⟨j, l0, xs0, may0, mk0, rfl, e1, L0, q1⟩ := q1
  rcases r1 with ⟨j', A, ej, hM⟩ | r1
  · cases ej
    obtain ⟨q, ws, rfl, rfl, h1, r2, _⟩ := L0.view a1.rel e1 hM
    refine ⟨.inl ⟨rfl, _, .inl (.inl h1)⟩, w2 _ _ s1 σ H1 M1 a1.rel q1 fun y w' s2 H2 M2 a2 ry q2 => ?_⟩
    obtain ⟨l, xs, may, mk, e2, L, hy, hz, q2⟩ := q2
    obtain ⟨A', hM2⟩ := a2.rt j _ _ hM
    obtain ⟨q', ws2, eq, rfl, h2, r3, put⟩ := L.view a2.rel e2 hM2
    cases eq
    have ry := ry.rep (may_noloc L hy)
    refine ⟨q, ws2, w', rfl, rfl, h2, by rw [← r3.length]; exact hz, ?_⟩
    have a3 := put (xs ++ [y]) (ws2 ++ [w']) (fun z m => (List.mem_append.mp m).elim .inl fun m => .inr (by cases List.mem_singleton.mp m; exact hy)) (r3.append (.cons ry .nil))
    exact k .non .non _ _ M2 ((a1.trans a2).trans a3) (.inr .non) q2
  · exact (not_loc r1).elim
/-- xs.pop() -/
def tvPop (to : TVE) : TVE := fun Q s => to (fun x s1 => ∃ k l xs may mk y, x = .loc k ∧ s1.m[k]? = some (some l) ∧ LstAt l xs may mk ∧ xs[xs.length - 1]? = some y ∧ Q y ⟨s1.r, s1.m.set k (some (mk xs.dropLast))⟩) s
theorem Reps.dropLast {K : PySem.W.Frag} {F : Hp} {xs : List PV} {ws : List V} (r : Reps K F xs ws) : Reps K F xs.dropLast ws.dropLast := by
  rw [List.dropLast_eq_take, List.dropLast_eq_take, r.length]; exact r.take _
theorem ve_pop (ho : VE X B o to) (hbase : attributeBase o "pop" X.env (eval o X.env) = eval o X.env := by rfl) (hline : (apos.endLine == cpos.line) = true := by rfl) : VE X B (.Call (.Attribute o "pop" apos) [] [] cpos) (tvPop to) := by
  obtain ⟨T, p, w⟩ := ho
  refine ⟨_, pe_bm0 PySem.F.plainAttrs_list PySem.F.slot_list_pop PySem.F.type_list_pop mt_pop p hbase hline, fun Qp Q s σ H M R ht k => ?_⟩
  refine w _ _ s σ H M R ht fun x v s1 H1 M1 a1 r1 q1 => ?_
  obtain ⟨j, l, xs, may, mk, y, rfl, e1, L, hy, q1⟩ := q1
  rcases r1 with ⟨j', A, ej, hM⟩ | r1
  · cases ej
    obtain ⟨q, ws, rfl, rfl, h1, r2, put⟩ := L.view a1.rel e1 hM
    obtain ⟨u, h2, r3⟩ := r2.get hy
    rw [r2.length] at h2
    refine ⟨.inl ⟨rfl, _, .inl (.inl h1)⟩, q, ws, u, rfl, rfl, h1, h2, ?_⟩
    have a2 := put xs.dropLast ws.dropLast (fun z m => .inl ((List.dropLast_sublist xs).subset m)) r2.dropLast
    exact k y u _ _ M1 (a1.trans a2) (.inr (r3.le a2.st.le)) q1
  · exact (not_loc r1).elim
/-- xs[i] = y -/
def tvSetI (te to ti : TVE) : TVS := fun d s => te (fun y s1 => to (fun x s2 => ti (fun j s3 => ∃ k l xs may mk z n, x = .loc k ∧ s3.m[k]? = some (some l) ∧ LstAt l xs may mk ∧ j = .int z ∧ ixN xs.length z = some n ∧ may y = true ∧ d.nx ⟨s3.r, s3.m.set k (some (mk (xs.set n y)))⟩) s2) s1) s
theorem vs_setI {tg : Pos} (he : VE X B e te) (ho : VE X B o to) (hi : VE X B i ti) (hg : ∀ {T1 T2 : TE}, PE X o T1 → PE X i T2 → PG X (.Subscript o i tg) (gSub T1 T2 rSetL) := by exact fun h1 h2 => pg_sub h1 h2 set_list)
    (hs : swapsWithSole [.Subscript o i tg] e pos.line X.env = pure false := by rfl) (hw : swappedStores [.Subscript o i tg] e X.env = pure none := by rfl)
    (h1 : (assignEach [.Subscript o i tg] X.env).map (·.2) = [assign (.Subscript o i tg) X.env] := by rfl) : VS1 X B (.Assign [.Subscript o i tg] e pos) (tvSetI te to ti) := by
  obtain ⟨T, p, w⟩ := he
  obtain ⟨T2, p2, w2⟩ := ho
  obtain ⟨T3, p3, w3⟩ := hi
  refine ⟨_, ps_asg p (hg p2 p3) hs hw h1, fun d D s σ H M F0 R le ht kk => ?_⟩
  refine w _ _ s σ H M R ht fun y v s1 H1 M1 a1 r1 q1 => ?_
  refine w2 _ _ s1 σ H1 M1 a1.rel q1 fun x v2 s2 H2 M2 a2 r2 q2 => ?_
  refine w3 _ _ s2 σ H2 M2 a2.rel q2 fun j v3 s3 H3 M3 a3 r3 q3 => ?_
  obtain ⟨k, l, xs, may, mk, z, n, rfl, e3, L, rfl, hn, hy, q⟩ := q3
  have r2 := a3.repl r2
  rcases r2 with ⟨k', A, ek, hM⟩ | r2
  · cases ek
    obtain ⟨q', ws, rfl, rfl, h2, rr, put⟩ := L.view a3.rel e3 hM
    have ry := ((a2.trans a3).repl r1).rep (may_noloc L hy)
    refine ⟨q', ws, z, n, rfl, r3.int, h2, by rw [← rr.length]; exact hn, ?_⟩
    have a4 := put (xs.set n y) (ws.set n v) (fun w m => (List.mem_or_eq_of_mem_set m).elim .inl fun z => .inr (by rw [z]; exact hy)) (rr.set ry n)
    have aa := ((a1.trans a2).trans a3).trans a4
    exact kk.nx _ _ _ _ aa.rel (aa.fz le) q
  · exact (not_loc r2).elim
/-! ### raise -/
theorem vs_raise {W : Value → S → Prop} {C : Addr} {bmB : List Value} {Bn newId initId : String} {x m : Str} {j : Nat} {pr : Pos} (hc : X.calm = true) (tk : Takes X (WP X.K B W)) (F : ExcBaseFacts Bn newId initId bmB) (q : PySem.W.excIn X.K C bmB newId = true) (gC : X.mg x = some (.ref C)) (kC : PySem.W.keepIn X.K (.ref C) = true) (r : Raises X (.ref C)) (hg : Gl X x) (hdb : (x == ("__debug__" : Str)) = false := by decide) :
    VS1 X B (.Raise (some (.Call (.Name x p) [.Constant (.str m) j p2] [] pos)) none pr) (fun _ s => W (.ref C) s) :=
  ⟨_, ps_raise hc tk (pmk_own F q gC kC r hg hdb), fun d D s σ H M F0 R le ht k => ⟨rfl, s, M, R, ht⟩⟩
end
end VS
namespace VS
open PySem PySem.Spec PyProof.Rows L2
/-! ### calls -/
section
variable {X : Cx} {B : Bs} {a b c e o i : Expr} {es : List Expr} {ta tb tc te to ti : TVE} {pos p p2 apos cpos : Pos} {st : Stmt} {rest : List Stmt} {t u : TVS} {W : Value → S → Prop}
/-- what the callee may not touch, and what it may not see -/
def Dn (B : Bs) (M : Locs) (xs : List PV) (k : Option Nat) (a : Addr) : Prop := B.D a ∨ ∃ (j : Nat) (q : V × List Addr), M[j]? = some q ∧ a ∈ q.2 ∧ PV.loc j ∉ xs ∧ k ≠ some j
theorem Rel.lend {K : PySem.W.Frag} {M Mc : Locs} {s : S} {σ : L2.St} {H : Hp} {xs : List PV} {k : Option Nat} (R : Rel K B M s σ H) (hMc : ∀ a, inM Mc a → ∃ q, k.bind (fun j => M[j]?) = some q ∧ a ∈ q.2) (x : PV) (hx : x ∈ xs) (hk : ∀ j, k = some j → x ≠ .loc j) {v : V} (h : RepL K (FS B.D M H) M x v) (n : ∀ j, s.look x ≠ .loc j) : Rep K (FS (Dn B M xs k) Mc H) (s.look x) v := by
  have le : Le (FS B.D M H) (FS (Dn B M xs k) Mc H) := fun a u h => by
    obtain ⟨h1, h2, h3⟩ := FS_eq.mp h
    refine FS_eq.mpr ⟨fun d => ?_, fun z => ?_, h3⟩
    · rcases d with d | ⟨j, q, hj, ha, _⟩
      · exact h1 d
      · exact h2 ⟨q, List.mem_iff_getElem?.mpr ⟨j, hj⟩, ha⟩
    · obtain ⟨q, hq, ha⟩ := hMc a z
      cases k with
      | none => cases hq
      | some j => exact h2 ⟨q, List.mem_iff_getElem?.mpr ⟨j, hq⟩, ha⟩
  rcases h with ⟨j, A, rfl, hM⟩ | h
  · cases q : s.m[j]? with
    | none => exact (n j (by simp [S.look, q])).elim
    | some o =>
      cases o with
      | none => exact (n j (by simp [S.look, q])).elim
      | some l =>
        have e : s.look (.loc j) = l.pv := by simp [S.look, q]
        rw [e]
        refine (R.own.own j _ l hM q).rep le fun a ha u hu => FS_eq.mpr ⟨fun d => ?_, fun z => ?_, hu⟩
        · rcases d with d | ⟨j', q', hj', ha', hn, _⟩
          · exact R.own.nD a ⟨_, List.mem_iff_getElem?.mpr ⟨j, hM⟩, ha⟩ d
          · by_cases ej : j = j'
            · subst ej; exact hn hx
            · exact R.own.dis j j' _ q' hM hj' ej a ha ha'
        · obtain ⟨q', hq, ha'⟩ := hMc a z
          cases k with
          | none => cases hq
          | some j' =>
            by_cases ej : j = j'
            · subst ej; exact hk j rfl rfl
            · exact R.own.dis j j' _ q' hM hq ej a ha ha'
  · have e : s.look x = x := by
      cases x with
      | loc k => exact (not_loc h).elim
      | _ => rfl
    rw [e]; exact h.le le
/-- nothing handed over to be changed -/
def tvCall0 (n : Nat) (psp : PSp) (W : Value → S → Prop) (t : TVA) : TVF := fun Q s => t (fun xs s' => xs.length = n ∧ noLocs (xs.map s'.look) = true ∧ psp (xs.map s'.look) [] (fun r _ => Q (.deep r) s') (fun c _ => W c s')) s
theorem lend_all {K : PySem.W.Frag} {M Mc : Locs} {s : S} {σ : L2.St} {H : Hp} {all : List PV} (R : Rel K B M s σ H) (hMc : ∀ a, inM Mc a → ∃ q, (none : Option Nat).bind (fun j => M[j]?) = some q ∧ a ∈ q.2) : ∀ (xs : List PV) (vs : List V), (∀ x ∈ xs, x ∈ all) → noLocs (xs.map s.look) = true → RepLs K (FS B.D M H) M xs vs → RepLs K (FS (Dn B M all none) Mc H) Mc (xs.map s.look) vs
  | [], _, _, _, h => by cases h; exact .nil
  | x :: xs, _, hm, n, h => by
    cases h with
    | cons h1 h2 =>
      have n' := noLocs_ok n
      refine .cons (.inr (R.lend hMc x (hm x List.mem_cons_self) (fun j z => by cases z) h1 (n' _ (by simp)))) (lend_all R hMc xs _ (fun y m => hm y (List.mem_cons_of_mem _ m)) ?_ h2)
      cases e : s.look x with
      | loc k => exact (n' _ (by simp) k e).elim
      | _ => rw [List.map_cons, e] at n; exact n
theorem vf_call0 {psp : PSp} {x : Str} {k n : Nat} {t : TVA} (F : Fn X.prog X.w X.K X.mg X.base x k n psp) (hr : Room k X.A) (tk : Takes X (WP X.K B W)) (ha : VA X B (e :: es) t) (hg : Gl X x) (hdb : (x == ("__debug__" : Str)) = false := by decide)
    (he : starEach (e :: es) X.env = (false, eval e X.env) :: starEach es X.env := by rfl) (hpl : (backTo pos (starEach es X.env)).any (·.1) = false := by rfl) : VF X B (.Call (.Name x p) (e :: es) [] pos) (tvCall0 n psp W t) := by
  obtain ⟨f, fd, ps, gm, kp, bd, ok⟩ := F.ex
  obtain ⟨T, pT, w⟩ := ha
  refine ⟨_, pe_callS (E := WE (WP X.K B W)) ok hr hg gm kp bd (fun σ => passAt tk σ) pT hdb he hpl, fun Qp Q s σ H M R ht kk => ?_⟩
  refine w _ _ s σ H M R ht fun xs vs s1 H1 M1 a1 r1 q1 => ?_
  obtain ⟨ql, qn, q1⟩ := q1
  have R1 := a1.rel
  have hMc : ∀ a, inM ([] : Locs) a → ∃ q, (none : Option Nat).bind (fun j => M1[j]?) = some q ∧ a ∈ q.2 := fun a ⟨q, hq, _⟩ => by cases hq
  have alive : ∀ a, Dn B M1 xs none a → ∃ o, H1 a = some o := fun a d => by
    rcases d with d | ⟨j, q, hj, ha, _⟩
    · exact R1.own.al a d
    · obtain ⟨u, e, _⟩ := R1.own.cells a ⟨q, List.mem_iff_getElem?.mpr ⟨j, hj⟩, ha⟩
      exact ⟨u, e⟩
  have own0 : Own X.K (Dn B M1 xs none) [] [] H1 := ⟨rfl, fun i j p q h => (by simp at h), fun i p l h => (by simp at h), fun i p h => (by simp at h), fun a h => (by obtain ⟨q, hq, _⟩ := h; cases hq), alive⟩
  have push : ∀ x v A M' m' H', Own X.K (Dn B M1 xs none) (M' ++ [(v, A)]) (m' ++ [some (.deep x)]) H' → Step [] (M' ++ [(v, A)]) H1 H' → M'.length = ([] : Locs).length → AftF X.K B M1 s1 σ H1 M1 s1 H' (.deep x) v A := fun x v A M' m' H' o st ln => by
    have e : M' = [] := List.length_eq_zero_iff.mp ln
    subst e
    have em : m' = [] := List.length_eq_zero_iff.mp (by have := o.len; simp at this; simpa using this)
    subst em
    have le : Le H1 H' := fun a u h => st.keep a u (fun ⟨q, hq, _⟩ => by cases hq) h
    have fr : ∀ a ∈ A, H1 a = none := fun a ha => (st.new a ⟨_, List.mem_cons_self, ha⟩).elim (fun ⟨q, hq, _⟩ => by cases hq) fun z => z
    refine R1.push le fr ?_
    have ow := o.own 0 (v, A) (.deep x) rfl rfl
    cases ow with
    | deep h =>
      refine .deep (h.le (fun a u nt hu => ?_) _ _ _ fun _ _ _ h => h)
      obtain ⟨h1, h2, h3⟩ := FS_eq.mp hu
      refine FS_eq.mpr ⟨fun d => h1 (.inl d), fun z => ?_, h3⟩
      rcases inM_app.mp z with z | z
      · obtain ⟨u', e, nt'⟩ := R1.own.cells a z
        rw [le a u' e] at h3; cases h3
        exact nt nt'
      · exact h2 ⟨_, List.mem_cons_self, z⟩
  refine ⟨r1.length.symm.trans ql, Dn B M1 xs none, [], [], xs.map s1.look, fun r _ => Qp (.deep r) s1, fun c _ => W c s1, own0, lend_all R1 hMc xs vs (fun _ m => m) qn r1, q1, fun x v A M' m' H' o st rt ln q => ?_, fun c M' m' H' o st rt ln q => ?_⟩
  · exact kk _ v A s1 H' M1 (.pre a1 (push x v A M' m' H' o st ln)) q
  · have le : Le H1 H' := fun a u h => st.keep a u (fun ⟨q, hq, _⟩ => by cases hq) h
    exact ⟨rfl, s1, M1, R1.grow le, q⟩
/-- one thing of one's own, number j, handed over to be changed -/
def tr1 (s : S) (j : Nat) : PV → PV
  | .loc k => if k = j then .loc 0 else match s.m[k]? with
    | some (some l) => l.pv
    | _ => .loc 1
  | x => x
theorem OwnK.noloc {K : PySem.W.Frag} {F H : Hp} {l : LK} {v : V} {A : List Addr} (h : OwnK K F H l v A) : ∀ k, l.pv ≠ .loc k := fun k z => by
  cases h with
  | flatL _ _ => cases z
  | flatD _ _ _ => cases z
  | deep h => simp only [LK.pv] at z; subst z; cases h
def okTr : List PV → Bool
  | [] => true
  | .loc 0 :: r => okTr r
  | .loc (_ + 1) :: _ => false
  | _ :: r => okTr r
def tvCall1 (n j : Nat) (psp : PSp) (W : Value → S → Prop) (t : TVA) : TVF := fun Q s => t (fun xs s' => xs.length = n ∧ okTr (xs.map (tr1 s' j)) = true ∧ ∃ l, s'.m[j]? = some (some l) ∧ psp (xs.map (tr1 s' j)) [some l] (fun r m' => ∃ y, m' = [some (.deep y)] ∧ Q (.deep r) ⟨s'.r, s'.m.set j (some (.deep y))⟩) (fun c m' => ∃ y, m' = [some (.deep y)] ∧ W c ⟨s'.r, s'.m.set j (some (.deep y))⟩)) s
theorem lend_all1 {K : PySem.W.Frag} {M : Locs} {s : S} {σ : L2.St} {H : Hp} {all : List PV} {j : Nat} {q : V × List Addr} (hq : M[j]? = some q) (R : Rel K B M s σ H) : ∀ (xs : List PV) (vs : List V), (∀ x ∈ xs, x ∈ all) → okTr (xs.map (tr1 s j)) = true → RepLs K (FS B.D M H) M xs vs → RepLs K (FS (Dn B M all (some j)) [q] H) [q] (xs.map (tr1 s j)) vs
  | [], _, _, _, h => by cases h; exact .nil
  | x :: xs, _, hm, n, h => by
    have hMc : ∀ a, inM [q] a → ∃ q', (some j).bind (fun j => M[j]?) = some q' ∧ a ∈ q'.2 := fun a z => by
      obtain ⟨p, hp, ha⟩ := z
      cases List.mem_singleton.mp hp
      exact ⟨q, hq, ha⟩
    cases h with
    | cons h1 h2 =>
      have tail : okTr (xs.map (tr1 s j)) = true := by
        rw [List.map_cons] at n
        revert n
        cases tr1 s j x with
        | loc k =>
          cases k with
          | zero => exact fun z => z
          | succ k => exact fun z => by cases z
        | _ => exact fun z => z
      refine .cons ?_ (lend_all1 hq R xs _ (fun y m => hm y (List.mem_cons_of_mem _ m)) tail h2)
      by_cases ex : x = .loc j
      · subst ex
        have e : tr1 s j (.loc j) = .loc 0 := by simp [tr1]
        rw [e]
        rcases h1 with ⟨k, A, ek, hM⟩ | h1
        · cases ek
          rw [hq] at hM; cases hM
          exact .inl ⟨0, A, rfl, rfl⟩
        · exact (not_loc h1).elim
      · have e : tr1 s j x = s.look x ∧ ∀ k, s.look x ≠ .loc k := by
          rcases h1 with ⟨k, A, rfl, hM⟩ | h1
          · have nk : k ≠ j := fun z => ex (by rw [z])
            cases q1 : s.m[k]? with
            | none =>
              have : tr1 s j (.loc k) = .loc 1 := by simp [tr1, nk, q1]
              rw [List.map_cons, this] at n; cases n
            | some ob =>
              cases ob with
              | none =>
                have : tr1 s j (.loc k) = .loc 1 := by simp [tr1, nk, q1]
                rw [List.map_cons, this] at n; cases n
              | some l =>
                have e1 : s.look (.loc k) = l.pv := by simp [S.look, q1]
                rw [e1]
                exact ⟨by simp [tr1, nk, q1], (R.own.own k _ l hM q1).noloc⟩
          · cases x with
            | loc k => exact (not_loc h1).elim
            | _ => exact ⟨rfl, fun k z => by cases z⟩
        rw [e.1]
        exact .inr (R.lend hMc x (hm x List.mem_cons_self) (fun j' z => by cases z; exact ex) h1 e.2)
theorem vf_call1 (j : Nat) {psp : PSp} {x : Str} {k n : Nat} {t : TVA} (F : Fn X.prog X.w X.K X.mg X.base x k n psp) (hr : Room k X.A) (tk : Takes X (WP X.K B W)) (ha : VA X B (e :: es) t) (hg : Gl X x) (hdb : (x == ("__debug__" : Str)) = false := by decide)
    (he : starEach (e :: es) X.env = (false, eval e X.env) :: starEach es X.env := by rfl) (hpl : (backTo pos (starEach es X.env)).any (·.1) = false := by rfl) : VF X B (.Call (.Name x p) (e :: es) [] pos) (tvCall1 n j psp W t) := by
  obtain ⟨f, fd, ps, gm, kp, bd, ok⟩ := F.ex
  obtain ⟨T, pT, w⟩ := ha
  refine ⟨_, pe_callS (E := WE (WP X.K B W)) ok hr hg gm kp bd (fun σ => passAt tk σ) pT hdb he hpl, fun Qp Q s σ H M R ht kk => ?_⟩
  refine w _ _ s σ H M R ht fun xs vs s1 H1 M1 a1 r1 q1 => ?_
  obtain ⟨ql, qn, l, em, q1⟩ := q1
  have R1 := a1.rel
  have hjm : j < s1.m.length := (List.getElem?_eq_some_iff.mp em).1
  have hjM : j < M1.length := by rw [R1.own.len]; exact hjm
  obtain ⟨q, hq⟩ : ∃ q, M1[j]? = some q := ⟨M1[j], List.getElem?_eq_getElem hjM⟩
  have inq : ∀ a ∈ q.2, inM M1 a := fun a ha => ⟨q, List.mem_iff_getElem?.mpr ⟨j, hq⟩, ha⟩
  have alive : ∀ a, Dn B M1 xs (some j) a → ∃ o, H1 a = some o := fun a d => by
    rcases d with d | ⟨j', q', hj, ha, _⟩
    · exact R1.own.al a d
    · obtain ⟨u, e, _⟩ := R1.own.cells a ⟨q', List.mem_iff_getElem?.mpr ⟨j', hj⟩, ha⟩
      exact ⟨u, e⟩
  have le1 : Le (FS B.D M1 H1) (FS (Dn B M1 xs (some j)) [q] H1) := fun a u h => by
    obtain ⟨h1, h2, h3⟩ := FS_eq.mp h
    refine FS_eq.mpr ⟨fun d => ?_, fun z => ?_, h3⟩
    · rcases d with d | ⟨j', q', hj, ha, _⟩
      · exact h1 d
      · exact h2 ⟨q', List.mem_iff_getElem?.mpr ⟨j', hj⟩, ha⟩
    · obtain ⟨p, hp, ha⟩ := z
      cases List.mem_singleton.mp hp
      exact h2 (inq a ha)
  have one : ∀ {i : Nat} {p : V × List Addr}, [q][i]? = some p → i = 0 ∧ p = q := fun {i p} h => by
    cases i with
    | zero => cases h; exact ⟨rfl, rfl⟩
    | succ i => simp at h
  have own0 : Own X.K (Dn B M1 xs (some j)) [q] [some l] H1 := by
    refine ⟨rfl, fun i i' p p' h h' ne => ?_, fun i p l' h hm => ?_, fun i p h hm => ?_, fun a z d => ?_, alive⟩
    · exact (ne ((one h).1.trans (one h').1.symm)).elim
    · obtain ⟨rfl, rfl⟩ := one h
      cases hm
      exact (R1.own.own j p l hq em).le le1 fun _ _ _ h => h
    · obtain ⟨rfl, rfl⟩ := one h
      cases hm
    · obtain ⟨p, hp, ha⟩ := z
      cases List.mem_singleton.mp hp
      rcases d with d | ⟨j', q', hj, ha', _, nj⟩
      · exact R1.own.nD a (inq a ha) d
      · exact R1.own.dis j j' q q' hq hj (fun z => nj (by rw [z])) a ha ha'
  -- what stands behind the call
  have behind : ∀ {y : PV} {Mx : Locs} {mx : Ms} {M' : Locs} {H' : Hp}, Own X.K (Dn B M1 xs (some j)) (M' ++ Mx) ([some (.deep y)] ++ mx) H' → (∀ o ∈ mx, ∃ z, o = some (.deep z)) → Step [q] (M' ++ Mx) H1 H' → Roots [q] M' → M'.length = 1 →
      ∃ A', M' = [(q.1, A')] ∧ Rel X.K B (M1.set j (q.1, A') ++ Mx) ⟨s1.r, s1.m.set j (some (.deep y)) ++ mx⟩ σ H' ∧ Step M1 (M1.set j (q.1, A') ++ Mx) H1 H' ∧ Roots M1 (M1.set j (q.1, A')) := fun {y Mx mx M' H'} o om st rt ln => by
    obtain ⟨A', eA⟩ := rt 0 q.1 q.2 rfl
    have eM : M' = [(q.1, A')] := by
      match M', ln with
      | [z], _ => cases eA; rfl
    subst eM
    refine ⟨A', rfl, ?_⟩
    have hmx : Mx.length = mx.length := by have := o.len; simp at this; omega
    have hself : (M1.set j (q.1, A'))[j]? = some (q.1, A') := List.getElem?_set_self hjM
    have at_ : ∀ (i : Nat) p, (M1.set j (q.1, A') ++ Mx)[i]? = some p → (i ≠ j ∧ i < M1.length ∧ M1[i]? = some p) ∨ (∃ c, ([(q.1, A')] ++ Mx)[c]? = some p ∧ (s1.m.set j (some (.deep y)) ++ mx)[i]? = ([some (.deep y)] ++ mx)[c]? ∧ (c = 0 ∧ i = j ∨ 1 ≤ c ∧ i = M1.length + (c - 1))) := fun i p h => by
      by_cases hi : i < M1.length
      · rw [List.getElem?_append_left (by simpa using hi)] at h
        by_cases z : j = i
        · subst z; rw [hself] at h; cases h
          exact .inr ⟨0, rfl, by rw [List.getElem?_append_left (by simpa using hjm), List.getElem?_set_self hjm]; rfl, .inl ⟨rfl, rfl⟩⟩
        · rw [List.getElem?_set_ne z] at h; exact .inl ⟨Ne.symm z, hi, h⟩
      · rw [List.getElem?_append_right (by simp; omega)] at h
        simp only [List.length_set] at h
        refine .inr ⟨1 + (i - M1.length), ?_, ?_, .inr ⟨by omega, by omega⟩⟩
        · rw [List.getElem?_append_right (by simp)]; simpa using h
        · rw [List.getElem?_append_right (by simp; rw [← R1.own.len]; omega), List.getElem?_append_right (by simp)]
          simp [R1.own.len]
    have inC : ∀ {c : Nat} {p : V × List Addr} {a : Addr}, ([(q.1, A')] ++ Mx)[c]? = some p → a ∈ p.2 → inM ([(q.1, A')] ++ Mx) a := fun {c p a} h ha => ⟨p, List.mem_iff_getElem?.mpr ⟨c, h⟩, ha⟩
    have newC : ∀ a, inM ([(q.1, A')] ++ Mx) a → a ∈ q.2 ∨ H1 a = none := fun a h => by
      rcases st.new a h with ⟨p', hp', h⟩ | h
      · cases List.mem_singleton.mp hp'; exact .inl h
      · exact .inr h
    have apart : ∀ (i : Nat) p, M1[i]? = some p → i ≠ j → ∀ a ∈ p.2, ¬ inM ([(q.1, A')] ++ Mx) a := fun i p h ne a ha hA => by
      rcases newC a hA with z | z
      · exact R1.own.dis i j p q h hq ne a ha z
      · obtain ⟨u, e, _⟩ := R1.own.cells a ⟨p, List.mem_iff_getElem?.mpr ⟨i, h⟩, ha⟩
        rw [z] at e; cases e
    have keepO : ∀ (i : Nat) p, M1[i]? = some p → i ≠ j → ∀ a ∈ p.2, ∀ u, H1 a = some u → H' a = some u := fun i p h ne a ha u hu => st.keep a u (fun ⟨p', hp', z⟩ => by
      cases List.mem_singleton.mp hp'
      exact R1.own.dis i j p q h hq ne a ha z) hu
    have st2 : Step M1 (M1.set j (q.1, A') ++ Mx) H1 H' := by
      refine ⟨fun a u n h => st.keep a u (fun ⟨p', hp', z⟩ => by cases List.mem_singleton.mp hp'; exact n (inq a z)) h, fun a ⟨p', hp', ha⟩ => ?_⟩
      obtain ⟨i, hi⟩ := List.mem_iff_getElem?.mp hp'
      rcases at_ i p' hi with ⟨_, _, h⟩ | ⟨c, h, _⟩
      · exact .inl ⟨p', List.mem_iff_getElem?.mpr ⟨i, h⟩, ha⟩
      · exact (newC a (inC h ha)).elim (fun z => .inl (inq a z)) .inr
    have rt1 : Roots M1 (M1.set j (q.1, A')) := fun i u C h => by
      by_cases z : j = i
      · subst z; rw [hq] at h; cases h; exact ⟨A', hself⟩
      · exact ⟨C, by rw [List.getElem?_set_ne z]; exact h⟩
    have rt2 : Roots M1 (M1.set j (q.1, A') ++ Mx) := fun i u C h => by
      obtain ⟨C', h'⟩ := rt1 i u C h
      exact ⟨C', by rw [List.getElem?_append_left (List.getElem?_eq_some_iff.mp h').1]; exact h'⟩
    refine ⟨R1.mk' st2 rt2 (R1.own.mk' st2 (by simp [R1.own.len, hmx]) (fun i i' p' p'' h h' ne a ha hb => ?_) fun i p' hi => ?_), st2, rt1⟩
    · rcases at_ i p' h with ⟨n1, l1, h1⟩ | ⟨c1, h1, _, e1⟩
      · rcases at_ i' p'' h' with ⟨n2, l2, h2⟩ | ⟨c2, h2, _, e2⟩
        · exact R1.own.dis i i' p' p'' h1 h2 ne a ha hb
        · exact apart i p' h1 n1 a ha (inC h2 hb)
      · rcases at_ i' p'' h' with ⟨n2, l2, h2⟩ | ⟨c2, h2, _, e2⟩
        · exact apart i' p'' h2 n2 a hb (inC h1 ha)
        · exact o.dis c1 c2 p' p'' h1 h2 (fun z => ne (by omega)) a ha hb
    · rcases at_ i p' hi with ⟨n1, l1, h1⟩ | ⟨c1, h1, em1, e1⟩
      · refine .inl ⟨h1, ?_, keepO i p' h1 n1⟩
        rw [List.getElem?_append_left (by simp; rw [← R1.own.len]; exact l1), List.getElem?_set_ne (Ne.symm n1)]
      · have hd : ∃ z, ([some (LK.deep y)] ++ mx)[c1]? = some (some (.deep z)) := by
          have hc : c1 < ([some (LK.deep y)] ++ mx).length := by
            have h2 := (List.getElem?_eq_some_iff.mp h1).1
            rw [← o.len]; exact h2
          have hmem : ([some (LK.deep y)] ++ mx)[c1] ∈ [some (LK.deep y)] ++ mx := List.getElem_mem hc
          rw [List.getElem?_eq_getElem hc]
          rcases List.mem_append.mp hmem with z | z
          · exact ⟨y, by rw [List.mem_singleton.mp z]⟩
          · obtain ⟨w', ew⟩ := om _ z
            exact ⟨w', by rw [ew]⟩
        obtain ⟨z, hz⟩ := hd
        refine .inr (.inl ⟨_, em1.trans hz, ?_⟩)
        have ow := o.own c1 p' (.deep z) h1 hz
        cases ow with
        | deep h =>
          refine .deep (h.le (fun a u nt hu => ?_) _ _ _ fun _ _ _ h => h)
          obtain ⟨g1, g2, g3⟩ := FS_eq.mp hu
          refine FS_eq.mpr ⟨fun d => g1 (.inl d), fun ⟨p'', hp'', ha⟩ => ?_, g3⟩
          obtain ⟨i', hi'⟩ := List.mem_iff_getElem?.mp hp''
          rcases at_ i' p'' hi' with ⟨n2, l2, h2⟩ | ⟨c2, h2, _⟩
          · obtain ⟨u', e', nt'⟩ := R1.own.cells a ⟨p'', List.mem_iff_getElem?.mpr ⟨i', h2⟩, ha⟩
            rw [keepO i' p'' h2 n2 a ha u' e'] at g3; cases g3
            exact nt nt'
          · exact g2 (inC h2 ha)
  refine ⟨r1.length.symm.trans ql, Dn B M1 xs (some j), [q], [some l], xs.map (tr1 s1 j), _, _, own0, lend_all1 hq R1 xs vs (fun _ m => m) qn r1, q1, fun r v A M' m' H' o st rt ln q2 => ?_, fun c M' m' H' o st rt ln q2 => ?_⟩
  · obtain ⟨y, rfl, q2⟩ := q2
    obtain ⟨A', rfl, R2, st2, rt2⟩ := behind (Mx := [(v, A)]) (mx := [some (.deep r)]) o (fun z hz => ⟨r, List.mem_singleton.mp hz⟩) st rt ln
    exact kk _ v A ⟨s1.r, s1.m.set j (some (.deep y))⟩ H' _ ⟨R2, a1.st.trans st2, a1.rt.trans rt2, by rw [List.length_set]; exact a1.ln, a1.rr⟩ q2
  · obtain ⟨y, rfl, q2⟩ := q2
    obtain ⟨A', rfl, R2, st2, rt2⟩ := behind (Mx := []) (mx := []) (by simpa using o) (fun z hz => by cases hz) (by simpa using st) rt ln
    exact ⟨rfl, _, _, R2, by simpa using q2⟩
end
end VS
namespace VS
open PySem PySem.Spec PyProof.Rows L2
/-! ### comprehensions -/
def starE (K : PySem.W.Frag) (B : Bs) (t : TVE) : TE := fun σ H Q => ∃ (Qp : PV → S → Prop) (s : S) (M : Locs), Rel K B M s σ H ∧ t Qp s ∧ ∀ x v s' H' M', Aft K B M s σ H M' s' H' → RepL K (FS B.D M' H') M' x v → Qp x s' → Q v H'
theorem VE.star {X : Cx} {B : Bs} {e : Expr} {t : TVE} (h : VE X B e t) : PE X e (starE X.K B t) := by
  obtain ⟨T, p, w⟩ := h
  exact ⟨fun pins s σ H Q I ⟨Qp, s', M, R, ht, k⟩ => p.run pins s σ H Q I (w Qp Q s' σ H M R ht k)⟩
def starT (K : PySem.W.Frag) (B : Bs) (t : TVT) : TT := fun σ H Q => ∃ (Qp : Bool → S → Prop) (s : S) (M : Locs), Rel K B M s σ H ∧ t Qp s ∧ ∀ b s' H' M', Aft K B M s σ H M' s' H' → Qp b s' → Q b H'
theorem VT.star {X : Cx} {B : Bs} {e : Expr} {t : TVT} (h : VT X B e t) : PT X e (starT X.K B t) := by
  obtain ⟨T, p, w⟩ := h
  exact ⟨fun pins s σ H Q I ⟨Qp, s', M, R, ht, k⟩ => p.run pins s σ H Q I (w Qp Q s' σ H M R ht k)⟩
/-- tests of a clause: none or one -/
def VTs (X : Cx) (B : Bs) (ifs : List Expr) (t : TVT) : Prop := PTs X ifs (starT X.K B t)
theorem vts_one {X : Cx} {B : Bs} {c : Expr} {t : TVT} (h : VT X B c t) : VTs X B [c] t := pts_one h.star
theorem vts_nil {X : Cx} {B : Bs} : VTs X B [] (fun Q s => Q true s) := by
  refine ⟨fun pins s σ H Q I ⟨Qp, s', M, R, ht, k⟩ => ?_⟩
  exact (pts_nil (X := X)).run pins s σ H Q I (k true s' H M (.refl R) ht)
theorem Rel.wipe {K : PySem.W.Frag} {B : Bs} {M : Locs} {s : S} {σ : L2.St} {H : Hp} (R : Rel K B M s σ H) (j : Nat) : Rel K B M ⟨s.r.set j none, s.m⟩ (σ.set j none) H := by
  refine ⟨R.own, R.base, R.root, by simp [R.len], fun i x e => ?_⟩
  have e' : (s.r.set j none)[i]? = some (some x) := e
  by_cases h : j = i
  · subst h
    by_cases hi : j < s.r.length
    · rw [List.getElem?_set_self hi] at e'; cases e'
    · rw [List.getElem?_eq_none (by simp; omega)] at e'; cases e'
  · rw [List.getElem?_set_ne h] at e'
    obtain ⟨u, h1, h2⟩ := R.env i x e'
    exact ⟨u, by rw [List.getElem?_set_ne h]; exact h1, h2⟩
def lcTurn (j : Nat) (tt : TVT) (te : TVE) (r : List (Option PV)) (W : Nat → List PV → Ms → Prop) (i : Nat) (y : PV) (acc : List PV) (m : Ms) : Prop :=
  tt (fun b s' => if b = true then te (fun z s'' => noLocs [z] = true ∧ acc.length < sizeLine ∧ ∃ m'', s''.m = m'' ++ [some (.flat (.lst acc))] ∧ W (i + 1) (acc ++ [z]) m'') s' else ∃ m'', s'.m = m'' ++ [some (.flat (.lst acc))] ∧ W (i + 1) acc m'') ⟨(r.set j none).set j (some y), m ++ [some (.flat (.lst acc))]⟩
/-- what the loop keeps -/
def LcI (K : PySem.W.Frag) (B : Bs) (M1 : Locs) (H1 : Hp) (D : Addr) (W : Nat → List PV → Ms → Prop) (i : Nat) (H : Hp) : Prop := ∃ (acc : List PV) (m : Ms) (M : Locs), Own K B.D (M ++ [(.ref D, [D])]) (m ++ [some (.flat (.lst acc))]) H ∧ Step M1 (M ++ [(.ref D, [D])]) H1 H ∧ Roots M1 M ∧ M.length = M1.length ∧ W i acc m
theorem lc_turn {K : PySem.W.Frag} {B : Bs} {M1 : Locs} {s1 : S} {σ : L2.St} {H1 H : Hp} {D : Addr} {W : Nat → List PV → Ms → Prop} {i j : Nat} {tt : TVT} {te : TVE} {y : PV} {v : V} (R1 : Rel K B M1 s1 σ H1) (turn : ∀ acc m, W i acc m → lcTurn j tt te s1.r W i y acc m) (I : LcI K B M1 H1 D W i H)
    (ry : ∀ (M : Locs) (H : Hp), Step M1 M H1 H → RepL K (FS B.D M H) M y v) :
    gName j v (wipe σ [j]) H fun σ2 H2 => wipe σ2 [j] = wipe σ [j] ∧ starT K B tt σ2 H2 fun b H3 => if b = true then starE K B te σ2 H3 fun z H4 => ∃ acc, H4 D = some (.lst acc) ∧ acc.length < sizeLine ∧ LcI K B M1 H1 D W (i + 1) (upd H4 D (.lst (acc ++ [z]))) else LcI K B M1 H1 D W (i + 1) H3 := by
  obtain ⟨acc, m, M, ow, st, rt, ln, hw⟩ := I
  have rt' : Roots M1 (M ++ [(V.ref D, [D])]) := fun k u C h => by
    obtain ⟨C', h'⟩ := rt k u C h
    exact ⟨C', by rw [List.getElem?_append_left (List.getElem?_eq_some_iff.mp h').1]; exact h'⟩
  have R : Rel K B (M ++ [(V.ref D, [D])]) ⟨s1.r, m ++ [some (.flat (.lst acc))]⟩ σ H := R1.mk' st rt' ow
  have R2 := (R.wipe j).set j (ry _ _ st)
  show wipe ((wipe σ [j]).set j (some v)) [j] = wipe σ [j] ∧ _
  refine ⟨by simp [wipe], _, _, _, R2, turn acc m hw, fun b s' H3 M3 a3 q3 => ?_⟩
  have lastM : ∀ {M' : Locs} {m'' : Ms} {s'' : S} {H' : Hp}, Aft K B (M ++ [(V.ref D, [D])]) ⟨(s1.r.set j none).set j (some y), m ++ [some (.flat (.lst acc))]⟩ ((wipe σ [j]).set j (some v)) H M' s'' H' → s''.m = m'' ++ [some (.flat (.lst acc))] → ∃ M4, M' = M4 ++ [(.ref D, [D])] ∧ Roots M1 M4 ∧ M4.length = M1.length := fun {M' m'' s'' H'} af em => by
    have hlen : M'.length = M.length + 1 := by have := af.ln; simpa using this
    obtain ⟨M4, p4, rfl⟩ : ∃ M4 p4, M' = M4 ++ [p4] := ⟨M'.dropLast, M'.getLast (by intro z; rw [z] at hlen; simp at hlen), (List.dropLast_concat_getLast _).symm⟩
    have h4 : M4.length = M.length := by simpa using hlen
    obtain ⟨A', eA⟩ := af.rt M.length (.ref D) [D] (by simp)
    have e4 : p4 = (.ref D, A') := by rw [← h4] at eA; simpa using eA
    have hm4 : M4.length = m''.length := by have := af.rel.own.len; rw [em] at this; simpa using this
    have o4 := af.rel.own.own M4.length p4 (.flat (.lst acc)) (by simp) (by rw [em, hm4]; simp)
    rw [e4] at o4
    cases o4 with
    | flatL h1 h2 =>
      refine ⟨M4, by rw [e4], fun k u C h => ?_, h4.trans ln⟩
      obtain ⟨C', h'⟩ := rt k u C h
      have hk : k < M.length := (List.getElem?_eq_some_iff.mp h').1
      obtain ⟨C2, h2⟩ := af.rt k u C' (by rw [List.getElem?_append_left hk]; exact h')
      exact ⟨C2, by rw [List.getElem?_append_left (by omega)] at h2; exact h2⟩
  cases b with
  | false =>
    obtain ⟨m'', em, hw'⟩ := q3
    obtain ⟨M4, rfl, rt4, ln4⟩ := lastM a3 em
    exact ⟨acc, m'', M4, by rw [← em]; exact a3.rel.own, st.trans a3.st, rt4, ln4, hw'⟩
  | true =>
    refine ⟨_, _, _, a3.rel, q3, fun z u s'' H4 M4 a4 rz q4 => ?_⟩
    obtain ⟨nz, hz, m'', em, hw'⟩ := q4
    have a34 := a3.trans a4
    obtain ⟨M5, rfl, rt5, ln5⟩ := lastM a34 em
    have hm5 : M5.length = m''.length := by have := a4.rel.own.len; rw [em] at this; simpa using this
    have em5 : s''.m[M5.length]? = some (some (.flat (.lst acc))) := by rw [em, hm5]; simp
    obtain ⟨q, ws, eq, _, h1, r1, put⟩ := LstAt.flat.view a4.rel em5 (v := .ref D) (A := [D]) (by simp)
    cases eq
    have a5 := put (acc ++ [z]) (ws ++ [u]) (fun w m => (List.mem_append.mp m).elim .inl fun m => .inr (by cases List.mem_singleton.mp m; exact nz)) (r1.append (.cons (rz.rep (noLocs_ok nz z List.mem_cons_self)) .nil))
    refine ⟨ws, h1, by rw [← r1.length]; exact hz, acc ++ [z], m'', M5, ?_, (st.trans a34.st).trans a5.st, rt5, ln5, hw'⟩
    have := a5.rel.own
    rw [em, hm5] at this
    simpa using this
section
variable {X : Cx} {B : Bs} {elt iter : Expr} {ifs : List Expr} {scope : Scope} {pos px : Pos} {ti te : TVE} {tt : TVT} {x : Str}
def tvLc (j : Nat) (ti : TVE) (tt : TVT) (te : TVE) : TVF := fun Q s => ti (fun x s1 => ∃ xs, (x = .lst xs ∨ x = .cl xs) ∧ ∃ W : Nat → List PV → Ms → Prop, W 0 [] s1.m ∧ (∀ i y acc m, xs[i]? = some y → W i acc m → lcTurn j tt te s1.r W i y acc m) ∧ ∀ acc m, W xs.length acc m → Q (.flat (.lst acc)) ⟨s1.r, m⟩) s
theorem vf_lc (j : Nat) (hc : X.calm = true) (hN : X.N.Nodup) (hi : VE X B iter ti) (ok : BlkOk X.N X.env.scope scope [(x, j)])
    (hg : ∀ (s : Shared) (H : Hp) (C : Addr) (cl : List (Str × Addr)) (fp : List Addr), PG (X.blk s H scope (compEnvC scope cl C X.env) fp) (.Name x px) (gName j))
    (ht : ∀ (s : Shared) (H : Hp) (C : Addr) (cl : List (Str × Addr)) (fp : List Addr), VTs (X.blk s H scope (compEnvC scope cl C X.env) fp) B ifs tt)
    (he : ∀ (s : Shared) (H : Hp) (C : Addr) (cl : List (Str × Addr)) (fp : List Addr), VE (X.blk s H scope (compEnvC scope cl C X.env) fp) B elt te) (hs : ∀ x, foldedSetIterable iter X.env x = pure x := by intro _; rfl) :
    VF X B (.ListComp elt [⟨.Name x px, iter, ifs, 0⟩] scope pos) (tvLc j ti tt te) := by
  obtain ⟨T, p, w⟩ := hi
  refine ⟨_, pe_lc (own := [(x, j)]) (g := gName j) (tt := starT X.K B tt) (te := starE X.K B te) hc hN (pi_list p) ok hg (fun s H C cl fp => ht s H C cl fp) (fun s H C cl fp => (he s H C cl fp).star) hs, fun Qp Q s σ H M R hh k => ?_⟩
  refine w _ _ s σ H M R hh fun y v s1 H1 M1 a1 r1 q1 => ?_
  obtain ⟨xs, ex, W, w0, turn, fin⟩ := q1
  have view : ∃ a ws, v = .ref a ∧ SqL X.K (FS B.D M1 H1) a ws ∧ Reps X.K (FS B.D M1 H1) xs ws := by
    rcases ex with rfl | rfl
    · have r := r1.rep (fun _ z => nomatch z)
      cases r with
      | lst h1 h2 => exact ⟨_, _, rfl, .inl (.inl h1), h2⟩
    · have r := r1.rep (fun _ z => nomatch z)
      cases r with
      | cl h1 h2 => exact ⟨_, _, rfl, h1, h2⟩
  obtain ⟨a, ws, rfl, sq, rr⟩ := view
  refine ⟨a, rfl, ⟨_, FS_le.sqL sq⟩, fun D hD => ?_⟩
  have p0 := a1.rel.pushL hD (.nil (K := X.K))
  refine lc_list (K := X.K) (a := a) (xs := ws) (fun i H => LcI X.K B M1 H1 D W i H) ⟨[], s1.m, M1, p0.rel.own, p0.st, .refl, rfl, w0⟩ (fun i H _ ⟨acc, m, M', ow, st, _⟩ => FS_le.sqL (st.le.sqL sq)) (fun i u H' hu I => ?_) fun H' ⟨acc, m, M', ow, st, rt, ln, hw⟩ => ?_
  · have hlt : i < ws.length := (List.getElem?_eq_some_iff.mp hu).1
    have hz : xs[i]? = some (xs[i]'(by rw [rr.length]; exact hlt)) := List.getElem?_eq_getElem _
    obtain ⟨u', h1, h2⟩ := rr.get hz
    rw [hu] at h1; cases h1
    exact lc_turn a1.rel (fun acc m hw => turn i _ acc m hz hw) I fun M' H'' st => .inr (h2.le st.le)
  · have rt' : Roots M1 (M' ++ [(V.ref D, [D])]) := fun k u C h => by
      obtain ⟨C', h'⟩ := rt k u C h
      exact ⟨C', by rw [List.getElem?_append_left (List.getElem?_eq_some_iff.mp h').1]; exact h'⟩
    exact k _ (.ref D) [D] ⟨s1.r, m⟩ H' M' ⟨a1.rel.mk' st rt' ow, a1.st.trans st, a1.rt.trans rt, ln.trans a1.ln, a1.rr⟩ (fin acc m (by rw [rr.length]; exact hw))
/-- .. over range(n) -/
def tvLcR (j : Nat) (ti : TVA) (tt : TVT) (te : TVE) : TVF := fun Q s => ti (fun ns s1 => match ns with
  | [.int z] => -(2 ^ 62) ≤ z ∧ z < 2 ^ 62 ∧ ∃ W : Nat → List PV → Ms → Prop, W 0 [] s1.m ∧ (∀ i acc m, i < z.toNat → W i acc m → lcTurn j tt te s1.r W i (.int (0 + i)) acc m) ∧ ∀ acc m, W z.toNat acc m → Q (.flat (.lst acc)) ⟨s1.r, m⟩
  | _ => False) s
theorem vf_lcR (j : Nat) {a : Expr} {pp pq : Pos} {ti : TVA} (hc : X.calm = true) (hN : X.N.Nodup) (hm : X.mg "range" = none) (hi : VA X B [a] ti) (ok : BlkOk X.N X.env.scope scope [(x, j)])
    (hg : ∀ (s : Shared) (H : Hp) (C : Addr) (cl : List (Str × Addr)) (fp : List Addr), PG (X.blk s H scope (compEnvC scope cl C X.env) fp) (.Name x px) (gName j))
    (ht : ∀ (s : Shared) (H : Hp) (C : Addr) (cl : List (Str × Addr)) (fp : List Addr), VTs (X.blk s H scope (compEnvC scope cl C X.env) fp) B ifs tt)
    (he : ∀ (s : Shared) (H : Hp) (C : Addr) (cl : List (Str × Addr)) (fp : List Addr), VE (X.blk s H scope (compEnvC scope cl C X.env) fp) B elt te) (hgl : Gl X "range") (hst : starEach [a] X.env = [(false, eval a X.env)] := by rfl) (hs : ∀ x, foldedSetIterable (.Call (.Name "range" pp) [a] [] pq) X.env x = pure x := by intro _; rfl) :
    VF X B (.ListComp elt [⟨.Name x px, .Call (.Name "range" pp) [a] [] pq, ifs, 0⟩] scope pos) (tvLcR j ti tt te) := by
  obtain ⟨T, p, w⟩ := hi
  refine ⟨_, pe_lc (own := [(x, j)]) (g := gName j) (tt := starT X.K B tt) (te := starE X.K B te) hc hN (pi_range1 hgl hm p hst) ok hg (fun s H C cl fp => ht s H C cl fp) (fun s H C cl fp => (he s H C cl fp).star) hs, fun Qp Q s σ H M R hh k => ?_⟩
  refine w _ _ s σ H M R hh fun ys vs s1 H1 M1 a1 r1 q1 => ?_
  split at q1
  · rename_i z
    obtain ⟨v, rfl, r⟩ := r1.one
    obtain ⟨z1, z2, W, w0, turn, fin⟩ := q1
    refine ⟨z, by rw [r.int], z1, z2, fun D hD => ?_⟩
    have p0 := a1.rel.pushL hD (.nil (K := X.K))
    refine lc_range (lo := 0) (n := z.toNat) (fun i H => LcI X.K B M1 H1 D W i H) ⟨[], s1.m, M1, p0.rel.own, p0.st, .refl, rfl, w0⟩ (fun i H' hi I => ?_) fun H' ⟨acc, m, M', ow, st, rt, ln, hw⟩ => ?_
    · exact lc_turn a1.rel (fun acc m hw => turn i acc m hi hw) I fun M' H'' st => .inr (.int _)
    · have rt' : Roots M1 (M' ++ [(V.ref D, [D])]) := fun k u C h => by
        obtain ⟨C', h'⟩ := rt k u C h
        exact ⟨C', by rw [List.getElem?_append_left (List.getElem?_eq_some_iff.mp h').1]; exact h'⟩
      exact k _ (.ref D) [D] ⟨s1.r, m⟩ H' M' ⟨a1.rel.mk' st rt' ow, a1.st.trans st, a1.rt.trans rt, ln.trans a1.ln, a1.rr⟩ (fin acc m hw)
  · exact q1.elim
end
end VS
namespace VS
open PySem PySem.Spec PyProof.Rows L2
/-! ### dicts -/
def mkD (kvs : List (Key × PV)) : PV := .dct (kvs.map Prod.fst) (kvs.map Prod.snd)
def valA {β : Type} (kvs : List (Key × β)) (k : Key) : Option β := (kvs.find? fun kv => decide (kv.1 = k)).map (·.2)
def putA {β : Type} (kvs : List (Key × β)) (k : Key) (v : β) : List (Key × β) :=
  if (kvs.any fun kv => decide (kv.1 = k)) = true then kvs.map (fun kv => if kv.1 = k then (kv.1, v) else kv) else kvs ++ [(k, v)]
def keyOf : PV → Option Key
  | .int i => some (.inl i)
  | .str x => some (.inr x)
  | _ => none
theorem keyOf_v {K : PySem.W.Frag} {F : Hp} {M : Locs} {y : PV} {v : V} {k : Key} (h : RepL K F M y v) (e : keyOf y = some k) : v = kV k := by
  cases y with
  | int i => cases e; exact h.int
  | str x =>
    cases e
    rcases h with ⟨_, _, z, _⟩ | h
    · cases z
    · cases h; rfl
  | _ => cases e
/-- the pairs of values beside the pairs of the heap -/
theorem Reps.pairs {K : PySem.W.Frag} {F : Hp} : ∀ {kvs : List (Key × PV)} {ws : List V}, Reps K F (kvs.map Prod.snd) ws → ∃ us : List (Key × V), (kvs.map Prod.fst).zip ws = us ∧ us.length = kvs.length
  | kvs, ws, r => ⟨_, rfl, by rw [List.length_zip, ← r.length]; simp⟩
theorem val_rep {K : PySem.W.Frag} {F : Hp} {k : Key} : ∀ {kvs : List (Key × PV)} {ws : List V}, Reps K F (kvs.map Prod.snd) ws → (∀ z, valA kvs k = some z → ∃ u, valV ((kvs.map Prod.fst).zip ws) k = some u ∧ Rep K F z u) ∧ (valA kvs k = none → valV ((kvs.map Prod.fst).zip ws) k = none)
  | [], _, h => by cases h; exact ⟨fun z e => (nomatch e), fun _ => rfl⟩
  | (k', x) :: kvs, _, h => by
    cases h with
    | cons a b =>
      have ih := val_rep (k := k) b
      by_cases e : k' = k
      · subst e
        refine ⟨fun z hz => ?_, fun hz => ?_⟩
        · have : valA ((k', x) :: kvs) k' = some x := by simp [valA]
          rw [this] at hz; cases hz
          exact ⟨_, by simp [valV], a⟩
        · have : valA ((k', x) :: kvs) k' = some x := by simp [valA]
          rw [this] at hz; cases hz
      · have e1 : valA ((k', x) :: kvs) k = valA kvs k := by simp [valA, List.find?_cons, e]
        rw [e1]
        refine ⟨fun z hz => ?_, fun hz => ?_⟩
        · obtain ⟨u, h1, h2⟩ := ih.1 z hz
          exact ⟨u, by rw [← h1]; simp [valV, List.find?_cons, e], h2⟩
        · rw [← ih.2 hz]; simp [valV, List.find?_cons, e]
theorem any_zip {k : Key} : ∀ {kvs : List (Key × PV)} {ws : List V}, kvs.length = ws.length → (((kvs.map Prod.fst).zip ws).any fun kv => decide (kv.1 = k)) = kvs.any fun kv => decide (kv.1 = k)
  | [], [], _ => rfl
  | (k', x) :: kvs, w :: ws, h => by
    simp only [List.map_cons, List.zip_cons_cons, List.any_cons, any_zip (k := k) (kvs := kvs) (ws := ws) (by simpa using h)]
  | [], _ :: _, h => by simp at h
  | _ :: _, [], h => by simp at h
theorem put_map {K : PySem.W.Frag} {F : Hp} {k : Key} {v : V} {x : PV} (rx : Rep K F x v) : ∀ {kvs : List (Key × PV)} {ws : List V}, Reps K F (kvs.map Prod.snd) ws → ∃ ws', ((kvs.map Prod.fst).zip ws).map (fun kv => if kv.1 = k then (kv.1, v) else kv) = ((kvs.map fun kv => if kv.1 = k then (kv.1, x) else kv).map Prod.fst).zip ws' ∧ Reps K F ((kvs.map fun kv => if kv.1 = k then (kv.1, x) else kv).map Prod.snd) ws'
  | [], _, h => by cases h; exact ⟨[], rfl, .nil⟩
  | (k', y) :: kvs, _, h => by
    cases h with
    | cons a b =>
      rename_i v0 vs0
      obtain ⟨ws', h1, h2⟩ := put_map (k := k) rx b
      by_cases e : k' = k
      · refine ⟨v :: ws', ?_, ?_⟩
        · simp only [List.map_cons, List.zip_cons_cons, if_pos e]; rw [h1]
        · simp only [List.map_cons, if_pos e]; exact .cons rx h2
      · refine ⟨v0 :: ws', ?_, ?_⟩
        · simp only [List.map_cons, List.zip_cons_cons, if_neg e]; rw [h1]
        · simp only [List.map_cons, if_neg e]; exact .cons a h2
theorem put_rep {K : PySem.W.Frag} {F : Hp} {k : Key} {v : V} {x : PV} (rx : Rep K F x v) {kvs : List (Key × PV)} {ws : List V} (r : Reps K F (kvs.map Prod.snd) ws) : ∃ ws', putK ((kvs.map Prod.fst).zip ws) k v = ((putA kvs k x).map Prod.fst).zip ws' ∧ Reps K F ((putA kvs k x).map Prod.snd) ws' := by
  have hl : kvs.length = ws.length := by have := r.length; simpa using this
  unfold putK putA
  rw [any_zip hl]
  by_cases c : (kvs.any fun kv => decide (kv.1 = k)) = true
  · rw [if_pos c, if_pos c]
    exact put_map rx r
  · rw [if_neg c, if_neg c]
    refine ⟨ws ++ [v], ?_, ?_⟩
    · rw [List.map_append, List.zip_append (by simpa using hl)]; rfl
    · rw [List.map_append]; exact r.append (.cons rx .nil)
section
variable {K : PySem.W.Frag} {B : Bs} {M : Locs} {s : S} {σ : L2.St} {H : Hp} {x : PV} {v : V}
theorem Rel.flatD (R : Rel K B M s σ H) (h : RepL K (FS B.D M H) M x v) {ks : List Key} {xs : List PV} (e : s.flat x = .dct ks xs) : ∃ a ws, v = .ref a ∧ Rd H a (.dK (ks.zip ws)) ∧ ks.length = ws.length ∧ Reps K (FS B.D M H) xs ws := by
  rcases h with ⟨k, A, rfl, q⟩ | h
  · cases z : s.m[k]? with
    | none => simp [S.flat, z] at e
    | some o =>
      cases o with
      | none => simp [S.flat, z] at e
      | some l =>
        have ow := R.own.own k _ l q z
        cases l with
        | flat y =>
          simp [S.flat, z] at e
          subst e
          cases ow with
          | flatD h1 h2 h3 => exact ⟨_, _, rfl, .inl h1, h2, h3⟩
        | deep y =>
          simp only [S.flat, z] at e
          by_cases c : kidsLf y = true
          · rw [if_pos c] at e
            subst e
            cases ow with
            | deep h1 =>
              cases h1 with
              | dct h2 h3 h4 h5 =>
                have eA := own_nil c h4
                subst eA
                exact ⟨_, _, rfl, .inl h2, h3, h4.rep (Le.refl _) _ _ _ (fun a m => by cases m)⟩
          · rw [if_neg c] at e; cases e
  · cases x with
    | loc k => exact (not_loc h).elim
    | dct ks' ys =>
      cases e
      cases h with
      | dct h1 h2 h3 => exact ⟨_, _, rfl, FS_le.rd h1, h2, h3⟩
    | _ => cases e
end
section
variable {X : Cx} {B : Bs} {a b c e o i f : Expr} {es : List Expr} {ta tb tc te to ti tf : TVE} {pos p p2 apos cpos : Pos} {t u : TVS}
def tvDNew : TVF := fun Q s => Q (.flat (.dct [] [])) s
theorem vf_dnew : VF X B (.Dict [] [] pos) tvDNew := by
  refine ⟨_, pe_dnewK, fun Qp Q s σ H M R ht k => fun q hq => ?_⟩
  exact k _ _ _ s _ M (R.pushD (ks := []) (ws := []) hq rfl .nil) ht
/-- d[k] -/
def tvDGet (to ti : TVE) : TVE := fun Q s => to (fun x s1 => ti (fun y s2 => ∃ kvs k z, s2.flat x = mkD kvs ∧ keyOf y = some k ∧ valA kvs k = some z ∧ Q z s2) s1) s
theorem ve_dget {n : Nat} (hr : Room n X.A) (ho : VE X B o to) (hi : VE X B i ti) (hs : NoSl i := by exact fun _ _ => rfl) : VE X B (.Subscript o i pos) (tvDGet to ti) := by
  obtain ⟨T, p, w⟩ := ho
  obtain ⟨T2, p2, w2⟩ := hi
  refine ⟨_, pe_dget (hu_of hr) p p2 hs, fun Qp Q s σ H M R ht k => ?_⟩
  refine w _ _ s σ H M R ht fun x v s1 H1 M1 a1 r1 q1 => ?_
  refine w2 _ _ s1 σ H1 M1 a1.rel q1 fun y u s2 H2 M2 a2 r2 q2 => ?_
  obtain ⟨kvs, k', z, e1, e2, e3, q⟩ := q2
  obtain ⟨a, ws, rfl, h1, h2, h3⟩ := a2.rel.flatD (a2.repl r1) e1
  obtain ⟨u', h4, h5⟩ := (val_rep (k := k') h3).1 z e3
  exact ⟨a, u', rfl, .inl ⟨_, k', h1, keyOf_v r2 e2, h4.symm⟩, k z u' s2 H2 M2 (a1.trans a2) (.inr h5) q⟩
/-- k in d, k not in d -/
def tvDIn (g : Bool → Bool) (ti to : TVE) : TVE := fun Q s => ti (fun y s1 => to (fun x s2 => ∃ kvs k, s2.flat x = mkD kvs ∧ keyOf y = some k ∧ Q (.bl (g (valA kvs k).isSome)) s2) s1) s
theorem din_core {kvs : List (Key × PV)} {k' : Key} {K : PySem.W.Frag} {M2 : Locs} {s2 : S} {σ : L2.St} {H2 : Hp} {x y : PV} {v u : V} (R : Rel K B M2 s2 σ H2) (r1 : RepL K (FS B.D M2 H2) M2 x v) (r2 : RepL K (FS B.D M2 H2) M2 y u) (e1 : s2.flat x = mkD kvs) (e2 : keyOf y = some k') : ∃ a o, v = .ref a ∧ DGet H2 a u o ∧ o.isSome = (valA kvs k').isSome := by
  obtain ⟨a, ws, rfl, h1, h2, h3⟩ := R.flatD r1 e1
  refine ⟨a, _, rfl, .inl ⟨_, k', h1, keyOf_v r2 e2, rfl⟩, ?_⟩
  cases q : valA kvs k' with
  | none => rw [(val_rep h3).2 q]; rfl
  | some z =>
    obtain ⟨u', h4, _⟩ := (val_rep h3).1 z q
    rw [h4]; rfl
theorem ve_din {n : Nat} (hr : Room n X.A) (hi : VE X B i ti) (ho : VE X B o to) (hm : behindInMarks .In o = false := by rfl) : VE X B (.Compare i [.In] [o] pos) (tvDIn id ti to) := by
  obtain ⟨T, p, w⟩ := hi
  obtain ⟨T2, p2, w2⟩ := ho
  refine ⟨_, pe_cmp (pc_din (hu_of hr) p p2) hm, fun Qp Q s σ H M R ht k => ?_⟩
  refine w _ _ s σ H M R ht fun y u s1 H1 M1 a1 r1 q1 => ?_
  refine w2 _ _ s1 σ H1 M1 a1.rel q1 fun x v s2 H2 M2 a2 r2 q2 => ?_
  obtain ⟨kvs, k', e1, e2, q⟩ := q2
  obtain ⟨a, ov, rfl, h1, h2⟩ := din_core a2.rel r2 (a2.repl r1) e1 e2
  refine ⟨a, ov, rfl, h1, ?_⟩
  rw [h2]
  exact k _ _ s2 H2 M2 (a1.trans a2) (.inr (.bl _)) q
theorem ve_dnotin {n : Nat} (hr : Room n X.A) (hi : VE X B i ti) (ho : VE X B o to) (hm : behindInMarks .NotIn o = false := by rfl) : VE X B (.Compare i [.NotIn] [o] pos) (tvDIn not ti to) := by
  obtain ⟨T, p, w⟩ := hi
  obtain ⟨T2, p2, w2⟩ := ho
  refine ⟨_, pe_cmp (pc_dnotin (hu_of hr) p p2) hm, fun Qp Q s σ H M R ht k => ?_⟩
  refine w _ _ s σ H M R ht fun y u s1 H1 M1 a1 r1 q1 => ?_
  refine w2 _ _ s1 σ H1 M1 a1.rel q1 fun x v s2 H2 M2 a2 r2 q2 => ?_
  obtain ⟨kvs, k', e1, e2, q⟩ := q2
  obtain ⟨a, ov, rfl, h1, h2⟩ := din_core a2.rel r2 (a2.repl r1) e1 e2
  refine ⟨a, ov, rfl, h1, ?_⟩
  rw [h2]
  exact k _ _ s2 H2 M2 (a1.trans a2) (.inr (.bl _)) q
/-- d[k] = v -/
inductive DctAt : LK → List (Key × PV) → (PV → Bool) → (List (Key × PV) → LK) → Prop
  | flat {kvs : List (Key × PV)} : DctAt (.flat (mkD kvs)) kvs (fun y => noLocs [y]) (fun l => .flat (mkD l))
  | deep {kvs : List (Key × PV)} : PV.lfs (kvs.map Prod.snd) = true → DctAt (.deep (mkD kvs)) kvs (fun y => y.lf) (fun l => .deep (mkD l))
theorem DctAt.noloc {l : LK} {kvs : List (Key × PV)} {may : PV → Bool} {mk : List (Key × PV) → LK} (L : DctAt l kvs may mk) {y : PV} (h : may y = true) : ∀ k, y ≠ .loc k := by
  cases L with
  | flat => exact noLocs_ok h y List.mem_cons_self
  | deep _ => exact lf_noloc h
theorem putA_mem {k : Key} {x : PV} : ∀ {kvs : List (Key × PV)} {y : PV}, y ∈ (putA kvs k x).map Prod.snd → y ∈ kvs.map Prod.snd ∨ y = x := fun {kvs y} h => by
  unfold putA at h
  by_cases c : (kvs.any fun kv => decide (kv.1 = k)) = true
  · rw [if_pos c] at h
    obtain ⟨p, hp, rfl⟩ := List.mem_map.mp h
    obtain ⟨q, hq, rfl⟩ := List.mem_map.mp hp
    by_cases e : q.1 = k
    · rw [if_pos e]; exact .inr rfl
    · rw [if_neg e]; exact .inl (List.mem_map.mpr ⟨q, hq, rfl⟩)
  · rw [if_neg c, List.map_append] at h
    rcases List.mem_append.mp h with h | h
    · exact .inl h
    · exact .inr (List.mem_singleton.mp h)
theorem DctAt.view {K : PySem.W.Frag} {M : Locs} {s : S} {σ : L2.St} {H : Hp} {k : Nat} {l : LK} {kvs : List (Key × PV)} {may : PV → Bool} {mk : List (Key × PV) → LK} (L : DctAt l kvs may mk) (R : Rel K B M s σ H) (hm : s.m[k]? = some (some l)) {v : V} {A : List Addr} (hM : M[k]? = some (v, A)) :
    ∃ q ws, v = .ref q ∧ A = [q] ∧ H q = some (.dK ((kvs.map Prod.fst).zip ws)) ∧ Reps K (FS B.D M H) (kvs.map Prod.snd) ws ∧ ∀ ys us, (∀ y ∈ ys.map Prod.snd, y ∈ kvs.map Prod.snd ∨ may y = true) → Reps K (FS B.D M H) (ys.map Prod.snd) us → Aft K B M s σ H M ⟨s.r, s.m.set k (some (mk ys))⟩ (upd H q (.dK ((ys.map Prod.fst).zip us))) := by
  have ow := R.own.own k _ l hM hm
  have hk := (List.getElem?_eq_some_iff.mp hm).1
  cases L with
  | flat =>
    cases ow with
    | flatD h1 h2 h3 =>
      refine ⟨_, _, rfl, rfl, h1, h3, fun ys us _ r => R.put hM hk List.mem_cons_self (.flatD upd_same (by have := r.length; simpa using this) (r.le (FS_upd_le ⟨_, List.mem_iff_getElem?.mpr ⟨k, hM⟩, List.mem_cons_self⟩)))⟩
  | deep hl =>
    cases ow with
    | deep h =>
      cases h with
      | dct h1 h2 h3 h4 =>
        have e := own_nil hl h3
        subst e
        have r1 := h3.rep (Le.refl _) _ _ _ (fun a m => by cases m)
        refine ⟨_, _, rfl, rfl, h1, r1, fun ys us hy r => R.put hM hk List.mem_cons_self (.deep (.dct upd_same (by have := r.length; simpa using this) (OwnDs.of_lf _ us (PV.lfs_of fun y m => ?_) (r.le (FS_upd_le ⟨_, List.mem_iff_getElem?.mpr ⟨k, hM⟩, List.mem_cons_self⟩))) (by simp)))⟩
        rcases hy y m with z | z
        · exact lf_mem hl y z
        · exact z
def tvDPut (te to ti : TVE) : TVS := fun d s => te (fun y s1 => to (fun x s2 => ti (fun z s3 => ∃ k l kvs may mk ky, x = .loc k ∧ s3.m[k]? = some (some l) ∧ DctAt l kvs may mk ∧ keyOf z = some ky ∧ may y = true ∧ kvs.length < sizeLine ∧ d.nx ⟨s3.r, s3.m.set k (some (mk (putA kvs ky y)))⟩) s2) s1) s
theorem vs_dput {n : Nat} {tg : Pos} (hr : Room n X.A) (he : VE X B e te) (ho : VE X B o to) (hi : VE X B i ti) (hs : swapsWith e (some (.Subscript o i tg)) pos.line X.env = pure false := by rfl) : VS1 X B (.Assign [.Subscript o i tg] e pos) (tvDPut te to ti) := by
  obtain ⟨T, p, w⟩ := he
  obtain ⟨T2, p2, w2⟩ := ho
  obtain ⟨T3, p3, w3⟩ := hi
  refine ⟨_, ps_dput (hu_of hr) p2 p3 p hs, fun d D s σ H M F0 R le ht kk => ?_⟩
  refine w _ _ s σ H M R ht fun y v s1 H1 M1 a1 r1 q1 => ?_
  refine w2 _ _ s1 σ H1 M1 a1.rel q1 fun x v2 s2 H2 M2 a2 r2 q2 => ?_
  refine w3 _ _ s2 σ H2 M2 a2.rel q2 fun z v3 s3 H3 M3 a3 r3 q3 => ?_
  obtain ⟨k, l, kvs, may, mk, ky, rfl, e3, L, ek, hy, hlen, q⟩ := q3
  have r2 := a3.repl r2
  rcases r2 with ⟨k', A, ek', hM⟩ | r2
  · cases ek'
    obtain ⟨q', ws, rfl, rfl, h2, rr, put⟩ := L.view a3.rel e3 hM
    have ry := ((a2.trans a3).repl r1).rep (L.noloc hy)
    obtain ⟨ws', h3, r4⟩ := put_rep (k := ky) ry rr
    have hl : ((kvs.map Prod.fst).zip ws).length < sizeLine := by
      rw [List.length_zip, ← rr.length]; simpa using hlen
    refine ⟨q', _, rfl, .inl ⟨_, ky, h2, keyOf_v r3 ek, hl, rfl⟩, ?_⟩
    rw [h3]
    have a4 := put (putA kvs ky y) ws' (fun w' m => (putA_mem m).elim .inl fun z => .inr (by rw [z]; exact hy)) r4
    have aa := ((a1.trans a2).trans a3).trans a4
    exact kk.nx _ _ _ _ aa.rel (aa.fz le) q
  · exact (not_loc r2).elim
/-! ### int, sorted -/
theorem pc_int : PCall X B (fun xs H Q => (∃ i, xs = [.int i] ∧ Q (.int i) H) ∨ ∃ k, xs = [.bl k] ∧ Q (.int (if k then 1 else 0)) H) gInt := by
  intro s σ H M xs vs Qp Q R hx g k
  unfold gInt at g
  split at g
  · obtain ⟨v, rfl, r⟩ := hx.one
    exact .inl ⟨_, by rw [r.int], k _ _ H (Le.refl H) (.int _) g⟩
  · obtain ⟨v, rfl, r⟩ := hx.one
    rcases r with ⟨_, _, e, _⟩ | r
    · cases e
    · cases r
      exact .inr ⟨_, rfl, k _ _ H (Le.refl H) (.int _) g⟩
  · exact g.elim
def gSort : GCF := fun s xs Q => match xs with
  | [x] => ∃ ns : List Int, (s.look x = nums ns ∨ s.look x = .cl (ns.map PV.int)) ∧ ∀ ns' : List Int, ns'.Perm ns → ns'.Pairwise (· ≤ ·) → Q (.flat (nums ns'))
  | _ => False
theorem fc_sort : FCall X B (rSortedI X.K) gSort := by
  intro s σ H M xs vs Qp Q R hx g k
  unfold gSort at g
  split at g
  · obtain ⟨v, rfl, r⟩ := hx.one
    obtain ⟨ns, e, q⟩ := g
    obtain ⟨p, rfl, sq⟩ := look_ints R r e
    exact ⟨p, ns, rfl, sq, fun ns' p' h1 h2 hp => k _ _ _ _ (R.pushL hp (Reps.ints ns')) (q ns' h1 h2)⟩
  · exact g.elim
/-! ### and, or as values; x if t else y -/
def tvIfE (c : TVT) (ta tb : TVE) : TVE := fun Q s => c (fun b s' => if b = true then ta Q s' else tb Q s') s
theorem ve_if {tc : TVT} (hc : VT X B c tc) (ha : VE X B a ta) (hb : VE X B b tb) : VE X B (.IfExp c a b pos) (tvIfE tc ta tb) := by
  obtain ⟨T, p, w⟩ := hc
  obtain ⟨T1, p1, w1⟩ := ha
  obtain ⟨T2, p2, w2⟩ := hb
  refine ⟨_, pe_ifExp p p1 p2, fun Qp Q s σ H M R ht k => w _ _ s σ H M R ht fun d s1 H1 M1 a1 q1 => ?_⟩
  cases d with
  | true => exact w1 _ _ s1 σ H1 M1 a1.rel q1 fun x v s2 H2 M2 a2 r2 q2 => k x v s2 H2 M2 (a1.trans a2) r2 q2
  | false => exact w2 _ _ s1 σ H1 M1 a1.rel q1 fun x v s2 H2 M2 a2 r2 q2 => k x v s2 H2 M2 (a1.trans a2) r2 q2
end
end VS
namespace VS
open PySem PySem.Spec PyProof.Rows L2
section
variable {X : Cx} {B : Bs} {a b c e o i f : Expr} {es : List Expr} {ta tb tc te to ti tf : TVE} {pos p p2 apos cpos : Pos} {t u : TVS}
theorem vv (i : Nat) {x : Str} {pos : Pos} (hN : X.N[i]? = some x := by rfl) (hv : Vis X.env.scope x := by first | exact Or.inl rfl | exact Or.inr (Or.inl rfl) | exact Or.inr (Or.inr rfl)) (hd : (x == ("__debug__" : Str)) = false := by decide)
    (hcd : (x == ("__classdict__" : Str)) = false := by decide) : VE X B (.Name x pos) (tvVar i) := ve_var i hN hv hd hcd
theorem takes0v : Takes X (WP X.K B fun _ _ => False) := Takes.imp takes0 fun c d σ H h => by
  obtain ⟨_, s, M, R, hf⟩ := h
  exact hf
theorem vs_augA (i : Nat) {x : Str} {pos' : Pos} (hN : X.N.Nodup) (h : VE X B e te) (hi : X.N[i]? = some x) (hx : Loc X.env.scope x) (hf : X.fn x = true ∨ X.env.scope.names.lookup x = some .local := by first | exact .inl rfl | exact .inr rfl | assumption) :
    VS1 X B (.AugAssign (.Name x pos') .Add e pos) (tvAug i (gI0 fun i j => .int (i + j)) te) := vs_aug i iop_add (pop_I0 fun i j _ => .int _) hN h hi hx hf
theorem vs_augS (i : Nat) {x : Str} {pos' : Pos} (hN : X.N.Nodup) (h : VE X B e te) (hi : X.N[i]? = some x) (hx : Loc X.env.scope x) (hf : X.fn x = true ∨ X.env.scope.names.lookup x = some .local := by first | exact .inl rfl | exact .inr rfl | assumption) :
    VS1 X B (.AugAssign (.Name x pos') .Sub e pos) (tvAug i (gI0 fun i j => .int (i - j)) te) := vs_aug i iop_sub (pop_I0 fun i j _ => .int _) hN h hi hx hf
theorem vs_doc {x : Str} {j : Nat} {pos' : Pos} : VS1 X B (.Expr (.Constant (.str x) j pos) pos') (fun d s => d.nx s) := ⟨_, ps_doc, fun d D s σ H M F0 R l ht k => k.nx s σ H M R l ht⟩
/-! bools as values -/
theorem RepL.bl {K : PySem.W.Frag} {F : Hp} {M : Locs} {b : Bool} {v : V} (h : RepL K F M (.bl b) v) : v = .bl b := by
  rcases h with ⟨k, A, e, _⟩ | h
  · cases e
  · cases h; rfl
def tvNotV (t : TVE) : TVE := fun Q s => t (fun x s' => match x with | .bl b => Q (.bl (!b)) s' | _ => False) s
theorem ve_not (h : VE X B a ta) : VE X B (.UnaryOp .Not a pos) (tvNotV ta) := by
  obtain ⟨T, p, w⟩ := h
  refine ⟨_, pe_not p, fun Qp Q s σ H M R ht k => w _ _ s σ H M R ht fun x v s1 H1 M1 a1 r1 q1 => ?_⟩
  cases x with
  | bl b => exact ⟨b, r1.bl, k _ _ s1 H1 M1 a1 (.inr (.bl _)) q1⟩
  | _ => exact q1.elim
theorem ve_one {op : BoolOp} (h : VE X B a ta) : VE X B (.BoolOp op [a] pos) ta := by
  obtain ⟨T, p, w⟩ := h
  exact ⟨T, pe_one p, w⟩
def tvAndV (t u : TVE) : TVE := fun Q s => t (fun x s' => match x with | .bl b => (if b = true then u Q s' else Q (.bl false) s') | _ => False) s
def tvOrV (t u : TVE) : TVE := fun Q s => t (fun x s' => match x with | .bl b => (if b = true then Q (.bl true) s' else u Q s') | _ => False) s
theorem ve_and {rest : List Expr} (h : VE X B a ta) (g : VE X B (.BoolOp .And (b :: rest) pos) tb) : VE X B (.BoolOp .And (a :: b :: rest) pos) (tvAndV ta tb) := by
  obtain ⟨T, p, w⟩ := h
  obtain ⟨T2, p2, w2⟩ := g
  refine ⟨_, pe_and p p2, fun Qp Q s σ H M R ht k => w _ _ s σ H M R ht fun x v s1 H1 M1 a1 r1 q1 => ?_⟩
  cases x with
  | bl b =>
    refine ⟨b, r1.bl, ?_⟩
    cases b with
    | true => exact w2 _ _ s1 σ H1 M1 a1.rel q1 fun x v s2 H2 M2 a2 r2 q2 => k x v s2 H2 M2 (a1.trans a2) r2 q2
    | false => exact k _ _ s1 H1 M1 a1 (.inr (.bl _)) q1
  | _ => exact q1.elim
theorem ve_or {rest : List Expr} (h : VE X B a ta) (g : VE X B (.BoolOp .Or (b :: rest) pos) tb) : VE X B (.BoolOp .Or (a :: b :: rest) pos) (tvOrV ta tb) := by
  obtain ⟨T, p, w⟩ := h
  obtain ⟨T2, p2, w2⟩ := g
  refine ⟨_, pe_or p p2, fun Qp Q s σ H M R ht k => w _ _ s σ H M R ht fun x v s1 H1 M1 a1 r1 q1 => ?_⟩
  cases x with
  | bl b =>
    refine ⟨b, r1.bl, ?_⟩
    cases b with
    | false => exact w2 _ _ s1 σ H1 M1 a1.rel q1 fun x v s2 H2 M2 a2 r2 q2 => k x v s2 H2 M2 (a1.trans a2) r2 q2
    | true => exact k _ _ s1 H1 M1 a1 (.inr (.bl _)) q1
  | _ => exact q1.elim
/-! ### a tuple of one's own is taken apart: each item gets a number of its own -/
theorem OwnDs.split {K : PySem.W.Frag} {F H : Hp} : ∀ {xs : List PV} {vs : List V} {A : List Addr}, OwnDs K F H xs vs A → ∃ ps : Locs, ps.map Prod.fst = vs ∧ ps.length = xs.length ∧ ps.flatMap Prod.snd = A ∧ (∀ (i : Nat) p x, ps[i]? = some p → xs[i]? = some x → OwnD K F H x p.1 p.2) ∧ (∀ (i j : Nat) p q, ps[i]? = some p → ps[j]? = some q → i ≠ j → ∀ a ∈ p.2, a ∉ q.2)
  | [], _, _, h => by cases h; exact ⟨[], rfl, rfl, rfl, fun i p x h => (by simp at h), fun i j p q h => (by simp at h)⟩
  | x :: xs, _, _, h => by
    cases h with
    | cons h1 h2 d =>
      rename_i v vs A1 A2
      obtain ⟨ps, e1, e2, e3, e4, e5⟩ := OwnDs.split h2
      have inA2 : ∀ (j : Nat) q, ps[j]? = some q → ∀ a ∈ q.2, a ∈ A2 := fun j q hj a ha => by
        rw [← e3]; exact List.mem_flatMap.mpr ⟨q, List.mem_iff_getElem?.mpr ⟨j, hj⟩, ha⟩
      refine ⟨(v, A1) :: ps, by simp [e1], by simp [e2], by simp [e3], fun i p y hp hy => ?_, fun i j p q hi hj ne a ha hb => ?_⟩
      · cases i with
        | zero => cases hp; cases hy; exact h1
        | succ i => exact e4 i p y (by simpa using hp) (by simpa using hy)
      · cases i with
        | zero =>
          cases hi
          cases j with
          | zero => exact ne rfl
          | succ j => exact d a ha (inA2 j q (by simpa using hj) a hb)
        | succ i =>
          cases j with
          | zero => cases hj; exact d a hb (inA2 i p (by simpa using hi) a ha)
          | succ j => exact e5 i j p q (by simpa using hi) (by simpa using hj) (by omega) a ha hb
def locOr (n : Nat) : Nat → List PV → List PV
  | _, [] => []
  | k, x :: xs => (if x.lf then x else .loc (n + k)) :: locOr n (k + 1) xs
theorem Rel.split {K : PySem.W.Frag} {M : Locs} {s : S} {σ : L2.St} {H : Hp} {xs : List PV} {v : V} {A : List Addr} (R : Rel K B (M ++ [(v, A)]) ⟨s.r, s.m ++ [some (.deep (.tup xs))]⟩ σ H) (ho : ∀ (j : Nat) (x : PV), s.r[j]? = some (some x) → ∃ u, σ[j]? = some (some u) ∧ RepL K (FS B.D (M ++ [(v, A)]) H) M x u) (rt : Roots B.M0 M) :
    ∃ a ws, ∃ ps : Locs, v = .ref a ∧ SqT K H a ws ∧ ps.map Prod.fst = ws ∧ ps.length = xs.length ∧ Rel K B (M ++ ps) ⟨s.r, s.m ++ xs.map fun x => some (.deep x)⟩ σ H ∧ Le (FS B.D (M ++ [(v, A)]) H) (FS B.D (M ++ ps) H) := by
  have hln : M.length = s.m.length := by have := R.own.len; simpa using this
  have hx : ∃ a ws, v = .ref a ∧ SqT K (FS B.D (M ++ [(v, A)]) H) a ws ∧ OwnDs K (FS B.D (M ++ [(v, A)]) H) H xs ws A := by
    have ow := R.own.own M.length (v, A) (.deep (.tup xs)) (by simp) (by rw [hln]; simp)
    revert ow
    generalize FS B.D (M ++ [(v, A)]) H = F
    intro ow
    cases ow with
    | deep h =>
      cases h with
      | tup h1 h2 => exact ⟨_, _, rfl, h1, h2⟩
  obtain ⟨a0, ws0, ev, h1, h2⟩ := hx
  obtain ⟨ps, e1, e2, e3, e4, e5⟩ := OwnDs.split h2
  have mem : ∀ x, inM (M ++ ps) x ↔ inM (M ++ [(v, A)]) x := fun x => by
    constructor
    · rintro ⟨p, hp, hx⟩
      rcases List.mem_append.mp hp with h | h
      · exact inM_app.mpr (.inl ⟨p, h, hx⟩)
      · exact inM_app.mpr (.inr (by rw [← e3]; exact List.mem_flatMap.mpr ⟨p, h, hx⟩))
    · intro h
      rcases inM_app.mp h with ⟨p, hp, hx⟩ | h
      · exact ⟨p, List.mem_append_left _ hp, hx⟩
      · rw [← e3] at h
        obtain ⟨p, hp, hx⟩ := List.mem_flatMap.mp h
        exact ⟨p, List.mem_append_right _ hp, hx⟩
  have le : Le (FS B.D (M ++ [(v, A)]) H) (FS B.D (M ++ ps) H) := fun x u h => by
    obtain ⟨g1, g2, g3⟩ := FS_eq.mp h
    exact FS_eq.mpr ⟨g1, fun z => g2 ((mem x).mp z), g3⟩
  have at_ : ∀ (j : Nat) p, (M ++ ps)[j]? = some p → M[j]? = some p ∨ (M.length ≤ j ∧ ps[j - M.length]? = some p) := fun j p h => by
    by_cases hj : j < M.length
    · rw [List.getElem?_append_left hj] at h; exact .inl h
    · rw [List.getElem?_append_right (by omega)] at h; exact .inr ⟨by omega, h⟩
  have atM : ∀ (i : Nat) p, M[i]? = some p → (M ++ [(v, A)])[i]? = some p := fun i p h => by
    rw [List.getElem?_append_left (List.getElem?_eq_some_iff.mp h).1]; exact h
  have inA : ∀ (j : Nat) q, ps[j]? = some q → ∀ a ∈ q.2, a ∈ A := fun j q hj a ha => by
    rw [← e3]; exact List.mem_flatMap.mpr ⟨q, List.mem_iff_getElem?.mpr ⟨j, hj⟩, ha⟩
  have own : Own K B.D (M ++ ps) (s.m ++ xs.map fun x => some (.deep x)) H := by
    refine ⟨by simp [hln, e2], fun i j p q hi hj ne x hx hq => ?_, fun i p l hi hm => ?_, fun i p hi hm => ?_, fun x h => R.own.nD x ((mem x).mp h), R.own.al⟩
    · rcases at_ i p hi with g1 | ⟨n1, g1⟩
      · have b1 := (List.getElem?_eq_some_iff.mp g1).1
        rcases at_ j q hj with g2 | ⟨n2, g2⟩
        · exact R.own.dis i j p q (atM _ _ g1) (atM _ _ g2) ne x hx hq
        · exact R.own.dis i M.length p (v, A) (atM _ _ g1) (by simp) (by omega) x hx (inA _ q g2 x hq)
      · rcases at_ j q hj with g2 | ⟨n2, g2⟩
        · have b2 := (List.getElem?_eq_some_iff.mp g2).1
          exact R.own.dis j M.length q (v, A) (atM _ _ g2) (by simp) (by omega) x hq (inA _ p g1 x hx)
        · exact e5 _ _ p q g1 g2 (by omega) x hx hq
    · rcases at_ i p hi with g1 | ⟨n1, g1⟩
      · have b1 : i < s.m.length := by rw [← hln]; exact (List.getElem?_eq_some_iff.mp g1).1
        refine (R.own.own i p l (atM _ _ g1) ?_).le le fun _ _ _ h => h
        rw [List.getElem?_append_left b1] at hm ⊢; exact hm
      · rw [hln] at n1 g1
        rw [List.getElem?_append_right n1, List.getElem?_map] at hm
        cases q : xs[i - s.m.length]? with
        | none => rw [q] at hm; cases hm
        | some x =>
          rw [q] at hm; cases hm
          exact .deep ((e4 _ p x g1 q).le le.t _ _ _ fun _ _ _ h => h)
    · rcases at_ i p hi with g1 | ⟨n1, g1⟩
      · have b1 : i < s.m.length := by rw [← hln]; exact (List.getElem?_eq_some_iff.mp g1).1
        refine R.own.dead i p (atM _ _ g1) ?_
        rw [List.getElem?_append_left b1] at hm ⊢; exact hm
      · rw [hln] at n1
        rw [List.getElem?_append_right n1, List.getElem?_map] at hm
        cases q : xs[i - s.m.length]? with
        | none => rw [q] at hm; cases hm
        | some x => rw [q] at hm; cases hm
  refine ⟨a0, ws0, ps, ev, FS_le.sqT h1, e1, e2, ⟨own, R.base.sub fun x h => (mem x).mp h, fun k u C h => ?_, R.len, fun j x ex => ?_⟩, le⟩
  · obtain ⟨C', h'⟩ := rt k u C h
    exact ⟨C', by rw [List.getElem?_append_left (List.getElem?_eq_some_iff.mp h').1]; exact h'⟩
  · obtain ⟨u, g1, g2⟩ := ho j x ex
    exact ⟨u, g1, g2.step le fun k u C h => ⟨C, by rw [List.getElem?_append_left (List.getElem?_eq_some_iff.mp h).1]; exact h⟩⟩
theorem Rel.setAllL {K : PySem.W.Frag} {M : Locs} {H : Hp} : ∀ (is : List Nat) (xs : List PV) (vs : List V) (s : S) (σ : L2.St), Rel K B M s σ H → RepLs K (FS B.D M H) M xs vs → Rel K B M ⟨(is.zip xs).foldl (fun r q => r.set q.1 (some q.2)) s.r, s.m⟩ ((is.zip vs).foldl (fun r q => r.set q.1 (some q.2)) σ) H
  | [], xs, vs, s, σ, R, h => by simpa using R
  | i :: is, [], _, s, σ, R, h => by cases h; simpa using R
  | i :: is, x :: xs, _, s, σ, R, h => by
    cases h with
    | cons h1 h2 =>
      have := Rel.setAllL is xs _ _ _ (R.set i h1) h2
      simpa using this
theorem locOr_rep {K : PySem.W.Frag} {M : Locs} {s : S} {H : Hp} : ∀ (xs : List PV) (ps : Locs) (k : Nat), ps.length = xs.length → (∀ (i : Nat) p x, ps[i]? = some p → xs[i]? = some x → OwnD K (FS B.D M H) H x p.1 p.2 ∧ M[s.m.length + (k + i)]? = some p) → RepLs K (FS B.D M H) M (locOr s.m.length k xs) (ps.map Prod.fst)
  | [], [], _, _, _ => .nil
  | x :: xs, p :: ps, k, hl, h => by
    obtain ⟨h1, h2⟩ := h 0 p x rfl rfl
    refine .cons ?_ (locOr_rep xs ps (k + 1) (by simpa using hl) fun i q y hq hy => ?_)
    · by_cases c : x.lf = true
      · rw [if_pos c]
        have : p.2 = [] := by
          have := own_nil (xs := [x]) (by simp [PV.lfs, c]) (OwnDs.cons h1 .nil (fun _ _ z => by cases z))
          simpa using this
        refine .inr (h1.rep (Le.refl _) _ _ _ fun a m => ?_)
        rw [this] at m; cases m
      · rw [if_neg c]
        exact .inl ⟨_, p.2, rfl, by simpa using h2⟩
    · obtain ⟨g1, g2⟩ := h (i + 1) q y (by simpa using hq) (by simpa using hy)
      exact ⟨g1, by rw [show k + 1 + i = k + (i + 1) by omega]; exact g2⟩
  | [], _ :: _, _, hl, _ => by simp at hl
  | _ :: _, [], _, hl, _ => by simp at hl
def tvUnF (is : List Nat) (te : TVF) : TVS := fun d s => te (fun l s' => match l with
  | .deep (.tup xs) => xs.length = is.length ∧ d.nx ⟨(is.zip (locOr s'.m.length 0 xs)).foldl (fun r q => r.set q.1 (some q.2)) s'.r, s'.m ++ xs.map fun x => some (.deep x)⟩
  | _ => False) s
theorem vs_unF {is : List Nat} {tg : Expr} {g : TG} {te : TVF} (hg : PG X tg g) (h : VF X B e te)
    (hgs : ∀ (a : Addr) (ws : List V) (σ : L2.St) (H : Hp) (Q : L2.St → Hp → Prop), SqT X.K H a ws → ws.length = is.length → Q ((is.zip ws).foldl (fun r q => r.set q.1 (some q.2)) σ) H → g (.ref a) σ H Q)
    (hs : swapsWithSole [tg] e pos.line X.env = pure false := by rfl) (hw : swappedStores [tg] e X.env = pure none := by rfl)
    (h1 : (assignEach [tg] X.env).map (·.2) = [assign tg X.env] := by rfl) : VS1 X B (.Assign [tg] e pos) (tvUnF is te) := by
  obtain ⟨T, p, w⟩ := h
  refine ⟨_, ps_asg p hg hs hw h1, fun d D s σ H M F0 R le ht k => w _ _ s σ H M R ht fun l v A s1 H1 M1 a1 q1 => ?_⟩
  split at q1
  · rename_i xs
    have hln : M1.length = s1.m.length := by have := a1.rel.own.len; simpa using this
    have ho : ∀ (j : Nat) (x : PV), s1.r[j]? = some (some x) → ∃ u, σ[j]? = some (some u) ∧ RepL X.K (FS B.D (M1 ++ [(v, A)]) H1) M1 x u := fun j x ex => by
      obtain ⟨u, g1, g2⟩ := R.env j x (by rw [← a1.rr]; exact ex)
      exact ⟨u, g1, g2.step a1.st.le a1.rt⟩
    obtain ⟨a, ws, ps, rfl, sq, e1, e2, R2, le2⟩ := a1.rel.split ho (R.root.trans a1.rt)
    have rr : RepLs X.K (FS B.D (M1 ++ ps) H1) (M1 ++ ps) (locOr s1.m.length 0 xs) ws := by
      rw [← e1]
      refine locOr_rep (s := s1) xs ps 0 e2 fun i p' x hp hx => ?_
      have hi : (M1 ++ ps)[s1.m.length + (0 + i)]? = some p' := by
        rw [List.getElem?_append_right (by omega)]
        rw [show s1.m.length + (0 + i) - M1.length = i by omega]; exact hp
      refine ⟨?_, hi⟩
      have := R2.own.own _ p' (.deep x) hi (by
        show (s1.m ++ xs.map fun x => some (LK.deep x))[s1.m.length + (0 + i)]? = _
        rw [List.getElem?_append_right (by omega), List.getElem?_map, show s1.m.length + (0 + i) - s1.m.length = i by omega, hx]; rfl)
      cases this with
      | deep h => exact h
    refine hgs a ws σ H1 _ sq (by rw [← e1, List.length_map, e2]; exact q1.1) (k.nx _ _ _ _ (R2.setAllL is _ _ _ _ rr) ((le.trans a1.st.le).trans le2) q1.2)
  · exact q1.elim
theorem vs_unF2 (i j : Nat) {x y : Str} {px py pt : Pos} {kt : Nat} {te : TVF} (hN : X.N.Nodup) (hc : X.calm = true) (h : VF X B e te) (hi : X.N[i]? = some x) (hj : X.N[j]? = some y) (hx : Loc X.env.scope x) (hy : Loc X.env.scope y)
    (hn : (assignEach [.Name x px, .Name y py] X.env).length = 2 := by rfl) (hst : (assignEach [.Name x px, .Name y py] X.env).findIdx? (·.1) = none := by rfl)
    (hs : swapsWithSole [.Tuple [.Name x px, .Name y py] kt pt] e pos.line X.env = pure false := by rfl) (hw : swappedStores [.Tuple [.Name x px, .Name y py] kt pt] e X.env = pure none := by rfl)
    (h1 : (assignEach [.Tuple [.Name x px, .Name y py] kt pt] X.env).map (·.2) = [assign (.Tuple [.Name x px, .Name y py] kt pt) X.env] := by rfl)
    (f1 : X.fn x = true ∨ X.env.scope.names.lookup x = some .local := by first | exact .inl rfl | exact .inr rfl) (f2 : X.fn y = true ∨ X.env.scope.names.lookup y = some .local := by first | exact .inl rfl | exact .inr rfl)
    (c1 : PGs X [.Name x px, .Name y py] (gCons (gName i) (gCons (gName j) gNil)) := by exact pgs_cons (pg_name (by assumption) (by first | rfl | assumption) (by first | exact .inl rfl | exact .inr rfl | assumption) (by first | exact .inl rfl | exact .inr rfl | assumption)) (pgs_cons (pg_name (by assumption) (by first | rfl | assumption) (by first | exact .inl rfl | exact .inr rfl | assumption) (by first | exact .inl rfl | exact .inr rfl | assumption)) pgs_nil)) :
    VS1 X B (.Assign [.Tuple [.Name x px, .Name y py] kt pt] e pos) (tvUnF [i, j] te) := by
  refine vs_unF (pg_tup hc c1 hn hst) h (fun a ws σ H Q h1 h2 q => ?_) hs hw h1
  match ws, h2 with
  | [w1, w2], _ => exact ⟨a, _, rfl, h1, rfl, w1, [w2], rfl, w2, [], rfl, rfl, q⟩
theorem vs_unF3 (i j k : Nat) {x y z : Str} {px py pz pt : Pos} {kt : Nat} {te : TVF} (hN : X.N.Nodup) (hc : X.calm = true) (h : VF X B e te) (hi : X.N[i]? = some x) (hj : X.N[j]? = some y) (hk : X.N[k]? = some z) (hx : Loc X.env.scope x) (hy : Loc X.env.scope y) (hz : Loc X.env.scope z)
    (hn : (assignEach [.Name x px, .Name y py, .Name z pz] X.env).length = 3 := by rfl) (hst : (assignEach [.Name x px, .Name y py, .Name z pz] X.env).findIdx? (·.1) = none := by rfl)
    (hs : swapsWithSole [.Tuple [.Name x px, .Name y py, .Name z pz] kt pt] e pos.line X.env = pure false := by rfl) (hw : swappedStores [.Tuple [.Name x px, .Name y py, .Name z pz] kt pt] e X.env = pure none := by rfl)
    (h1 : (assignEach [.Tuple [.Name x px, .Name y py, .Name z pz] kt pt] X.env).map (·.2) = [assign (.Tuple [.Name x px, .Name y py, .Name z pz] kt pt) X.env] := by rfl)
    (f1 : X.fn x = true ∨ X.env.scope.names.lookup x = some .local := by first | exact .inl rfl | exact .inr rfl) (f2 : X.fn y = true ∨ X.env.scope.names.lookup y = some .local := by first | exact .inl rfl | exact .inr rfl) (f3 : X.fn z = true ∨ X.env.scope.names.lookup z = some .local := by first | exact .inl rfl | exact .inr rfl)
    (c1 : PGs X [.Name x px, .Name y py, .Name z pz] (gCons (gName i) (gCons (gName j) (gCons (gName k) gNil))) := by exact pgs_cons (pg_name (by assumption) (by first | rfl | assumption) (by first | exact .inl rfl | exact .inr rfl | assumption) (by first | exact .inl rfl | exact .inr rfl | assumption)) (pgs_cons (pg_name (by assumption) (by first | rfl | assumption) (by first | exact .inl rfl | exact .inr rfl | assumption) (by first | exact .inl rfl | exact .inr rfl | assumption)) (pgs_cons (pg_name (by assumption) (by first | rfl | assumption) (by first | exact .inl rfl | exact .inr rfl | assumption) (by first | exact .inl rfl | exact .inr rfl | assumption)) pgs_nil))) :
    VS1 X B (.Assign [.Tuple [.Name x px, .Name y py, .Name z pz] kt pt] e pos) (tvUnF [i, j, k] te) := by
  refine vs_unF (pg_tup hc c1 hn hst) h (fun a ws σ H Q h1 h2 q => ?_) hs hw h1
  match ws, h2 with
  | [w1, w2, w3], _ => exact ⟨a, _, rfl, h1, rfl, w1, [w2, w3], rfl, w2, [w3], rfl, w3, [], rfl, rfl, q⟩
end
/-! ### what the top has: a def, an own error -/
structure DefAt (K : PySem.W.Frag) (mg : Str → Option Value) (x : Str) (st : Stmt) (ps : List Str) : Prop where
  ex : ∃ f fd, Fun K x x st f fd ∧ mg x = some (.ref f) ∧ Binds K fd ps []
structure ExcAt (K : PySem.W.Frag) (mg : Str → Option Value) (x : Str) (C : Addr) : Prop where
  xi : PySem.W.excIn K C [.type "ValueError", .type "Exception", .type "BaseException", .type "object"] "ValueError.__new__" = true
  g : mg x = some (.ref C)
  k : PySem.W.keepIn K (.ref C) = true
  b : PySem.W.subIn K (.ref C) (.type "BaseException") = some true
  t : PySem.W.typeIn K (.ref C) = some (.type "type")
theorem fn_at {P : Program} {w : World} {K : PySem.W.Frag} {mg : Str → Option Value} {base : Heap} {x : Str} {st : Stmt} {N ps : List Str} {k n : Nat} {psp : PSp} (Df : DefAt K mg x st ps) (sc : FnScope N ps (defScope st)) (hn : ps.length = n)
    (hb : ∀ (f : Addr) (cdv : Value) (A : Around) (outer : List Env) (s : Shared) (H : Hp) (E : XK) (B : Bs) (xs : List PV) (m : Ms) (Qp : PV → Ms → Prop) (Ep : Value → Ms → Prop), Room k (A.deeper (envOfC x (defScope st) s.heap.objs.size f cdv)) →
      Takes (cxOf (L2.CX P w) P w K mg base N x (defScope st) f cdv A outer s H E) (WP K B fun c s => Ep c (s.m.take m.length)) → B.M0.length = m.length → xs.length = n → psp xs m Qp Ep →
      ∃ t, VSs (cxOf (L2.CX P w) P w K mg base N x (defScope st) f cdv A outer s H E) B (defBody st) t ∧ t { nx := fun s => Qp .non (s.m.take m.length), rt := fun x s => Qp x (s.m.take m.length) } ⟨r0 N xs, m⟩) : Fn P w K mg base x (k + 1) n psp := by
  obtain ⟨f, fd, F, g, b⟩ := Df.ex
  exact fn_mk F g b sc hn (hb f)
end VS
namespace VS
open PySem PySem.Spec PyProof.Rows L2
theorem atI_0 {α : Type} (x : α) (xs : List α) : atI (x :: xs) 0 = some x := atI_nat (j := 0) rfl
theorem atI_map {α β : Type} (f : α → β) (xs : List α) (i : Int) : atI (xs.map f) i = (atI xs i).map f := by
  unfold atI
  rw [List.length_map]
  cases ixN xs.length i with
  | none => rfl
  | some j => simp
theorem atI_neg {α : Type} (xs : List α) (k : Nat) (h1 : 0 < k) (h2 : k ≤ xs.length) : atI xs (-(k : Int)) = xs[xs.length - k]? := by
  unfold atI ixN
  rw [if_neg (by omega), if_pos (by omega)]
  show xs[(-(k : Int) + (xs.length : Int)).toNat]? = _
  rw [show (-(k : Int) + (xs.length : Int)).toNat = xs.length - k by omega]
theorem atI_int {α : Type} (xs : List α) (i : Int) (h1 : 0 ≤ i) (h2 : i < xs.length) : atI xs i = xs[i.toNat]? := by
  unfold atI ixN
  rw [if_pos h1, if_pos h2]; rfl
theorem cut_nat {α : Type} (xs : List α) (a b : Nat) : cutA xs (some (a : Int)) (some (b : Int)) = (xs.take b).drop a := by
  unfold cutA
  rw [HT.sIx_nat, HT.sIx_nat]
  refine List.ext_getElem? fun i => ?_
  rw [List.getElem?_take, List.getElem?_drop, List.getElem?_drop, List.getElem?_take]
  by_cases h : a ≤ xs.length
  · rw [Nat.min_eq_left h]
    by_cases c : a + i < b
    · rw [if_pos c]
      by_cases g : a + i < xs.length
      · rw [if_pos (by omega)]
      · rw [List.getElem?_eq_none (by omega)]; simp
    · rw [if_neg c, if_neg (by omega)]
  · have e : min a xs.length = xs.length := by omega
    rw [e, if_neg (by omega), List.getElem?_eq_none (by omega)]; simp
theorem cut_to {α : Type} (xs : List α) (b : Nat) : cutA xs none (some (b : Int)) = xs.take b := by
  unfold cutA
  rw [HT.sIx_none, HT.sIx_nat, List.drop_zero, Nat.sub_zero]
  by_cases g : b ≤ xs.length
  · rw [Nat.min_eq_left g]
  · rw [Nat.min_eq_right (by omega), List.take_of_length_le (Nat.le_refl _), List.take_of_length_le (by omega)]
theorem cut_from {α : Type} (xs : List α) (a : Nat) : cutA xs (some (a : Int)) none = xs.drop a := by
  unfold cutA
  rw [HT.sIx_nat, HT.sIx_none]
  by_cases h : a ≤ xs.length
  · rw [Nat.min_eq_left h]
    exact List.take_of_length_le (by rw [List.length_drop]; omega)
  · rw [Nat.min_eq_right (by omega), List.drop_of_length_le (Nat.le_refl _), List.drop_of_length_le (by omega)]; simp
theorem cut_toNeg {α : Type} (xs : List α) (b : Nat) (h : 0 < b) : cutA xs none (some (-(b : Int))) = xs.take (xs.length - b) := by
  unfold cutA
  rw [HT.sIx_none]
  have : HT.sIx xs.length xs.length (some (-(b : Int))) = xs.length - b := by
    show (if -(b : Int) < 0 then (-(b : Int) + (xs.length : Int)).toNat else _) = _
    rw [if_pos (by omega)]; omega
  rw [this]; simp
theorem cut_fromNeg {α : Type} (xs : List α) (b : Nat) (h : 0 < b) : cutA xs (some (-(b : Int))) none = xs.drop (xs.length - b) := by
  unfold cutA
  rw [HT.sIx_none]
  have : HT.sIx xs.length 0 (some (-(b : Int))) = xs.length - b := by
    show (if -(b : Int) < 0 then (-(b : Int) + (xs.length : Int)).toNat else _) = _
    rw [if_pos (by omega)]; omega
  rw [this]
  exact List.take_of_length_le (by rw [List.length_drop]; omega)
theorem cut_map {α β : Type} (f : α → β) (xs : List α) (lo hi : Option Int) : cutA (xs.map f) lo hi = (cutA xs lo hi).map f := by
  unfold cutA
  rw [List.length_map, List.map_take, List.map_drop]
theorem size_ok {n : Nat} (h : n ≤ 100000) : n ≤ sizeLine := by rw [sizeLine_eq]; omega
theorem size_lt {n : Nat} (h : n ≤ 100000) : n < sizeLine := by rw [sizeLine_eq]; omega
/-- a comprehension whose test and item change nothing -/
theorem lc_pure {j : Nat} {tt : TVT} {te : TVE} {xs : List PV} {r : List (Option PV)} {m0 : Ms} {Q : List PV → Ms → Prop} (f : PV → Bool) (g : PV → PV) (hn : xs.length ≤ 100000)
    (ht : ∀ y ∈ xs, ∀ (R : Bool → S → Prop) (m : Ms), R (f y) ⟨(r.set j none).set j (some y), m⟩ → tt R ⟨(r.set j none).set j (some y), m⟩)
    (he : ∀ y ∈ xs, f y = true → ∀ (R : PV → S → Prop) (m : Ms), R (g y) ⟨(r.set j none).set j (some y), m⟩ → te R ⟨(r.set j none).set j (some y), m⟩)
    (hg : ∀ y ∈ xs, f y = true → noLocs [g y] = true) (q : Q ((xs.filter f).map g) m0) :
    ∃ W : Nat → List PV → Ms → Prop, W 0 [] m0 ∧ (∀ i y acc m, xs[i]? = some y → W i acc m → lcTurn j tt te r W i y acc m) ∧ ∀ acc m, W xs.length acc m → Q acc m := by
  refine ⟨fun i acc m => acc = ((xs.take i).filter f).map g ∧ m = m0, ⟨by simp, rfl⟩, fun i y acc m hy ⟨h1, h2⟩ => ?_, fun acc m ⟨h1, h2⟩ => ?_⟩
  · have hm : y ∈ xs := List.mem_iff_getElem?.mpr ⟨i, hy⟩
    have hta : xs.take (i + 1) = xs.take i ++ [y] := by rw [List.take_add_one, hy]; rfl
    refine ht y hm _ _ ?_
    cases e : f y with
    | true =>
      refine he y hm e _ _ ⟨hg y hm e, ?_, m, rfl, ?_, h2⟩
      · subst h1
        refine size_lt (Nat.le_trans ?_ hn)
        rw [List.length_map]
        exact Nat.le_trans (List.length_filter_le _ _) (by rw [List.length_take]; omega)
      · rw [hta, List.filter_append, List.map_append, ← h1]
        simp [e]
    | false =>
      refine ⟨m, rfl, ?_, h2⟩
      rw [hta, List.filter_append, List.map_append, ← h1]
      simp [e]
  · rw [h1, h2, List.take_length]; exact q
/-- .. over numbers -/
theorem lc_ints {j : Nat} {tt : TVT} {te : TVE} {ns : List Int} {r : List (Option PV)} {m0 : Ms} {Q : List PV → Ms → Prop} (p : Int → Bool) (g : Int → PV) (hn : ns.length ≤ 100000)
    (ht : ∀ n ∈ ns, ∀ (R : Bool → S → Prop) (m : Ms), R (p n) ⟨(r.set j none).set j (some (.int n)), m⟩ → tt R ⟨(r.set j none).set j (some (.int n)), m⟩)
    (he : ∀ n ∈ ns, p n = true → ∀ (R : PV → S → Prop) (m : Ms), R (g n) ⟨(r.set j none).set j (some (.int n)), m⟩ → te R ⟨(r.set j none).set j (some (.int n)), m⟩)
    (hg : ∀ n ∈ ns, p n = true → noLocs [g n] = true) (q : Q ((ns.filter p).map g) m0) :
    ∃ W : Nat → List PV → Ms → Prop, W 0 [] m0 ∧ (∀ i y acc m, (ns.map PV.int)[i]? = some y → W i acc m → lcTurn j tt te r W i y acc m) ∧ ∀ acc m, W (ns.map PV.int).length acc m → Q acc m := by
  let f : PV → Bool := fun x => match x with | .int i => p i | _ => false
  let g' : PV → PV := fun x => match x with | .int i => g i | _ => .non
  have e : ((ns.map PV.int).filter f).map g' = (ns.filter p).map g := by
    clear q hg he ht hn
    induction ns with
    | nil => rfl
    | cons n ns ih =>
      rw [List.map_cons, List.filter_cons, List.filter_cons]
      show (if p n = true then _ else _ : List PV).map g' = _
      cases p n
      · exact ih
      · show g n :: _ = g n :: _; rw [ih]
  refine lc_pure f g' (by simpa using hn) (fun y hy R m h => ?_) (fun y hy hf R m h => ?_) (fun y hy hf => ?_) (by rw [e]; exact q)
  · obtain ⟨n, hm, rfl⟩ := List.mem_map.mp hy
    exact ht n hm R m h
  · obtain ⟨n, hm, rfl⟩ := List.mem_map.mp hy
    exact he n hm hf R m h
  · obtain ⟨n, hm, rfl⟩ := List.mem_map.mp hy
    exact hg n hm hf
/-! ### the law itself -/
def p_true : PSp := fun xs m Q _ => ∃ ns : List Int, xs = [.cl (ns.map PV.int)] ∧ m = [] ∧ ns.length ≤ 63 ∧ Q (.bl true) []
theorem start_true {K : PySem.W.Frag} {H : Hp} {a : Addr} {ns : List Int} (hl : ns.length ≤ 63) (hS : SqL K H a (ns.map V.int)) : toSp K 1 p_true [.ref a] H (fun v _ => v = .bl true) fun _ _ _ => False := by
  have le : Le H (FS (fun _ => False) [] H) := fun a u h => FS_eq.mpr ⟨fun z => z, fun ⟨q, hq, _⟩ => (by cases hq), h⟩
  refine ⟨rfl, fun _ => False, [], [], [.cl (ns.map PV.int)], fun x _ => x = .bl true, fun _ _ => False, ⟨rfl, fun i j p q h => (by simp at h), fun i p l h => (by simp at h), fun i p h => (by simp at h), fun a h => (by obtain ⟨q, hq, _⟩ := h; cases hq), fun a d => d.elim⟩,
    .cons (.inr (.cl (le.sqL hS) (Reps.ints ns))) .nil, ⟨ns, rfl, rfl, hl, rfl⟩, fun x v A M' m' H' o st rt ln q => ?_, fun c M' m' H' o st rt ln q => q⟩
  subst q
  have hM : M'.length = m'.length := by have := o.len; simpa using this
  have ow := o.own M'.length (v, A) (.deep (.bl true)) (by simp) (by rw [hM]; simp)
  cases ow with
  | deep h => cases h; rfl
theorem end_true {P : Program} {w : World} {H : Hp} {s : Shared} {e : Value} {s' : Shared} (h : L2.CX P w [] H s (fun _ _ _ => False) e s') : False := by
  obtain ⟨_, _, _, _, _, _, _, _, _, _, _, _, z⟩ := h
  exact z
theorem walk_V {l : PySem.W.OpenLaw} {k : Nat} {q : Program} {loose : List Str} {XP : (Str → Option Value) → Heap → Prop} {YP : World → Heap → Prop} {d : DefRec} {K : Params → PySem.W.Frag} {x : Str} (hn : l.most = some 63) (hdf : d.params.defaults = []) (hr : Room k callerA) (hY : ∀ (w : World) (h : Heap), YP w h → (K w.params).In h)
    (F : ∀ (w : World) (mg : Str → Option Value) (fa : Addr) (h : Heap), (K w.params).In h → h.Ns mainGlobals mg → XP mg h → mg d.name = some (.ref fa) →
      ∃ fd : FuncData, (∀ (s : Shared) (u : Value), BindsTo s fd ⟨[u], []⟩ [(x, u)]) ∧ ∀ base : Heap, (K w.params).In base → base.Ns mainGlobals mg → FnOk l.prog w (K w.params) mg base (L2.CX l.prog w) k fa fd [x] (toSp (K w.params) 1 p_true)) :
    PySem.W.WalkO q loose XP YP l.row.toRowW d [] (fun f vs => PySem.call f vs) := by
  refine Att.attach_call hn hdf fun w s0 s1 mg mb fa o pm cd doc a vs ns Gr Y h1 h2 h3 hmg hobj hints hlen hg => ?_
  have KX := hY w _ Y
  obtain ⟨fd, hb, hF⟩ := F w mg fa _ KX Gr.T.g Gr.X hmg
  exact law_call KX Gr.T.g Gr.T.b Gr.T.builtins Gr.T.nolimit hg hobj hints (Nat.le_trans hlen (by decide)) hr hF hb (fun H _ hS => start_true hlen hS) fun H e s' h => end_true h
theorem loose_int {p : Program} {lv : List (Str × PySem.W.WData)} {mg : Str → Option Value} {h : Heap} {x : Str} {i : Int} (X : PySem.W.XL p lv mg h) (m : (x, PySem.W.WData.int i) ∈ lv) : ∃ t, mg x = some (.int i t) := by
  obtain ⟨v, h1, h2⟩ := X.2.val _ m
  cases h2
  exact ⟨_, h1⟩
/-- a block cut at a word about the state between -/
def tvCut (t u : TVS) : TVS := fun d s => ∃ Mid : S → Prop, t { d with nx := Mid } s ∧ ∀ s', Mid s' → u d s'
theorem vss_cut {X : Cx} {B : Bs} {st : Stmt} {rest : List Stmt} {t u : TVS} (h : VS1 X B st t) (g : VSs X B rest u) : VSs X B (st :: rest) (tvCut t u) := by
  obtain ⟨T, p, w⟩ := h
  obtain ⟨T2, p2, w2⟩ := g
  refine ⟨_, pss_cons p p2, fun d D s σ H M F0 R l ht k => ?_⟩
  obtain ⟨Mid, h1, h2⟩ := ht
  exact w _ _ s σ H M F0 R l h1 ⟨fun s1 σ1 H1 M1 R1 l1 q1 => w2 d D s1 σ1 H1 M1 F0 R1 l1 (h2 s1 q1) k, k.rt, k.bk, k.ct⟩
theorem size0 : ((0 : Nat) ≤ sizeLine) = True := by simp
end VS
namespace VS
open PySem PySem.Spec PyProof.Rows L2
/-! ### plain data, compared -/
structure DatOf (x : PV) (d : PyData) (n : Nat) : Prop where
  a : x.toD = some d
  b : d.canLay0 = true
  c : d.depth ≤ n
theorem DatOf.int {i : Int} {n : Nat} : DatOf (.int i) (.int i) n := ⟨rfl, rfl, Nat.zero_le _⟩
theorem DatOf.bl {i : Bool} {n : Nat} : DatOf (.bl i) (.bool i) n := ⟨rfl, rfl, Nat.zero_le _⟩
theorem DatOf.non {n : Nat} : DatOf .non .none n := ⟨rfl, rfl, Nat.zero_le _⟩
structure DatsOf (xs : List PV) (ds : List PyData) (n : Nat) : Prop where
  a : PV.toDs xs = some ds
  b : PyData.canLayAll0 ds = true
  c : PyData.depthAll ds ≤ n
theorem DatsOf.nil {n : Nat} : DatsOf [] [] n := ⟨rfl, rfl, Nat.zero_le _⟩
theorem DatsOf.cons {x : PV} {xs : List PV} {d : PyData} {ds : List PyData} {n : Nat} (h : DatOf x d n) (hs : DatsOf xs ds n) : DatsOf (x :: xs) (d :: ds) n :=
  ⟨by rw [PV.toDs, h.a, hs.a], by rw [PyData.canLayAll0, h.b, hs.b]; rfl, by rw [PyData.depthAll]; exact Nat.max_le.mpr ⟨h.c, hs.c⟩⟩
theorem DatOf.lst {xs : List PV} {ds : List PyData} {n : Nat} (h : DatsOf xs ds n) : DatOf (.lst xs) (.list ds) (n + 1) := ⟨by rw [PV.toD, h.a]; rfl, by rw [PyData.canLay0]; exact h.b, by rw [PyData.depth]; exact Nat.succ_le_succ h.c⟩
theorem DatOf.tup {xs : List PV} {ds : List PyData} {n : Nat} (h : DatsOf xs ds n) : DatOf (.tup xs) (.tuple ds) (n + 1) := ⟨by rw [PV.toD, h.a]; rfl, by rw [PyData.canLay0]; exact h.b, by rw [PyData.depth]; exact Nat.succ_le_succ h.c⟩
theorem DatsOf.map {α : Type} {f : α → PV} {g : α → PyData} {n : Nat} : ∀ {l : List α}, (∀ a ∈ l, DatOf (f a) (g a) n) → DatsOf (l.map f) (l.map g) n
  | [], _ => .nil
  | a :: l, h => .cons (h a List.mem_cons_self) (DatsOf.map fun b m => h b (List.mem_cons_of_mem _ m))
theorem DatOf.nums {ns : List Int} {n : Nat} : DatOf (VS.nums ns) (.list (ns.map PyData.int)) (n + 1) := .lst (.map fun _ _ => .int)
theorem gEq.dat {f : Bool → Bool} {s : S} {x y : PV} {d e : PyData} {Q : PV → Prop} {n : Nat} (hx : DatOf (s.look x) d n) (hy : DatOf (s.look y) e n) (hn : n ≤ 64) (q : Q (.bl (f (PyData.eqv d e)))) : gEq f s x y Q :=
  ⟨d, e, hx.a, hy.a, by unfold SeqAt.shaped; rw [hx.b, decide_eq_true (Nat.le_trans hx.c hn)]; rfl, by unfold SeqAt.shaped; rw [hy.b, decide_eq_true (Nat.le_trans hy.c hn)]; rfl, q⟩
theorem eqv_list_nil {ds : List PyData} : PyData.eqv (.list ds) (.list []) = decide (ds = []) := by
  rw [PyData.eqv]
  cases ds <;> simp [PyData.eqvAll]
theorem eqvAll_map {α : Type} [DecidableEq α] {g : α → PyData} (hg : ∀ a b, PyData.eqv (g a) (g b) = decide (a = b)) : ∀ l m : List α, PyData.eqvAll (l.map g) (m.map g) = decide (l = m)
  | [], [] => rfl
  | [], _ :: _ => rfl
  | _ :: _, [] => rfl
  | a :: l, b :: m => by
    rw [List.map_cons, List.map_cons, PyData.eqvAll, eqvAll_map hg l m, hg]
    by_cases h : a = b
    · subst h
      by_cases k : l = m
      · subst k; simp
      · simp [k]
    · simp [h]
end VS
/-! Trees, plainly. -/
namespace A
inductive Tr where
  | nil : Tr
  | node (l : Tr) (x : Int) (r : Tr) : Tr
namespace Tr
def pre : Tr → List Int
  | nil => []
  | node l x r => x :: (l.pre ++ r.pre)
def ino : Tr → List Int
  | nil => []
  | node l x r => l.ino ++ x :: r.ino
def size : Tr → Nat
  | nil => 0
  | node l _ r => l.size + r.size + 1
def bst : Tr → Prop
  | nil => True
  | node l x r => l.bst ∧ r.bst ∧ (∀ y ∈ l.pre, y < x) ∧ ∀ y ∈ r.pre, x < y
theorem len_pre : ∀ t : Tr, t.pre.length = t.size
  | nil => rfl
  | node l x r => by simp [pre, size, len_pre l, len_pre r]
theorem mem_ino : ∀ {t : Tr} {y : Int}, y ∈ t.ino ↔ y ∈ t.pre
  | nil, _ => by simp [pre, ino]
  | node l x r, y => by
    simp only [pre, ino, List.mem_append, List.mem_cons, mem_ino (t := l), mem_ino (t := r)]
    constructor
    · rintro (h | h | h)
      · exact .inr (.inl h)
      · exact .inl h
      · exact .inr (.inr h)
    · rintro (h | h | h)
      · exact .inr (.inl h)
      · exact .inl h
      · exact .inr (.inr h)
theorem perm_ino : ∀ t : Tr, t.ino.Perm t.pre
  | nil => List.Perm.refl _
  | node l x r => by
    have h1 := perm_ino l
    have h2 := perm_ino r
    have : (l.ino ++ x :: r.ino).Perm (x :: (l.ino ++ r.ino)) := List.perm_middle
    exact this.trans ((h1.append h2).cons x)
theorem bst_iff : ∀ t : Tr, t.bst ↔ t.ino.Pairwise (· < ·)
  | nil => by simp [bst, ino]
  | node l x r => by
    simp only [bst, ino, List.pairwise_append, List.pairwise_cons, bst_iff l, bst_iff r]
    constructor
    · rintro ⟨h1, h2, h3, h4⟩
      refine ⟨h1, ⟨fun y hy => h4 y (mem_ino.mp hy), h2⟩, fun a ha b hb => ?_⟩
      have ha' := h3 a (mem_ino.mp ha)
      rcases List.mem_cons.mp hb with rfl | hb
      · exact ha'
      · have := h4 b (mem_ino.mp hb); omega
    · rintro ⟨h1, ⟨h2, h3⟩, h4⟩
      exact ⟨h1, h3, fun y hy => h4 y (mem_ino.mpr hy) x List.mem_cons_self, fun y hy => h2 y (mem_ino.mpr hy)⟩
/-- the left part's numbers are those less than the top -/
theorem lo_node {l r : Tr} {x : Int} (h : (node l x r).bst) : ((node l x r).pre.filter fun y => decide (y < x)) = l.pre := by
  obtain ⟨_, _, h3, h4⟩ := h
  rw [pre, List.filter_cons]
  rw [if_neg (by simp), List.filter_append]
  rw [List.filter_eq_self.mpr (fun y hy => by simpa using h3 y hy)]
  rw [List.filter_eq_nil_iff.mpr (fun y hy => by have := h4 y hy; simp; omega)]
  simp
theorem take_node {l r : Tr} {x : Int} : (l.pre ++ r.pre).take l.pre.length = l.pre := by simp
theorem drop_node {l r : Tr} {x : Int} : (l.pre ++ r.pre).drop l.pre.length = r.pre := by simp
/-! ### the way -/
def way (n : Int) : Tr → List Int
  | nil => []
  | node l x r => x :: (if n < x then l.way n else if x < n then r.way n else [])
/-! ### one turn: the number n, somewhere below the top -/
def rot (n : Int) : Tr → Tr
  | nil => nil
  | node l x r => match l, r with
    | node a y b, r => if y = n then node a y (node b x r) else
      (match r with
      | node c z d => if z = n then node (node (node a y b) x c) z d else if n < x then node (rot n (node a y b)) x (node c z d) else node (node a y b) x (rot n (node c z d))
      | nil => if n < x then node (rot n (node a y b)) x nil else node (node a y b) x nil)
    | nil, node c z d => if z = n then node (node nil x c) z d else if n < x then node nil x (node c z d) else node nil x (rot n (node c z d))
    | nil, nil => node nil x nil
def topIs (n : Int) : Tr → Bool
  | nil => false
  | node _ x _ => decide (x = n)
/-- the same, by cases that one asks -/
theorem rot_eq (n x : Int) (l r : Tr) : rot n (node l x r) = if l.topIs n then (match l with | node a y b => node a y (node b x r) | nil => nil) else if r.topIs n then (match r with | node c z d => node (node l x c) z d | nil => nil) else if n < x then node (rot n l) x r else node l x (rot n r) := by
  cases l with
  | nil =>
    cases r with
    | nil => simp [rot, topIs]
    | node c z d =>
      simp only [rot, topIs]
      by_cases h : z = n <;> by_cases g : n < x <;> simp [h, g]
  | node a y b =>
    cases r with
    | nil =>
      simp only [rot, topIs]
      by_cases h : y = n <;> by_cases g : n < x <;> simp [h, g, rot]
    | node c z d =>
      simp only [rot, topIs]
      by_cases h : y = n <;> by_cases h2 : z = n <;> by_cases g : n < x <;> simp [h, h2, g]
theorem ino_rot (n : Int) : ∀ t : Tr, (rot n t).ino = t.ino
  | nil => rfl
  | node l x r => by
    rw [rot_eq]
    cases l with
    | nil =>
      cases r with
      | nil => by_cases g : n < x <;> simp [topIs, g, rot, ino]
      | node c z d =>
        have := ino_rot n (node c z d)
        by_cases h : z = n <;> by_cases g : n < x <;> simp [topIs, h, g, ino, rot] at this ⊢
        · exact this
    | node a y b =>
      have h1 := ino_rot n (node a y b)
      cases r with
      | nil => by_cases h : y = n <;> by_cases g : n < x <;> simp [topIs, h, g, ino, rot] at h1 ⊢ <;> simp [h1]
      | node c z d =>
        have h2 := ino_rot n (node c z d)
        by_cases h : y = n <;> by_cases h' : z = n <;> by_cases g : n < x <;> simp [topIs, h, h', g, ino] at h1 h2 ⊢ <;> first | (rw [h1]; simp) | (rw [h2])
theorem bst_rot {n : Int} {t : Tr} (h : t.bst) : (rot n t).bst := by
  rw [bst_iff, ino_rot, ← bst_iff]; exact h
theorem size_eq (t : Tr) : t.size = t.ino.length := by rw [(perm_ino t).length_eq, len_pre]
theorem size_rot (n : Int) (t : Tr) : (rot n t).size = t.size := by rw [size_eq, ino_rot, ← size_eq]
theorem mem_rot {n y : Int} {t : Tr} : y ∈ (rot n t).pre ↔ y ∈ t.pre := by rw [← mem_ino, ino_rot, mem_ino]
end Tr
/-! ### what is_tree reckons -/
def popW (n : Int) : Option Int → List Int → Option Int × List Int
  | low, [] => (low, [])
  | low, w :: ws => if w < n then popW n (some w) ws else (low, w :: ws)
def lowBad : Option Int → Int → Bool
  | some l, n => decide (n ≤ l)
  | none, _ => false
def isStep (st : Option Int × List Int) (n : Int) : Option (Option Int × List Int) :=
  if 1000000000 ≤ n.natAbs ∨ lowBad st.1 n = true then none
  else if (popW n st.1 st.2).2.head? = some n then none
  else some ((popW n st.1 st.2).1, n :: (popW n st.1 st.2).2)
def isRun : Option Int × List Int → List Int → Option (Option Int × List Int)
  | st, [] => some st
  | st, n :: ns => match isStep st n with
    | some st' => isRun st' ns
    | none => none
def isTree (l : List Int) : Bool := (isRun (none, []) l).isSome && decide (l.length ≤ 60)
end A
namespace A
theorem popW_stay {n : Int} {low : Option Int} : ∀ {st : List Int}, (∀ y ∈ st, n < y) → popW n low st = (low, st)
  | [], _ => rfl
  | w :: ws, h => by
    have := h w List.mem_cons_self
    rw [popW, if_neg (by omega)]
theorem popW_over {n x : Int} {st : List Int} (hx : x < n) (hst : ∀ y ∈ st, n < y) : ∀ {S : List Int} {low : Option Int}, (∀ y ∈ S, y < n) → popW n low (S ++ x :: st) = (some x, st)
  | [], low, _ => by
    rw [List.nil_append, popW, if_pos hx, popW_stay hst]
  | w :: S, low, h => by
    rw [List.cons_append, popW, if_pos (h w List.mem_cons_self)]
    exact popW_over hx hst fun y m => h y (List.mem_cons_of_mem _ m)
theorem isRun_append : ∀ (a : List Int) (st : Option Int × List Int) (b : List Int), isRun st (a ++ b) = (isRun st a).bind fun st' => isRun st' b
  | [], st, b => rfl
  | n :: a, st, b => by
    rw [List.cons_append, isRun, isRun]
    cases isStep st n with
    | none => rfl
    | some st' => exact isRun_append a st' b
theorem head_ne {n : Int} : ∀ {st : List Int}, (∀ y ∈ st, n < y) → ¬ st.head? = some n
  | [], _ => by simp
  | w :: ws, h => by
    have := h w List.mem_cons_self
    simp; omega
theorem isRun_tr : ∀ (t : Tr) (low : Option Int) (st : List Int), t.bst → (∀ y ∈ t.pre, y.natAbs < 1000000000) → (∀ y ∈ t.pre, lowBad low y = false) → (∀ y ∈ t.pre, ∀ z ∈ st, y < z) →
    ∃ low' S, isRun (low, st) t.pre = some (low', S ++ st) ∧ (∀ y ∈ S, y ∈ t.pre) ∧ (low' = low ∨ ∃ y ∈ t.pre, low' = some y)
  | .nil, low, st, _, _, _, _ => ⟨low, [], rfl, fun y m => (by cases m), .inl rfl⟩
  | .node l x r, low, st, hb, hn, hl, hs => by
    obtain ⟨b1, b2, b3, b4⟩ := hb
    have mx : x ∈ (Tr.node l x r).pre := List.mem_cons_self
    have ml : ∀ y ∈ l.pre, y ∈ (Tr.node l x r).pre := fun y m => List.mem_cons_of_mem _ (List.mem_append_left _ m)
    have mr : ∀ y ∈ r.pre, y ∈ (Tr.node l x r).pre := fun y m => List.mem_cons_of_mem _ (List.mem_append_right _ m)
    have s1 : isStep (low, st) x = some (low, x :: st) := by
      unfold isStep
      have h1 := hn x mx
      have h2 := hl x mx
      rw [if_neg (by simp only [h2]; simp; omega)]
      simp only [popW_stay (hs x mx)]
      rw [if_neg (head_ne (hs x mx))]
    obtain ⟨low1, S1, e1, i1, g1⟩ := isRun_tr l low (x :: st) b1 (fun y m => hn y (ml y m)) (fun y m => hl y (ml y m)) (fun y m z hz => by
      rcases List.mem_cons.mp hz with rfl | hz
      · exact b3 y m
      · exact hs y (ml y m) z hz)
    have run : isRun (low, st) (Tr.node l x r).pre = isRun (low1, S1 ++ x :: st) r.pre := by
      show isRun (low, st) (x :: (l.pre ++ r.pre)) = _
      rw [isRun, s1]
      show isRun (low, x :: st) (l.pre ++ r.pre) = _
      rw [isRun_append, e1]; rfl
    rw [run]
    cases hr : r with
    | nil =>
      refine ⟨low1, S1 ++ [x], by simp [Tr.pre, isRun], fun y m => ?_, ?_⟩
      · rw [← hr]
        rcases List.mem_append.mp m with m | m
        · exact ml y (i1 y m)
        · cases List.mem_singleton.mp m; exact mx
      · rw [← hr]
        rcases g1 with g | ⟨y, m, g⟩
        · exact .inl g
        · exact .inr ⟨y, ml y m, g⟩
    | node rl n rr =>
      rw [← hr]
      have mn : n ∈ r.pre := by rw [hr]; exact List.mem_cons_self
      have xn := b4 n mn
      have lb : lowBad low1 n = false := by
        rcases g1 with g | ⟨y, m, g⟩
        · rw [g]; exact hl n (mr n mn)
        · have := b3 y m
          rw [g]; simp [lowBad]; omega
      have hso : ∀ y ∈ st, n < y := fun y m => hs n (mr n mn) y m
      have same : isStep (low1, S1 ++ x :: st) n = isStep (some x, st) n := by
        unfold isStep
        have p1 : popW n low1 (S1 ++ x :: st) = (some x, st) := popW_over xn hso (fun y m => by have := b3 y (i1 y m); omega)
        have p2 : popW n (some x) st = (some x, st) := popW_stay hso
        have p3 : lowBad (some x) n = false := by simp [lowBad]; omega
        simp only [p1, p2, lb, p3]
      have run2 : isRun (low1, S1 ++ x :: st) r.pre = isRun (some x, st) r.pre := by
        rw [hr]
        show isRun _ (n :: (rl.pre ++ rr.pre)) = isRun _ (n :: (rl.pre ++ rr.pre))
        rw [isRun, isRun, same]
      obtain ⟨low2, S2, e2, i2, g2⟩ := isRun_tr r (some x) st b2 (fun y m => hn y (mr y m)) (fun y m => by have := b4 y m; simp [lowBad]; omega) (fun y m z hz => hs y (mr y m) z hz)
      refine ⟨low2, S2, run2.trans e2, fun y m => mr y (i2 y m), ?_⟩
      rcases g2 with g | ⟨y, m, g⟩
      · exact .inr ⟨x, mx, g⟩
      · exact .inr ⟨y, mr y m, g⟩
/-- a tree that may be handed in -/
structure Tr.ok (t : Tr) : Prop where
  b : t.bst
  n : ∀ y ∈ t.pre, y.natAbs < 1000000000
  s : t.size ≤ 60
theorem isTree_pre {t : Tr} (h : t.ok) : isTree t.pre = true := by
  obtain ⟨low, S, e, _⟩ := isRun_tr t none [] h.b h.n (fun _ _ => rfl) (fun _ _ _ m => (by cases m))
  unfold isTree
  rw [e, t.len_pre]
  have := h.s
  simp [this]
theorem Tr.ok.rot {t : Tr} (h : t.ok) (n : Int) : (t.rot n).ok := ⟨Tr.bst_rot h.b, fun y m => h.n y (Tr.mem_rot.mp m), by rw [Tr.size_rot]; exact h.s⟩
theorem Tr.ok.left {l r : Tr} {x : Int} (h : (Tr.node l x r).ok) : l.ok := ⟨h.b.1, fun y m => h.n y (List.mem_cons_of_mem _ (List.mem_append_left _ m)), by have := h.s; simp [Tr.size] at this; omega⟩
theorem Tr.ok.right {l r : Tr} {x : Int} (h : (Tr.node l x r).ok) : r.ok := ⟨h.b.2.1, fun y m => h.n y (List.mem_cons_of_mem _ (List.mem_append_right _ m)), by have := h.s; simp [Tr.size] at this; omega⟩
end A
open VS in
local macro_rules | `(tactic| walk_at "v") => `(tactic| (try simp only [kidsLf, tvUnF, locOr, tvSetI, tvCall0, tvCall1, tr1, okTr, tvSeq, tvCut, tvIf, tvOr, tvAnd, tvNot, tvB, tv2, tv2F, gI0, gI, tvCB, tvCBF, gAbs, gInt, gLen, gList, tvCons, tvNil, tvVar, tvC, tvRet, tvLf, Deepen, tvExpr, tvSet, tvSetF, tvSetK, tvLst, tPv, tv1, gNeg, gIsN', tvUn, tvTup, tvfTup, tvfCons, tvMove, tvSl, tvSome, tvNo, gAdd, gAddF, gIx, S.flat, S.look, LK.pv, r0, tvNotV, tvAndV, tvOrV, tvIfE, tvAug, tvDNew, List.map_cons, List.map_nil, List.set_cons_succ, List.set_cons_zero, List.getElem?_cons_zero, List.getElem?_cons_succ, List.getElem?_nil, Option.some.injEq, exists_eq_left', exists_eq_left, decide_eq_true_eq, PV.lf, PV.lfs, noLocs, List.take_zero, List.length_nil, List.length_cons, List.append_nil, List.nil_append, List.cons_append, List.replicate, List.zip_cons_cons, List.zip_nil_left, List.zip_nil_right, List.foldl_cons, List.foldl_nil, true_and, and_true, Bool.not_eq_true, Bool.and_true, Bool.true_and, Bool.and_self, List.length_map, Nat.reduceSub, Nat.reduceAdd, Nat.zero_add, Nat.sub_zero, Bool.true_eq_false, Bool.false_eq_true, if_true, if_false, ite_true, ite_false, PV.int.injEq, PV.lst.injEq, reduceCtorEq, false_and, and_false, exists_false, or_false, false_or, id_eq, Bool.not_true, Bool.not_false, Nat.zero_le, size0]))
namespace A
open PySem PySem.Spec PyProof.Rows L2 VS
def topS (i : Nat) : Stmt := PySem.Challenge.pw_askrise_k06_whole_turns_and_back.main.body.getD i (.Pass ⟨0, 0, 0, 0⟩)
abbrev s_is_tree : Stmt := topS 8
abbrev N_is_tree : List Str := ["tree", "low", "waiting", "number"]
theorem sc_is_tree : FnScope N_is_tree ["tree"] (defScope s_is_tree) := ⟨rfl, rfl, rfl, by decide +kernel, rfl, by decide +kernel, by decide +kernel⟩
abbrev s_must_tree : Stmt := topS 9
abbrev N_must_tree : List Str := ["tree"]
theorem sc_must_tree : FnScope N_must_tree ["tree"] (defScope s_must_tree) := ⟨rfl, rfl, rfl, by decide +kernel, rfl, by decide +kernel, by decide +kernel⟩
abbrev s_parts_of : Stmt := topS 10
abbrev N_parts_of : List Str := ["tree", "top", "at", "number"]
theorem sc_parts_of : FnScope N_parts_of ["tree"] (defScope s_parts_of) := ⟨rfl, rfl, rfl, by decide +kernel, rfl, by decide +kernel, by decide +kernel⟩
abbrev s_way_to : Stmt := topS 11
abbrev N_way_to : List Str := ["tree", "number", "found", "part", "top", "left", "right"]
theorem sc_way_to : FnScope N_way_to ["tree", "number"] (defScope s_way_to) := ⟨rfl, rfl, rfl, by decide +kernel, rfl, by decide +kernel, by decide +kernel⟩
abbrev s_path : Stmt := topS 12
abbrev N_path : List Str := ["tree", "number"]
theorem sc_path : FnScope N_path ["tree", "number"] (defScope s_path) := ⟨rfl, rfl, rfl, by decide +kernel, rfl, by decide +kernel, by decide +kernel⟩
abbrev s_depths : Stmt := topS 13
abbrev N_depths : List Str := ["tree", "found", "waiting", "part", "depth", "top", "left", "right"]
theorem sc_depths : FnScope N_depths ["tree"] (defScope s_depths) := ⟨rfl, rfl, rfl, by decide +kernel, rfl, by decide +kernel, by decide +kernel⟩
abbrev s_sides : Stmt := topS 14
abbrev N_sides : List Str := ["tree", "number", "part", "top", "left", "right"]
theorem sc_sides : FnScope N_sides ["tree", "number"] (defScope s_sides) := ⟨rfl, rfl, rfl, by decide +kernel, rfl, by decide +kernel, by decide +kernel⟩
abbrev s_turned_over : Stmt := topS 16
abbrev N_turned_over : List Str := ["tree", "number", "top", "left", "right", "low", "one", "other"]
theorem sc_turned_over : FnScope N_turned_over ["tree", "number"] (defScope s_turned_over) := ⟨rfl, rfl, rfl, by decide +kernel, rfl, by decide +kernel, by decide +kernel⟩
abbrev s_turned : Stmt := topS 17
abbrev N_turned : List Str := ["tree", "number"]
theorem sc_turned : FnScope N_turned ["tree", "number"] (defScope s_turned) := ⟨rfl, rfl, rfl, by decide +kernel, rfl, by decide +kernel, by decide +kernel⟩
abbrev s__law_mixed : Stmt := topS 19
abbrev N__law_mixed : List Str := ["_law_cell", "_law_k", "_law_rest", "_law_number"]
theorem sc__law_mixed : FnScope N__law_mixed ["_law_cell", "_law_k"] (defScope s__law_mixed) := ⟨rfl, rfl, rfl, by decide +kernel, rfl, by decide +kernel, by decide +kernel⟩
abbrev s__law_purse : Stmt := topS 20
abbrev N__law_purse : List Str := ["_law_script", "_law_cells", "_law_number", "_law_k"]
theorem sc__law_purse : FnScope N__law_purse ["_law_script"] (defScope s__law_purse) := ⟨rfl, rfl, rfl, by decide +kernel, rfl, by decide +kernel, by decide +kernel⟩
abbrev s__law_draw : Stmt := topS 21
abbrev N__law_draw : List Str := ["_law_purse_here", "_law_out_of", "_law_drawn"]
theorem sc__law_draw : FnScope N__law_draw ["_law_purse_here", "_law_out_of"] (defScope s__law_draw) := ⟨rfl, rfl, rfl, by decide +kernel, rfl, by decide +kernel, by decide +kernel⟩
abbrev s__law_numbers : Stmt := topS 22
abbrev N__law_numbers : List Str := ["_law_purse_here", "_law_most", "_law_many", "_law_far", "_law_here", "_law_found", "_law_k"]
theorem sc__law_numbers : FnScope N__law_numbers ["_law_purse_here", "_law_most"] (defScope s__law_numbers) := ⟨rfl, rfl, rfl, by decide +kernel, rfl, by decide +kernel, by decide +kernel⟩
abbrev s__law_grown : Stmt := topS 23
abbrev N__law_grown : List Str := ["_law_purse_here", "_law_numbers_here", "_law_kind", "_law_many", "_law_at"]
theorem sc__law_grown : FnScope N__law_grown ["_law_purse_here", "_law_numbers_here", "_law_kind"] (defScope s__law_grown) := ⟨rfl, rfl, rfl, by decide +kernel, rfl, by decide +kernel, by decide +kernel⟩
abbrev s__law_tree : Stmt := topS 24
abbrev N__law_tree : List Str := ["_law_purse_here", "_law_most", "_law_kind"]
theorem sc__law_tree : FnScope N__law_tree ["_law_purse_here", "_law_most"] (defScope s__law_tree) := ⟨rfl, rfl, rfl, by decide +kernel, rfl, by decide +kernel, by decide +kernel⟩
abbrev s__law_good : Stmt := topS 25
abbrev N__law_good : List Str := ["_law_tree_here", "_law_number", "_law_way", "_law_over", "_law_found", "_law_here", "_law_there", "_law_side", "_law_old", "_law_new", "_law_deep", "_law_far", "_law_one", "_law_lower", "_law_higher"]
theorem sc__law_good : FnScope N__law_good ["_law_tree_here", "_law_number"] (defScope s__law_good) := ⟨rfl, rfl, rfl, by decide +kernel, rfl, by decide +kernel, by decide +kernel⟩
abbrev s_law : Stmt := topS 26
abbrev N_law : List Str := ["_law_script", "_law_purse_here", "_law_tree_here", "_law_k", "_law_number"]
theorem sc_law : FnScope N_law ["_law_script"] (defScope s_law) := ⟨rfl, rfl, rfl, by decide +kernel, rfl, by decide +kernel, by decide +kernel⟩
/-- what the top has -/
structure G (K : PySem.W.Frag) (mg : Str → Option Value) (C : Str → Addr) : Prop where
  D_is_tree : DefAt K mg "is_tree" s_is_tree ["tree"]
  D_must_tree : DefAt K mg "must_tree" s_must_tree ["tree"]
  D_parts_of : DefAt K mg "parts_of" s_parts_of ["tree"]
  D_way_to : DefAt K mg "way_to" s_way_to ["tree", "number"]
  D_path : DefAt K mg "path" s_path ["tree", "number"]
  D_depths : DefAt K mg "depths" s_depths ["tree"]
  D_sides : DefAt K mg "sides" s_sides ["tree", "number"]
  D_turned_over : DefAt K mg "turned_over" s_turned_over ["tree", "number"]
  D_turned : DefAt K mg "turned" s_turned ["tree", "number"]
  D__law_mixed : DefAt K mg "_law_mixed" s__law_mixed ["_law_cell", "_law_k"]
  D__law_purse : DefAt K mg "_law_purse" s__law_purse ["_law_script"]
  D__law_draw : DefAt K mg "_law_draw" s__law_draw ["_law_purse_here", "_law_out_of"]
  D__law_numbers : DefAt K mg "_law_numbers" s__law_numbers ["_law_purse_here", "_law_most"]
  D__law_grown : DefAt K mg "_law_grown" s__law_grown ["_law_purse_here", "_law_numbers_here", "_law_kind"]
  D__law_tree : DefAt K mg "_law_tree" s__law_tree ["_law_purse_here", "_law_most"]
  D__law_good : DefAt K mg "_law_good" s__law_good ["_law_tree_here", "_law_number"]
  D_law : DefAt K mg "law" s_law ["_law_script"]
  m_len : mg "len" = none
  m_abs : mg "abs" = none
  m_int : mg "int" = none
  m_sorted : mg "sorted" = none
  m_range : mg "range" = none
  m_ValueError : mg "ValueError" = none
  c_MOST : ∃ t, mg "MOST" = some (.int 60 t)
  c_FAR : ∃ t, mg "FAR" = some (.int 1000000000 t)
  E_RiseError : ExcAt K mg "RiseError" (C "RiseError")
  E_NoTree : ExcAt K mg "NoTree" (C "NoTree")
  E_NoNumber : ExcAt K mg "NoNumber" (C "NoNumber")
  E_NoStep : ExcAt K mg "NoStep" (C "NoStep")
end A
namespace A
open PySem PySem.Spec PyProof.Rows L2 VS
section
variable {P : Program} {w : World} {K : PySem.W.Frag} {mg : Str → Option Value} {base : Heap} {C : Str → Addr}
def p_parts_of : PSp := fun xs m Q _ => ∃ (l r : Tr) (x : Int), xs = [nums (Tr.node l x r).pre] ∧ m = [] ∧ (Tr.node l x r).bst ∧ (Tr.node l x r).size ≤ 1000 ∧ Q (.tup [.int x, nums l.pre, nums r.pre]) []
theorem ok_parts_of (g : G K mg C) : Fn P w K mg base "parts_of" 1 1 p_parts_of := by
  have nd := sc_parts_of.nd
  have m_len := g.m_len
  refine fn_at g.D_parts_of sc_parts_of rfl fun f cdv A outer s H E B xs m Qp Ep hr tk hB hl hp => ?_
  obtain ⟨l, r, x, rfl, rfl, hb, hs, q⟩ := hp
  have hlo := Tr.lo_node hb
  have hlen : (Tr.node l x r).pre.length ≤ 100000 := by rw [Tr.len_pre]; omega
  have ht : (1 : Int) + ((l.pre.map PV.int).length : Int) = ((1 + l.pre.length : Nat) : Int) := by rw [List.length_map]; omega
  refine ⟨_, (vss_cons (vs_set 1 nd (ve_item (vv 0) ve_int) rfl (by first | exact .inl rfl | exact .inr rfl))
      (vss_cons (vs_set 2 nd (ve_add ve_int (ve_callB call_len_seq pc_len m_len (va_cons (VF.ve (vf_lc 3 rfl nd (vv 0) (blkOk_by (N := N_parts_of) (sc := defScope s_parts_of) (own := [("number", 3)]) (by decide +kernel)) (fun _ _ _ _ _ => pg_name nd rfl (by first | exact .inl rfl | exact .inr rfl)) (fun _ _ _ _ _ => (vts_one (vt_lt (vv 3) (vv 1)))) (fun _ _ _ _ _ => (vv 3)))) va_nil) (by rfl))) rfl (by first | exact .inl rfl | exact .inr rfl))
      (vss_one (vs_ret (vf_tup (vfa_cons (vf_lf (vv 1)) (vfa_cons (vf_slice (vv 0) (vo_some ve_int) (vo_some (vv 2))) (vfa_cons (vf_slice (vv 0) (vo_some (vv 2)) vo_none) vfa_nil)))))))), ?_⟩
  refine ⟨_, rfl, .int x, atI_0 _ _, ?_⟩
  refine ⟨_, rfl, (Tr.node l x r).pre.map PV.int, .inl rfl, ?_⟩
  refine lc_ints (fun i => decide (i < x)) PV.int hlen (fun n hn R m q => ⟨_, rfl, _, rfl, q⟩) (fun n hn _ R m q => ⟨_, rfl, q⟩) (fun n hn _ => rfl) ?_
  rw [hlo]
  refine ⟨_, rfl, rfl, _, rfl, _, rfl, _, rfl, _, ⟨rfl, ?_⟩, ?_⟩
  · rw [kidsLf, cut_map]; exact PV.lfs_ints _
  dsimp only
  refine ⟨_, rfl, _, rfl, _, ⟨rfl, ?_⟩, _, rfl, _, rfl, _, rfl, ?_, _, rfl, ?_⟩
  · rw [kidsLf, cut_map]; exact PV.lfs_ints _
  · exact size_ok (by simp)
  rw [ht, cut_from, show (1 : Int) = ((1 : Nat) : Int) from rfl, cut_nat]
  have e1 : List.drop 1 (List.take (1 + l.pre.length) (List.map PV.int (Tr.node l x r).pre)) = l.pre.map PV.int := by
    rw [Tr.pre, List.map_cons, Nat.add_comm, List.take_succ_cons, List.drop_one, List.tail_cons, ← List.map_take, Tr.take_node (x := x)]
  have e2 : List.drop (1 + l.pre.length) (List.map PV.int (Tr.node l x r).pre) = r.pre.map PV.int := by
    rw [Tr.pre, List.map_cons, Nat.add_comm, List.drop_succ_cons, ← List.map_drop, Tr.drop_node (x := x)]
  rw [e1, e2]
  exact q
end
end A
namespace A
open PySem PySem.Spec PyProof.Rows L2 VS
section
variable {P : Program} {w : World} {K : PySem.W.Frag} {mg : Str → Option Value} {base : Heap} {C : Str → Addr}
def optV : Option Int → PV
  | none => .non
  | some i => .int i
def p_is_tree : PSp := fun xs m Q _ => ∃ l : List Int, xs = [nums l] ∧ m = [] ∧ l.length ≤ 1000 ∧ Q (.bl (isTree l)) []
theorem popW_len {n : Int} : ∀ {low : Option Int} {st : List Int}, (popW n low st).2.length ≤ st.length
  | _, [] => Nat.le_refl _
  | low, w :: ws => by
    rw [popW]
    by_cases h : w < n
    · rw [if_pos h]; exact Nat.le_trans popW_len (Nat.le_succ _)
    · rw [if_neg h]; exact Nat.le_refl _
theorem isRun_fail {l : List Int} {i : Nat} {n : Int} {st : Option Int × List Int} (h : isRun (none, []) (l.take i) = some st) (hn : l[i]? = some n) (hf : isStep st n = none) : isTree l = false := by
  have hl : l = l.take i ++ n :: l.drop (i + 1) := by
    have h1 := List.take_append_drop i l
    have hi : i < l.length := (List.getElem?_eq_some_iff.mp hn).1
    rw [List.drop_eq_getElem_cons hi] at h1
    have : l[i] = n := by
      rw [List.getElem?_eq_getElem hi] at hn
      exact Option.some.inj hn
    rw [this] at h1
    exact h1.symm
  have : isRun (none, []) l = none := by
    rw [hl, isRun_append, h]
    show isRun st (n :: _) = none
    rw [isRun, hf]
  unfold isTree
  rw [this]; rfl
theorem isRun_next {l : List Int} {i : Nat} {n : Int} {st st' : Option Int × List Int} (h : isRun (none, []) (l.take i) = some st) (hn : l[i]? = some n) (hf : isStep st n = some st') : isRun (none, []) (l.take (i + 1)) = some st' := by
  rw [List.take_add_one, hn]
  show isRun (none, []) (l.take i ++ [n]) = some st'
  rw [isRun_append, h]
  show isRun st [n] = some st'
  rw [isRun, hf]; rfl
theorem at_last {st : List Int} {w : Int} : atI ((w :: st).reverse.map PV.int) (-1) = some (.int w) := by
  rw [List.reverse_cons, List.map_append]; exact atI_last _ _
theorem ok_is_tree (g : G K mg C) : Fn P w K mg base "is_tree" 1 1 p_is_tree := by
  have nd := sc_is_tree.nd
  have m_abs := g.m_abs
  have m_len := g.m_len
  obtain ⟨t_FAR, c_FAR⟩ := g.c_FAR
  obtain ⟨t_MOST, c_MOST⟩ := g.c_MOST
  refine fn_at g.D_is_tree sc_is_tree rfl fun f cdv A outer s H E B xs m Qp Ep hr tk hB hl hp => ?_
  obtain ⟨l, rfl, rfl, hn, q⟩ := hp
  refine ⟨_, (vss_cons (vs_set 1 nd ve_non rfl (by first | exact .inl rfl | exact .inr rfl))
      (vss_cons (vs_setF 2 nd (vf_lst va_nil) rfl (by first | exact .inl rfl | exact .inr rfl))
      (vss_cons (vs_forL 3 nd (passes_of rfl) rfl (vv 0) (vss_cut (vs_if (VW.vt (vw_or (vt_ge (ve_callB call_abs pc_abs m_abs (va_cons (vv 3) va_nil) (by rfl)) (ve_gint (by rfl) c_FAR)) (vw_or1 (VW.vt (vw_and (vt_notN (vv 1) ve_non) (vw_and1 (vt_le (vv 3) (vv 1)))))))) (vss_one (vs_ret (vf_lf ve_bl))) vss_nil)
      (vss_cons (vs_while (passes_of rfl) (VW.vt (vw_and (vt_ne hr (vv 2) (VF.ve (vf_lst va_nil))) (vw_and1 (vt_lt (ve_item (vv 2) (ve_neg ve_int)) (vv 3))))) (vss_one (vs_set 1 nd (ve_pop (vv 2)) rfl (by first | exact .inl rfl | exact .inr rfl))))
      (vss_cut (vs_if (VW.vt (vw_and (vt_ne hr (vv 2) (VF.ve (vf_lst va_nil))) (vw_and1 (vt_eq hr (ve_item (vv 2) (ve_neg ve_int)) (vv 3))))) (vss_one (vs_ret (vf_lf ve_bl))) vss_nil)
      (vss_one (vs_expr (ve_append (vv 2) (vv 3))))))) rfl (by first | exact .inl rfl | exact .inr rfl))
      (vss_one (vs_ret (vf_lf (ve_le (ve_callB call_len_seq pc_len m_len (va_cons (vv 0) va_nil) (by rfl)) (ve_gint (by rfl) c_MOST)))))))), ?_⟩
  refine ⟨Nat.zero_le _, rfl, ?_⟩
  refine ⟨_, rfl, l.map PV.int, .inl rfl, ?_⟩
  refine ⟨fun i s => ∃ (st : Option Int × List Int) (y : Option PV), isRun (none, []) (l.take i) = some st ∧ st.2.length ≤ i ∧ s = ⟨[some (nums l), some (optV st.1), some (.loc 0), y], [some (.flat (nums st.2.reverse))]⟩, ⟨(none, []), none, rfl, Nat.le_refl _, rfl⟩, fun i y s hy ⟨st, y0, hst, hsl, es⟩ => ?_, fun s ⟨st, y0, hst, hsl, es⟩ => ?_⟩
  · subst es
    obtain ⟨low, st⟩ := st
    obtain ⟨n, hn', rfl⟩ : ∃ n, l[i]? = some n ∧ y = .int n := by
      rw [List.getElem?_map] at hy
      cases e : l[i]? with
      | none => rw [e] at hy; cases hy
      | some n => rw [e] at hy; cases hy; exact ⟨n, rfl, rfl⟩
    have habs : (1000000000 ≤ if n < 0 then -n else n) ↔ 1000000000 ≤ n.natAbs := by
      by_cases h : n < 0
      · rw [if_pos h]; omega
      · rw [if_neg h]; omega
    have bad : (1000000000 ≤ n.natAbs ∨ lowBad low n = true) → Qp (.bl false) [] := fun h => by
      have hf : isStep (low, st) n = none := by unfold isStep; rw [if_pos h]
      rw [← isRun_fail hst hn' hf]; exact q
    walk_at "v"
    refine ⟨fun s => s = ⟨[some (nums l), some (optV low), some (.loc 0), some (.int n)], [some (.flat (nums st.reverse))]⟩ ∧ ¬ (1000000000 ≤ n.natAbs ∨ lowBad low n = true), ?_, ?_⟩
    · by_cases c : 1000000000 ≤ (if n < 0 then -n else n)
      · rw [if_pos c]
        exact bad (.inl (habs.mp c))
      · rw [if_neg c]
        cases low with
        | none => exact ⟨rfl, fun z => z.elim (fun z => c (habs.mpr z)) fun z => nomatch z⟩
        | some lw =>
          show if n ≤ lw then _ else _
          by_cases c2 : n ≤ lw
          · rw [if_pos c2]; exact bad (.inr (by simp [lowBad, c2]))
          · rw [if_neg c2]; exact ⟨rfl, fun z => z.elim (fun z => c (habs.mpr z)) fun z => by simp [lowBad] at z; omega⟩
    · rintro s ⟨rfl, hok⟩
      refine ⟨fun k s => ∃ low' st', popW n low' st' = popW n low st ∧ k = st'.length ∧ st'.length ≤ i ∧ s = ⟨[some (nums l), some (optV low'), some (.loc 0), some (.int n)], [some (.flat (nums st'.reverse))]⟩, ⟨_, low, st, rfl, rfl, hsl, rfl⟩, ?_⟩
      rintro k s ⟨low', st', hp, rfl, hsl', rfl⟩
      cases st' with
      | nil =>
        rw [popW] at hp
        walk_at "v"
        refine gEq.ints (ns := []) (ms := []) rfl rfl ?_
        walk_at "v"
        refine ⟨fun s => s = ⟨[some (nums l), some (optV low'), some (.loc 0), some (.int n)], [some (.flat (nums []))]⟩, ?_, ?_⟩
        · refine gEq.ints (ns := []) (ms := []) rfl rfl ?_
          walk_at "v"
          rfl
        · rintro s rfl
          refine ⟨_, rfl, 0, _, _, _, _, rfl, rfl, .flat, _, rfl, _, _, _, _, rfl, .flat, rfl, size_lt (by simp), ?_⟩
          have hf : isStep (low, st) n = some (low', [n]) := by
            unfold isStep; rw [if_neg hok, ← hp]; simp
          exact ⟨(low', [n]), _, isRun_next hst hn' hf, by simp, rfl⟩
      | cons w ws =>
        have ne : ¬ ((w :: ws).reverse = ([] : List Int)) := by simp
        have el : atI ((w :: ws).reverse.map PV.int) (-1) = some (.int w) := at_last
        walk_at "v"
        refine gEq.ints (ns := (w :: ws).reverse) (ms := []) rfl rfl ?_
        walk_at "v"
        rw [decide_eq_false ne]
        walk_at "v"
        refine ⟨_, el, ?_⟩
        by_cases c : w < n
        · simp only [c, decide_true, if_true]
          refine ⟨_, rfl, 0, _, _, _, _, .int w, rfl, rfl, .flat, ?_, ?_⟩
          · simp
          · refine ⟨ws.length, by simp, some w, ws, ?_, rfl, by simp at hsl'; omega, ?_⟩
            · rw [← hp, popW, if_pos c]
            · walk_at "v"
              simp [optV]
        · simp only [c, decide_false, if_false, Bool.false_eq_true]
          rw [popW, if_neg c] at hp
          refine ⟨fun s => s = ⟨[some (nums l), some (optV low'), some (.loc 0), some (.int n)], [some (.flat (nums (w :: ws).reverse))]⟩ ∧ w ≠ n, ?_, ?_⟩
          · walk_at "v"
            refine gEq.ints (ns := (w :: ws).reverse) (ms := []) rfl rfl ?_
            rw [decide_eq_false ne]
            walk_at "v"
            refine ⟨_, el, gEq.int rfl rfl ?_⟩
            by_cases c2 : w = n
            · simp only [c2, decide_true, id_eq, if_true]
              have hf : isStep (low, st) n = none := by
                unfold isStep; rw [if_neg hok, ← hp, if_pos (by simp [c2])]
              rw [← isRun_fail hst hn' hf]; exact q
            · simp only [c2, decide_false, id_eq, if_false, Bool.false_eq_true]
              first | exact ⟨rfl, c2⟩ | exact c2
          · rintro s ⟨rfl, c2⟩
            refine ⟨_, rfl, 0, _, _, _, _, rfl, rfl, .flat, _, rfl, _, _, _, _, rfl, .flat, rfl, size_lt (by simp at hsl' ⊢; have := (List.getElem?_eq_some_iff.mp hn').1; omega), ?_⟩
            have hf : isStep (low, st) n = some (low', n :: w :: ws) := by
              unfold isStep; rw [if_neg hok, ← hp, if_neg (by simp [c2])]
            exact ⟨(low', n :: w :: ws), some (.int n), isRun_next hst hn' hf, by simp at hsl' ⊢; omega, by simp⟩
  · subst es
    rw [List.length_map, List.take_length] at hst
    walk_at "v"
    have : isTree l = decide ((l.length : Int) ≤ 60) := by
      unfold isTree; rw [hst]
      by_cases c : l.length ≤ 60
      · simp [c]; omega
      · simp [c]; omega
    rw [this] at q
    exact q
end
end A
namespace A
open PySem PySem.Spec PyProof.Rows L2 VS
section
variable {P : Program} {w : World} {K : PySem.W.Frag} {mg : Str → Option Value} {base : Heap} {C : Str → Addr}
def p_must_tree (C : Str → Addr) : PSp := fun xs m Q E => ∃ l : List Int, xs = [nums l] ∧ m = [] ∧ l.length ≤ 1000 ∧ (isTree l = true → Q .non []) ∧ (isTree l = false → E (.ref (C "NoTree")) [])
theorem ok_must_tree (g : G K mg C) : Fn P w K mg base "must_tree" 2 1 (p_must_tree C) := by
  have nd := sc_must_tree.nd
  have E_NoTree := g.E_NoTree
  have F_is_tree := ok_is_tree (P := P) (w := w) (base := base) g
  refine fn_at g.D_must_tree sc_must_tree rfl fun f cdv A outer s H E B xs m Qp Ep hr tk hB hl hp => ?_
  obtain ⟨l, rfl, rfl, hn, q1, q2⟩ := hp
  refine ⟨_, (vss_one (vs_if (vt_not (vt_val (VF.ve (vf_call0 F_is_tree (hr.mono (by omega)) tk (va_cons (vv 0) va_nil) (by rfl))))) (vss_one (vs_raise rfl tk PySem.F.excBase_ValueError E_NoTree.xi E_NoTree.g E_NoTree.k (raises_own E_NoTree.b E_NoTree.t) (by rfl))) vss_nil)), ?_⟩
  walk_at "v"
  refine ⟨l, rfl, rfl, hn, ?_⟩
  cases e : isTree l with
  | true => walk_at "v"; exact q1 e
  | false => walk_at "v"; exact q2 e
/-- .. of a tree -/
theorem must_ok {t : Tr} (h : t.ok) {Q : PV → Ms → Prop} {E : Value → Ms → Prop} (q : Q .non []) : p_must_tree C [nums t.pre] [] Q E :=
  ⟨t.pre, rfl, rfl, by rw [Tr.len_pre]; have := h.s; omega, fun _ => q, fun z => by rw [isTree_pre h] at z; cases z⟩
end
end A
namespace A
open PySem PySem.Spec PyProof.Rows L2 VS
section
variable {P : Program} {w : World} {K : PySem.W.Frag} {mg : Str → Option Value} {base : Heap} {C : Str → Addr}
def p_way_to : PSp := fun xs m Q _ => ∃ (t : Tr) (n : Int), xs = [nums t.pre, .int n] ∧ m = [] ∧ t.bst ∧ t.size ≤ 1000 ∧ Q (nums (t.way n)) []
theorem way_len (n : Int) : ∀ t : Tr, (t.way n).length ≤ t.size
  | .nil => Nat.le_refl _
  | .node l x r => by
    have h1 := way_len n l
    have h2 := way_len n r
    rw [Tr.way, Tr.size, List.length_cons]
    by_cases c : n < x
    · rw [if_pos c]; omega
    · rw [if_neg c]
      by_cases d : x < n
      · rw [if_pos d]; omega
      · rw [if_neg d]; simp
theorem ok_way_to (g : G K mg C) : Fn P w K mg base "way_to" 2 2 p_way_to := by
  have nd := sc_way_to.nd
  have F_parts_of := ok_parts_of (P := P) (w := w) (base := base) g
  refine fn_at g.D_way_to sc_way_to rfl fun f cdv A outer s H E B xs m Qp Ep hr tk hB hl hp => ?_
  obtain ⟨t, n, rfl, rfl, hb, hs, q⟩ := hp
  refine ⟨_, (vss_cons (vs_setF 2 nd (vf_lst va_nil) rfl (by first | exact .inl rfl | exact .inr rfl))
      (vss_cons (vs_set 3 nd (vv 0) rfl (by first | exact .inl rfl | exact .inr rfl))
      (vss_cons (vs_while (passes_of rfl) (vt_ne hr (vv 3) (VF.ve (vf_lst va_nil))) (vss_cons (vs_un3 4 5 6 nd rfl (VF.ve (vf_call0 F_parts_of (hr.mono (by omega)) tk (va_cons (vv 3) va_nil) (by rfl))) rfl rfl rfl (by first | exact .inl rfl | exact .inr rfl) (by first | exact .inl rfl | exact .inr rfl) (by first | exact .inl rfl | exact .inr rfl))
      (vss_cons (vs_expr (ve_append (vv 2) (vv 4)))
      (vss_cons (vs_set 3 nd (VF.ve (vf_lst va_nil)) rfl (by first | exact .inl rfl | exact .inr rfl))
      (vss_cut (vs_if (vt_lt (vv 1) (vv 4)) (vss_one (vs_set 3 nd (vv 5) rfl (by first | exact .inl rfl | exact .inr rfl))) vss_nil)
      (vss_one (vs_if (vt_gt (vv 1) (vv 4)) (vss_one (vs_set 3 nd (vv 6) rfl (by first | exact .inl rfl | exact .inr rfl))) vss_nil)))))))
      (vss_one (vs_ret (vf_move 2 rfl (by first | exact .inl rfl | exact .inr (.inl rfl)))))))), ?_⟩
  refine ⟨Nat.zero_le _, rfl, _, rfl, ?_⟩
  refine ⟨fun k s => ∃ (u : Tr) (pre : List Int) (y1 y2 y3 : Option PV), u.bst ∧ u.size ≤ 1000 ∧ k = u.size ∧ pre ++ u.way n = t.way n ∧ s = ⟨[some (nums t.pre), some (.int n), some (.loc 0), some (nums u.pre), y1, y2, y3], [some (.flat (nums pre))]⟩, ⟨_, t, [], none, none, none, hb, hs, rfl, rfl, rfl⟩, ?_⟩
  rintro k s ⟨u, pre, y1, y2, y3, ub, us, rfl, hw, rfl⟩
  cases u with
  | nil =>
    walk_at "v"
    refine gEq.ints (ns := []) (ms := []) rfl rfl ?_
    walk_at "v"
    rw [Tr.way, List.append_nil] at hw
    refine ⟨0, _, rfl, rfl, _, ⟨rfl, PV.lfs_ints _⟩, ?_⟩
    rw [hw]; exact q
  | node l x r =>
    have ne : ¬ ((Tr.node l x r).pre = []) := by simp [Tr.pre]
    have hpl : pre.length ≤ 100000 := by
      have h1 := way_len n t
      have h2 := congrArg List.length hw
      rw [List.length_append] at h2
      omega
    walk_at "v"
    refine gEq.ints (ns := (Tr.node l x r).pre) (ms := []) rfl rfl ?_
    rw [decide_eq_false ne]
    walk_at "v"
    refine ⟨l, r, x, rfl, rfl, ub, us, ?_⟩
    walk_at "v"
    refine ⟨_, rfl, 0, _, _, _, _, rfl, rfl, .flat, _, rfl, _, _, _, _, rfl, .flat, rfl, by rw [List.length_map]; exact size_lt hpl, ?_⟩
    walk_at "v"
    refine ⟨fun s => s = ⟨[some (nums t.pre), some (.int n), some (.loc 0), some (nums (if n < x then l.pre else [])), some (.int x), some (nums l.pre), some (nums r.pre)], [some (.flat (nums (pre ++ [x])))]⟩, ?_, ?_⟩
    · by_cases c : n < x
      · simp only [c, if_true]; simp
      · simp only [c, if_false]; simp
    · rintro s rfl
      walk_at "v"
      by_cases d : x < n
      · have c : ¬ n < x := by omega
        simp only [d, c, if_true, if_false, decide_true, decide_false]
        refine ⟨r.size, by simp [Tr.size]; omega, r, pre ++ [x], _, _, _, ub.2.1, by simp [Tr.size] at us; omega, rfl, ?_, rfl⟩
        rw [← hw, Tr.way, if_neg c, if_pos d]; simp
      · by_cases c : n < x
        · simp only [d, c, if_true, if_false, decide_true, decide_false]
          refine ⟨l.size, by simp [Tr.size]; omega, l, pre ++ [x], _, _, _, ub.1, by simp [Tr.size] at us; omega, rfl, ?_, rfl⟩
          rw [← hw, Tr.way, if_pos c]; simp
        · simp only [d, c, if_true, if_false, decide_true, decide_false]
          refine ⟨0, by simp [Tr.size], .nil, pre ++ [x], _, _, _, trivial, Nat.zero_le _, rfl, ?_, rfl⟩
          rw [← hw]; simp [Tr.way, c, d]
end
end A
namespace A
open PySem PySem.Spec PyProof.Rows L2 VS
section
variable {P : Program} {w : World} {K : PySem.W.Frag} {mg : Str → Option Value} {base : Heap} {C : Str → Addr}
def p_path (C : Str → Addr) : PSp := fun xs m Q E => ∃ (t : Tr) (n : Int), xs = [nums t.pre, .int n] ∧ m = [] ∧ t.ok ∧ Q (nums (t.way n)) []
theorem ok_path (g : G K mg C) : Fn P w K mg base "path" 3 2 (p_path C) := by
  have nd := sc_path.nd
  have F_must_tree := ok_must_tree (P := P) (w := w) (base := base) g
  have F_way_to := ok_way_to (P := P) (w := w) (base := base) g
  refine fn_at g.D_path sc_path rfl fun f cdv A outer s H E B xs m Qp Ep hr tk hB hl hp => ?_
  obtain ⟨t, n, rfl, rfl, ht, q⟩ := hp
  refine ⟨_, (vss_cons (vs_expr (VF.ve (vf_call0 F_must_tree (hr.mono (by omega)) tk (va_cons (vv 0) va_nil) (by rfl))))
      (vss_one (vs_ret (vf_call0 F_way_to (hr.mono (by omega)) tk (va_cons (vv 0) (va_cons (vv 1) va_nil)) (by rfl))))), ?_⟩
  walk_at "v"
  refine must_ok ht ?_
  walk_at "v"
  have hs := ht.s
  exact ⟨t, n, rfl, rfl, ht.b, by omega, q⟩
end
end A
namespace A
open PySem PySem.Spec PyProof.Rows L2 VS
section
variable {P : Program} {w : World} {K : PySem.W.Frag} {mg : Str → Option Value} {base : Heap} {C : Str → Addr}
/-- the parts under a number -/
def Tr.sub (n : Int) : Tr → Tr × Tr
  | .nil => (.nil, .nil)
  | .node l x r => if n < x then l.sub n else if x < n then r.sub n else (l, r)
def p_sides (C : Str → Addr) : PSp := fun xs m Q E => ∃ (t : Tr) (n : Int), xs = [nums t.pre, .int n] ∧ m = [] ∧ t.ok ∧ (n ∈ t.pre → Q (.tup [nums (t.sub n).1.pre, nums (t.sub n).2.pre]) []) ∧ (n ∉ t.pre → E (.ref (C "NoNumber")) [])
theorem Tr.mem_side {l r : Tr} {x n : Int} (b : (Tr.node l x r).bst) (h : n ∈ (Tr.node l x r).pre) (ne : x ≠ n) : (n < x ∧ n ∈ l.pre) ∨ (x < n ∧ n ∈ r.pre) := by
  rw [Tr.pre] at h
  rcases List.mem_cons.mp h with z | h
  · exact absurd z.symm ne
  · rcases List.mem_append.mp h with h | h
    · exact .inl ⟨b.2.2.1 n h, h⟩
    · exact .inr ⟨b.2.2.2 n h, h⟩
theorem ok_sides (g : G K mg C) : Fn P w K mg base "sides" 3 2 (p_sides C) := by
  have nd := sc_sides.nd
  have E_NoNumber := g.E_NoNumber
  have F_must_tree := ok_must_tree (P := P) (w := w) (base := base) g
  have F_parts_of := ok_parts_of (P := P) (w := w) (base := base) g
  refine fn_at g.D_sides sc_sides rfl fun f cdv A outer s H E B xs m Qp Ep hr tk hB hl hp => ?_
  obtain ⟨t, n, rfl, rfl, ht, q1, q2⟩ := hp
  refine ⟨_, (vss_cons (vs_expr (VF.ve (vf_call0 F_must_tree (hr.mono (by omega)) tk (va_cons (vv 0) va_nil) (by rfl))))
      (vss_cut (vs_if (vt_notin (vv 1) (vv 0)) (vss_one (vs_raise rfl tk PySem.F.excBase_ValueError E_NoNumber.xi E_NoNumber.g E_NoNumber.k (raises_own E_NoNumber.b E_NoNumber.t) (by rfl))) vss_nil)
      (vss_cons (vs_set 2 nd (vv 0) rfl (by first | exact .inl rfl | exact .inr rfl))
      (vss_cons (vs_while (passes_of rfl) (vt_ne hr (ve_item (vv 2) ve_int) (vv 1)) (vss_cons (vs_un3 3 4 5 nd rfl (VF.ve (vf_call0 F_parts_of (hr.mono (by omega)) tk (va_cons (vv 2) va_nil) (by rfl))) rfl rfl rfl (by first | exact .inl rfl | exact .inr rfl) (by first | exact .inl rfl | exact .inr rfl) (by first | exact .inl rfl | exact .inr rfl))
      (vss_one (vs_if (vt_lt (vv 1) (vv 3)) (vss_one (vs_set 2 nd (vv 4) rfl (by first | exact .inl rfl | exact .inr rfl))) (vss_one (vs_set 2 nd (vv 5) rfl (by first | exact .inl rfl | exact .inr rfl)))))))
      (vss_cons (vs_unF3 3 4 5 nd rfl (vf_call0 F_parts_of (hr.mono (by omega)) tk (va_cons (vv 2) va_nil) (by rfl)) rfl rfl rfl (by first | exact .inl rfl | exact .inr rfl) (by first | exact .inl rfl | exact .inr rfl) (by first | exact .inl rfl | exact .inr rfl))
      (vss_one (vs_ret (vf_tup (vfa_cons (vf_move 4 rfl (by first | exact .inl rfl | exact .inr (.inl rfl))) (vfa_cons (vf_move 5 rfl (by first | exact .inl rfl | exact .inr (.inl rfl))) vfa_nil)))))))))), ?_⟩
  walk_at "v"
  refine must_ok ht ?_
  refine ⟨fun s => s = ⟨[some (nums t.pre), some (.int n), none, none, none, none], []⟩ ∧ n ∈ t.pre, ?_, ?_⟩
  · refine ⟨n, t.pre, rfl, .inl rfl, ?_⟩
    by_cases c : n ∈ t.pre
    · rw [decide_eq_true c]; exact ⟨rfl, c⟩
    · rw [decide_eq_false c]; exact q2 c
  · rintro s ⟨rfl, hm⟩
    walk_at "v"
    refine ⟨fun k s => ∃ (u : Tr) (y1 y2 y3 : Option PV), u.ok ∧ n ∈ u.pre ∧ u.sub n = t.sub n ∧ k = u.size ∧ s = ⟨[some (nums t.pre), some (.int n), some (nums u.pre), y1, y2, y3], []⟩, ⟨_, t, none, none, none, ht, hm, rfl, rfl, rfl⟩, ?_⟩
    rintro k s ⟨u, y1, y2, y3, uo, um, us, rfl, rfl⟩
    cases u with
    | nil => simp [Tr.pre] at um
    | node l x r =>
      have sz := uo.s
      refine ⟨_, rfl, .int x, atI_0 _ _, _, rfl, gEq.int rfl rfl ?_⟩
      by_cases c : x = n
      · rw [decide_eq_true c]
        refine ⟨_, rfl, rfl, rfl, l, r, x, rfl, rfl, uo.b, by omega, ?_⟩
        walk_at "v"
        have e : (Tr.node l x r).sub n = (l, r) := by rw [Tr.sub, if_neg (by omega), if_neg (by omega)]
        rw [← us, e] at q1
        exact ⟨1, _, rfl, rfl, _, rfl, 2, _, rfl, rfl, _, rfl, _, rfl, [some (.deep (.int x)), none, none], rfl, size_ok (by omega), q1 hm⟩
      · rw [decide_eq_false c]
        refine ⟨_, rfl, rfl, rfl, l, r, x, rfl, rfl, uo.b, by omega, ?_⟩
        walk_at "v"
        rcases Tr.mem_side uo.b um c with ⟨d, md⟩ | ⟨d, md⟩
        · simp only [d, if_true]
          refine ⟨l.size, by simp [Tr.size]; omega, l, _, _, _, uo.left, md, ?_, rfl, rfl⟩
          rw [← us, Tr.sub, if_pos d]
        · have d' : ¬ n < x := by omega
          simp only [d', if_false]
          refine ⟨r.size, by simp [Tr.size]; omega, r, _, _, _, uo.right, md, ?_, rfl, rfl⟩
          rw [← us, Tr.sub, if_neg d', if_pos d]
end
end A
namespace A
open PySem PySem.Spec PyProof.Rows L2 VS
section
variable {P : Program} {w : World} {K : PySem.W.Frag} {mg : Str → Option Value} {base : Heap} {C : Str → Addr}
def p_turned_over (n : Nat) : PSp := fun xs m Q _ => ∃ (t : Tr) (k : Int), xs = [nums t.pre, .int k] ∧ m = [] ∧ t.bst ∧ t.size ≤ n ∧ t.size ≤ 100 ∧ k ∈ t.pre ∧ t.topIs k = false ∧ Q (nums (t.rot k).pre) []
theorem Tr.top_pre {t : Tr} {k : Int} : t.topIs k = true ↔ ∃ l r, t = .node l k r := by
  cases t with
  | nil => simp [Tr.topIs]
  | node l x r =>
    simp only [Tr.topIs, decide_eq_true_eq]
    constructor
    · rintro rfl; exact ⟨l, r, rfl⟩
    · rintro ⟨a, b, e⟩; injection e
theorem head_top {t : Tr} {k : Int} (h : t ≠ .nil) : ∃ x l, t.pre = x :: l ∧ decide (x = k) = t.topIs k := by
  cases t with
  | nil => exact absurd rfl h
  | node l x r => exact ⟨x, _, rfl, rfl⟩
theorem pre_nil {t : Tr} : decide (t.pre = []) = (match t with | .nil => true | _ => false) := by
  cases t <;> simp [Tr.pre]
theorem ok_turned_over (g : G K mg C) : ∀ n : Nat, Fn P w K mg base "turned_over" (n + 2) 2 (p_turned_over n) := by
  intro n
  induction n with
  | zero =>
    refine fn_at (k := 1) g.D_turned_over sc_turned_over rfl fun f cdv A outer s H E B xs m Qp Ep hr tk hB hl hp => ?_
    obtain ⟨t, k, rfl, rfl, hb, hs, h100, hk, ht, q⟩ := hp
    cases t with
    | nil => simp [Tr.pre] at hk
    | node l x r => simp [Tr.size] at hs
  | succ n ih =>
    have nd := sc_turned_over.nd
    have F_turned_over := ih
    have F_parts_of := ok_parts_of (P := P) (w := w) (base := base) g
    refine fn_at g.D_turned_over sc_turned_over rfl fun f cdv A outer s H E B xs m Qp Ep hr tk hB hl hp => ?_
    obtain ⟨t, k, rfl, rfl, hb, hs, h100, hk, ht, q⟩ := hp
    refine ⟨_, (vss_cons (vs_un3 2 3 4 nd rfl (VF.ve (vf_call0 F_parts_of (hr.mono (by omega)) tk (va_cons (vv 0) va_nil) (by rfl))) rfl rfl rfl (by first | exact .inl rfl | exact .inr rfl) (by first | exact .inl rfl | exact .inr rfl) (by first | exact .inl rfl | exact .inr rfl))
      (vss_cut (vs_if (VW.vt (vw_and (vt_ne hr (vv 3) (VF.ve (vf_lst va_nil))) (vw_and1 (vt_eq hr (ve_item (vv 3) ve_int) (vv 1))))) (vss_cons (vs_un3 5 6 7 nd rfl (VF.ve (vf_call0 F_parts_of (hr.mono (by omega)) tk (va_cons (vv 3) va_nil) (by rfl))) rfl rfl rfl (by first | exact .inl rfl | exact .inr rfl) (by first | exact .inl rfl | exact .inr rfl) (by first | exact .inl rfl | exact .inr rfl))
      (vss_one (vs_ret (vf_add (ve_add (ve_add (ve_add (VF.ve (vf_lst (va_cons (vv 5) va_nil))) (vv 6)) (VF.ve (vf_lst (va_cons (vv 2) va_nil)))) (vv 7)) (vv 4))))) vss_nil)
      (vss_cut (vs_if (VW.vt (vw_and (vt_ne hr (vv 4) (VF.ve (vf_lst va_nil))) (vw_and1 (vt_eq hr (ve_item (vv 4) ve_int) (vv 1))))) (vss_cons (vs_un3 5 6 7 nd rfl (VF.ve (vf_call0 F_parts_of (hr.mono (by omega)) tk (va_cons (vv 4) va_nil) (by rfl))) rfl rfl rfl (by first | exact .inl rfl | exact .inr rfl) (by first | exact .inl rfl | exact .inr rfl) (by first | exact .inl rfl | exact .inr rfl))
      (vss_one (vs_ret (vf_add (ve_add (ve_add (VF.ve (vf_lst (va_cons (vv 5) (va_cons (vv 2) va_nil)))) (vv 3)) (vv 6)) (vv 7))))) vss_nil)
      (vss_cut (vs_if (vt_lt (vv 1) (vv 2)) (vss_one (vs_ret (vf_add (ve_add (VF.ve (vf_lst (va_cons (vv 2) va_nil))) (VF.ve (vf_call0 F_turned_over (hr.mono (by omega)) tk (va_cons (vv 3) (va_cons (vv 1) va_nil)) (by rfl)))) (vv 4)))) vss_nil)
      (vss_one (vs_ret (vf_add (ve_add (VF.ve (vf_lst (va_cons (vv 2) va_nil))) (vv 3)) (VF.ve (vf_call0 F_turned_over (hr.mono (by omega)) tk (va_cons (vv 4) (va_cons (vv 1) va_nil)) (by rfl)))))))))), ?_⟩
    cases t with
    | nil => simp [Tr.pre] at hk
    | node l x r =>
    have sl : l.size ≤ 100 ∧ r.size ≤ 100 ∧ l.size ≤ n ∧ r.size ≤ n := by simp [Tr.size] at hs h100; omega
    have ll := l.len_pre
    have lr := r.len_pre
    have nx : x ≠ k := by simpa [Tr.topIs] using ht
    rw [Tr.rot_eq] at q
    walk_at "v"
    refine ⟨l, r, x, rfl, rfl, hb, by omega, ?_⟩
    walk_at "v"
    refine ⟨fun s => s = ⟨[some (nums (Tr.node l x r).pre), some (.int k), some (.int x), some (nums l.pre), some (nums r.pre), none, none, none], []⟩ ∧ l.topIs k = false, ?_, ?_⟩
    · refine gEq.ints (ns := l.pre) (ms := []) rfl rfl ?_
      cases l with
      | nil => exact ⟨rfl, rfl⟩
      | node a y b =>
        rw [decide_eq_false (by simp [Tr.pre])]
        walk_at "v"
        refine ⟨.int y, atI_0 _ _, gEq.int rfl rfl ?_⟩
        by_cases c : y = k
        · rw [decide_eq_true c]
          walk_at "v"
          refine ⟨a, b, y, rfl, rfl, hb.1, by omega, ?_⟩
          walk_at "v"
          have lab : a.pre.length + b.pre.length ≤ 100 := by
            have h1 := a.len_pre
            have h2 := b.len_pre
            have := sl.1
            simp [Tr.size] at this; omega
          refine ⟨size_ok (by first | omega | (simp; omega)), size_ok (by first | omega | (simp; omega)), size_ok (by first | omega | (simp; omega)), size_ok (by first | omega | (simp; omega)), size_ok (by first | omega | (simp; omega)), size_ok (by first | omega | (simp; omega)), ?_⟩
          have e : PV.int y :: (List.map PV.int a.pre ++ [PV.int x] ++ List.map PV.int b.pre ++ List.map PV.int r.pre) = (Tr.node a y (Tr.node b x r)).pre.map PV.int := by simp [Tr.pre]
          rw [e]
          have et : (Tr.node a y b).topIs k = true := decide_eq_true c
          rw [et] at q
          exact ⟨_, ⟨rfl, by repeat (first | exact PV.lfs_ints _ | rfl | refine PV.lfs_append ?_ ?_)⟩, q⟩
        · rw [decide_eq_false c]
          first | exact ⟨rfl, decide_eq_false c⟩ | exact decide_eq_false c
    · rintro s ⟨rfl, hl0⟩
      rw [hl0] at q
      refine ⟨fun s => s = ⟨[some (nums (Tr.node l x r).pre), some (.int k), some (.int x), some (nums l.pre), some (nums r.pre), none, none, none], []⟩ ∧ r.topIs k = false, ?_, ?_⟩
      · walk_at "v"
        refine gEq.ints (ns := r.pre) (ms := []) rfl rfl ?_
        cases r with
        | nil => first | exact ⟨rfl, rfl⟩ | rfl
        | node a y b =>
          rw [decide_eq_false (by simp [Tr.pre])]
          walk_at "v"
          refine ⟨.int y, atI_0 _ _, gEq.int rfl rfl ?_⟩
          by_cases c : y = k
          · rw [decide_eq_true c]
            walk_at "v"
            refine ⟨a, b, y, rfl, rfl, hb.2.1, by omega, ?_⟩
            walk_at "v"
            have lab : a.pre.length + b.pre.length ≤ 100 := by
              have h1 := a.len_pre
              have h2 := b.len_pre
              have := sl.2.1
              simp [Tr.size] at this; omega
            refine ⟨size_ok (by first | omega | (simp; omega)), size_ok (by first | omega | (simp; omega)), size_ok (by first | omega | (simp; omega)), size_ok (by first | omega | (simp; omega)), ?_⟩
            have e : PV.int y :: PV.int x :: (List.map PV.int l.pre ++ List.map PV.int a.pre ++ List.map PV.int b.pre) = (Tr.node (Tr.node l x a) y b).pre.map PV.int := by simp [Tr.pre]
            rw [e]
            have et : (Tr.node a y b).topIs k = true := decide_eq_true c
            rw [et] at q
            exact ⟨_, ⟨rfl, by repeat (first | exact PV.lfs_ints _ | rfl | refine PV.lfs_append ?_ ?_)⟩, q⟩
          · rw [decide_eq_false c]
            first | exact ⟨rfl, decide_eq_false c⟩ | exact decide_eq_false c
      · rintro s ⟨rfl, hr0⟩
        rw [hr0] at q
        refine ⟨fun s => s = ⟨[some (nums (Tr.node l x r).pre), some (.int k), some (.int x), some (nums l.pre), some (nums r.pre), none, none, none], []⟩ ∧ ¬ k < x, ?_, ?_⟩
        · walk_at "v"
          by_cases c : k < x
          · rw [if_pos c]
            have km : k ∈ l.pre := by
              rcases Tr.mem_side hb hk nx with ⟨_, h⟩ | ⟨h, _⟩
              · exact h
              · omega
            refine ⟨size_ok (by first | omega | (simp; omega)), l, k, rfl, rfl, hb.1, sl.2.2.1, sl.1, km, hl0, ?_⟩
            have lrot := (l.rot k).len_pre
            rw [Tr.size_rot] at lrot
            walk_at "v"
            refine ⟨size_ok (by first | omega | (simp; omega)), size_ok (by first | omega | (simp; omega)), ?_⟩
            have e : PV.int x :: (List.map PV.int (Tr.rot k l).pre ++ List.map PV.int r.pre) = (Tr.node (l.rot k) x r).pre.map PV.int := by simp [Tr.pre]
            rw [e]
            rw [if_neg (by simp), if_neg (by simp), if_pos c] at q
            exact ⟨_, ⟨rfl, by repeat (first | exact PV.lfs_ints _ | rfl | refine PV.lfs_append ?_ ?_)⟩, q⟩
          · rw [if_neg c]; first | exact ⟨rfl, c⟩ | exact c
        · rintro s ⟨rfl, c⟩
          have km : k ∈ r.pre := by
            rcases Tr.mem_side hb hk nx with ⟨h, _⟩ | ⟨_, h⟩
            · omega
            · exact h
          walk_at "v"
          refine ⟨size_ok (by first | omega | (simp; omega)), size_ok (by first | omega | (simp; omega)), r, k, rfl, rfl, hb.2.1, sl.2.2.2, sl.2.1, km, hr0, ?_⟩
          have lrot := (r.rot k).len_pre
          rw [Tr.size_rot] at lrot
          walk_at "v"
          refine ⟨size_ok (by first | omega | (simp; omega)), ?_⟩
          have e : PV.int x :: (List.map PV.int l.pre ++ List.map PV.int (Tr.rot k r).pre) = (Tr.node l x (r.rot k)).pre.map PV.int := by simp [Tr.pre]
          rw [e]
          rw [if_neg (by simp), if_neg (by simp), if_neg c] at q
          exact ⟨_, ⟨rfl, by repeat (first | exact PV.lfs_ints _ | rfl | refine PV.lfs_append ?_ ?_)⟩, q⟩
end
end A
namespace A
open PySem PySem.Spec PyProof.Rows L2 VS
section
variable {P : Program} {w : World} {K : PySem.W.Frag} {mg : Str → Option Value} {base : Heap} {C : Str → Addr}
def p_turned (C : Str → Addr) : PSp := fun xs m Q E => ∃ (t : Tr) (k : Int), xs = [nums t.pre, .int k] ∧ m = [] ∧ t.ok ∧ (k ∉ t.pre → E (.ref (C "NoNumber")) []) ∧ (t.topIs k = true → E (.ref (C "NoStep")) []) ∧ (k ∈ t.pre → t.topIs k = false → Q (nums (t.rot k).pre) [])
theorem ok_turned (g : G K mg C) : Fn P w K mg base "turned" 63 2 (p_turned C) := by
  have nd := sc_turned.nd
  have E_NoNumber := g.E_NoNumber
  have E_NoStep := g.E_NoStep
  have F_must_tree := ok_must_tree (P := P) (w := w) (base := base) g
  have F_turned_over := ok_turned_over (P := P) (w := w) (base := base) g 60
  refine fn_at g.D_turned sc_turned rfl fun f cdv A outer s H E B xs m Qp Ep hr tk hB hl hp => ?_
  obtain ⟨t, k, rfl, rfl, ht, q1, q2, q3⟩ := hp
  refine ⟨_, (vss_cons (vs_expr (VF.ve (vf_call0 F_must_tree (hr.mono (by omega)) tk (va_cons (vv 0) va_nil) (by rfl))))
      (vss_cut (vs_if (vt_notin (vv 1) (vv 0)) (vss_one (vs_raise rfl tk PySem.F.excBase_ValueError E_NoNumber.xi E_NoNumber.g E_NoNumber.k (raises_own E_NoNumber.b E_NoNumber.t) (by rfl))) vss_nil)
      (vss_cut (vs_if (vt_eq hr (ve_item (vv 0) ve_int) (vv 1)) (vss_one (vs_raise rfl tk PySem.F.excBase_ValueError E_NoStep.xi E_NoStep.g E_NoStep.k (raises_own E_NoStep.b E_NoStep.t) (by rfl))) vss_nil)
      (vss_one (vs_ret (vf_call0 F_turned_over (hr.mono (by omega)) tk (va_cons (vv 0) (va_cons (vv 1) va_nil)) (by rfl))))))), ?_⟩
  walk_at "v"
  refine must_ok ht ?_
  refine ⟨fun s => s = ⟨[some (nums t.pre), some (.int k)], []⟩ ∧ k ∈ t.pre, ?_, ?_⟩
  · refine ⟨k, t.pre, rfl, .inl rfl, ?_⟩
    by_cases c : k ∈ t.pre
    · rw [decide_eq_true c]; exact ⟨rfl, c⟩
    · rw [decide_eq_false c]; exact q1 c
  · rintro s ⟨rfl, hm⟩
    cases t with
    | nil => simp [Tr.pre] at hm
    | node l x r =>
    refine ⟨fun s => s = ⟨[some (nums (Tr.node l x r).pre), some (.int k)], []⟩ ∧ (Tr.node l x r).topIs k = false, ?_, ?_⟩
    · refine ⟨_, rfl, .int x, atI_0 _ _, _, rfl, gEq.int rfl rfl ?_⟩
      by_cases c : x = k
      · rw [decide_eq_true c]; exact q2 (decide_eq_true c)
      · rw [decide_eq_false c]; exact ⟨rfl, decide_eq_false c⟩
    · rintro s ⟨rfl, hn⟩
      walk_at "v"
      have hs := ht.s
      exact ⟨_, k, rfl, rfl, ht.b, by omega, by omega, hm, hn, q3 hm hn⟩
end
end A
namespace A
open PySem PySem.Spec PyProof.Rows L2 VS
section
variable {P : Program} {w : World} {K : PySem.W.Frag} {mg : Str → Option Value} {base : Heap} {C : Str → Addr}
def p_mixed : PSp := fun xs m Q _ => ∃ a k : Int, xs = [.int a, .int k] ∧ m = [] ∧ 0 ≤ k ∧ k < 1000 ∧ ∀ r : Int, 0 ≤ r → r < 2147483587 → Q (.int r) []
theorem ok__law_mixed (g : G K mg C) : Fn P w K mg base "_law_mixed" 1 2 p_mixed := by
  have nd := sc__law_mixed.nd
  refine fn_at g.D__law_mixed sc__law_mixed rfl fun f cdv A outer s H E B xs m Qp Ep hr tk hB hl hp => ?_
  obtain ⟨a, k, rfl, rfl, hk0, hk1, q⟩ := hp
  refine ⟨_, (vss_cons (vs_set 2 nd (ve_mod (vv 0) (ve_pow ve_int ve_int)) rfl (by first | exact .inl rfl | exact .inr rfl))
      (vss_cons (vs_set 3 nd (ve_mod (ve_mul (ve_add (ve_add (ve_add (ve_mul (vv 2) (vv 2)) (ve_mul ve_int (vv 2))) (ve_mul ve_int (vv 1))) ve_int) ve_int) ve_int) rfl (by first | exact .inl rfl | exact .inr rfl))
      (vss_one (vs_ret (vf_lf (ve_mod (ve_add (ve_mul (vv 3) (vv 3)) ve_int) ve_int)))))), ?_⟩
  walk_at "v"
  have p15 : (10 : Int) ^ (15 : Int).toNat = 1000000000000000 := by decide
  rw [p15]
  have h1 := Int.emod_nonneg a (show (1000000000000000 : Int) ≠ 0 by decide)
  have h2 := Int.emod_lt_of_pos a (show (0 : Int) < 1000000000000000 by decide)
  refine ⟨⟨by decide, by decide, by decide⟩, by decide, ?_⟩
  generalize a % 1000000000000000 = b at h1 h2 ⊢
  refine ⟨.inl ⟨by omega, by omega⟩, .inl ⟨by decide, by decide⟩, .inl ⟨by decide, by decide⟩, .inr ⟨by decide, by decide⟩, by decide, ?_⟩
  have h3 := Int.emod_nonneg ((b * b + 3 * b + 7919 * k + 1) * 48271) (show (2147483629 : Int) ≠ 0 by decide)
  have h4 := Int.emod_lt_of_pos ((b * b + 3 * b + 7919 * k + 1) * 48271) (show (0 : Int) < 2147483629 by decide)
  generalize ((b * b + 3 * b + 7919 * k + 1) * 48271) % 2147483629 = d at h3 h4 ⊢
  refine ⟨.inl ⟨by omega, by omega⟩, by decide, q _ (Int.emod_nonneg _ (by decide)) (Int.emod_lt_of_pos _ (by decide))⟩
end
end A
namespace A
open PySem PySem.Spec PyProof.Rows L2 VS
section
variable {P : Program} {w : World} {K : PySem.W.Frag} {mg : Str → Option Value} {base : Heap} {C : Str → Addr}
def p_purse : PSp := fun xs m Q _ => ∃ ns : List Int, xs = [.cl (ns.map PV.int)] ∧ m = [] ∧ ns.length ≤ 63 ∧ ∀ a b : Int, Q (.lst [.int a, .int b]) []
theorem ok__law_purse (g : G K mg C) : Fn P w K mg base "_law_purse" 2 1 p_purse := by
  have nd := sc__law_purse.nd
  have m_abs := g.m_abs
  have m_len := g.m_len
  have m_range := g.m_range
  have F__law_mixed := ok__law_mixed (P := P) (w := w) (base := base) g
  refine fn_at g.D__law_purse sc__law_purse rfl fun f cdv A outer s H E B xs m Qp Ep hr tk hB hl hp => ?_
  obtain ⟨ns, rfl, rfl, hn, q⟩ := hp
  refine ⟨_, (vss_cons (vs_set 1 nd (ve_add (VF.ve (vf_slice (vv 0) vo_none (vo_some ve_int))) (VF.ve (vf_lst (va_cons ve_int va_nil)))) rfl (by first | exact .inl rfl | exact .inr rfl))
      (vss_cons (vs_set 2 nd ve_int rfl (by first | exact .inl rfl | exact .inr rfl))
      (vss_cons (vs_forR1 3 nd (passes_of rfl) rfl m_range (va_cons ve_int va_nil) (vss_one (vs_set 2 nd (ve_add (ve_mul (vv 2) ve_int) (VF.ve (vf_call0 F__law_mixed (hr.mono (by omega)) tk (va_cons (ve_item (vv 1) (ve_mod (vv 3) (ve_callB call_len_seq pc_len m_len (va_cons (vv 1) va_nil) (by rfl)))) (va_cons (vv 3) va_nil)) (by rfl)))) rfl (by first | exact .inl rfl | exact .inr rfl))) rfl rfl (by first | exact .inl rfl | exact .inr rfl))
      (vss_cut (vs_if (vt_ge (ve_callB call_abs pc_abs m_abs (va_cons (ve_item (vv 1) ve_int) va_nil) (by rfl)) (ve_pow ve_int ve_int)) (vss_one (vs_ret (vf_lst (va_cons (ve_callB call_abs pc_abs m_abs (va_cons (ve_item (vv 1) ve_int) va_nil) (by rfl)) (va_cons (vv 2) va_nil))))) vss_nil)
      (vss_one (vs_ret (vf_lst (va_cons (vv 2) (va_cons (vv 2) va_nil))))))))), ?_⟩
  have e1 : cutA (ns.map PV.int) none (some 63) ++ [PV.int 0] = (ns ++ [0]).map PV.int := by
    rw [show (63 : Int) = ((63 : Nat) : Int) from rfl, cut_to, List.take_of_length_le (by simpa using hn)]; simp
  have e2 : (cutA (ns.map PV.int) none (some 63)).length + 1 ≤ sizeLine := by
    rw [show (63 : Int) = ((63 : Nat) : Int) from rfl, cut_to]
    exact size_ok (by rw [List.length_take]; simp; omega)
  obtain ⟨c0, cs, ec⟩ : ∃ c0 cs, ns ++ [0] = c0 :: cs := by
    cases ns with
    | nil => exact ⟨0, [], rfl⟩
    | cons n r => exact ⟨n, r ++ [0], rfl⟩
  have hcs : cs.length ≤ 63 := by
    have := congrArg List.length ec
    simp at this; omega
  walk_at "v"
  refine ⟨size_ok (by omega), e2, ?_⟩
  rw [e1, ec]
  refine ⟨by decide, by decide, fun i s => ∃ (z : Int) (y : Option PV), s = ⟨[some (.cl (ns.map PV.int)), some (nums (c0 :: cs)), some (.int z), y], []⟩, ⟨1, none, rfl⟩, ?_, ?_⟩
  · rintro i s hi ⟨z, y, rfl⟩
    have hi' : (i : Int) < 64 := by
      have : (64 : Int).toNat = 64 := rfl
      omega
    walk_at "v"
    refine ⟨.inr ⟨by decide, by decide⟩, by omega, ?_⟩
    have hm0 := Int.emod_nonneg (0 + (i : Int)) (show ((cs.length + 1 : Nat) : Int) ≠ 0 by omega)
    have hm1 := Int.emod_lt_of_pos (0 + (i : Int)) (show (0 : Int) < ((cs.length + 1 : Nat) : Int) by omega)
    have hat : ∃ v : Int, atI ((c0 :: cs).map PV.int) ((0 + (i : Int)) % ((cs.length + 1 : Nat) : Int)) = some (.int v) := by
      rw [atI_map, atI_int _ _ hm0 (by simpa using hm1)]
      have hlt : ((0 + (i : Int)) % ((cs.length + 1 : Nat) : Int)).toNat < (c0 :: cs).length := by rw [List.length_cons]; omega
      exact ⟨_, by rw [List.getElem?_eq_getElem hlt]; rfl⟩
    obtain ⟨v, hv⟩ := hat
    refine ⟨_, hv, rfl, v, 0 + (i : Int), rfl, rfl, by omega, by omega, fun r _ _ => ?_⟩
    exact ⟨_, _, rfl⟩
  · rintro s ⟨z, y, rfl⟩
    refine ⟨fun s => s = ⟨[some (.cl (ns.map PV.int)), some (nums (c0 :: cs)), some (.int z), y], []⟩, ?_, ?_⟩
    · refine ⟨_, rfl, .int c0, atI_0 _ _, ⟨by decide, by decide, by decide⟩, ?_⟩
      walk_at "v"
      by_cases c : (10 : Int) ^ (18 : Int).toNat ≤ (if c0 < 0 then -c0 else c0)
      · rw [if_pos c]
        exact ⟨.int c0, atI_0 _ _, size_ok (by omega), q _ _⟩
      · rw [if_neg c]; trivial
    · rintro s rfl
      walk_at "v"
      exact ⟨size_ok (by omega), q _ _⟩
end
end A
namespace A
open PySem PySem.Spec PyProof.Rows L2 VS
section
variable {P : Program} {w : World} {K : PySem.W.Frag} {mg : Str → Option Value} {base : Heap} {C : Str → Addr}
abbrev pu (a b : Int) : LK := .deep (.lst [.int a, .int b])
def p_draw : PSp := fun xs m Q _ => ∃ a b n : Int, xs = [.loc 0, .int n] ∧ m = [some (pu a b)] ∧ 0 < n ∧ n < 1073741824 ∧ ∀ r a' : Int, 0 ≤ r → r < n → Q (.int r) [some (pu a' b)]
theorem ok__law_draw (g : G K mg C) : Fn P w K mg base "_law_draw" 1 2 p_draw := by
  have nd := sc__law_draw.nd
  refine fn_at g.D__law_draw sc__law_draw rfl fun f cdv A outer s H E B xs m Qp Ep hr tk hB hl hp => ?_
  obtain ⟨a, b, n, rfl, rfl, h0, h1, q⟩ := hp
  have at1 : ∀ a b : Int, atI [PV.int a, PV.int b] 1 = some (.int b) := fun a b => atI_nat (j := 1) rfl
  refine ⟨_, (vss_cut (vs_if (vt_eq hr (ve_item (vv 0) ve_int) ve_int) (vss_one (vs_setI (ve_item (vv 0) ve_int) (vv 0) ve_int)) vss_nil)
      (vss_cons (vs_set 2 nd (ve_mod (ve_item (vv 0) ve_int) (vv 1)) rfl (by first | exact .inl rfl | exact .inr rfl))
      (vss_cons (vs_setI (ve_fdiv (ve_item (vv 0) ve_int) (vv 1)) (vv 0) ve_int)
      (vss_one (vs_ret (vf_lf (vv 2))))))), ?_⟩
  refine ⟨fun s => ∃ a', s = ⟨[some (.loc 0), some (.int n), none], [some (pu a' b)]⟩, ?_, ?_⟩
  · walk_at "v"
    refine ⟨.int a, atI_0 _ _, gEq.int rfl rfl ?_⟩
    by_cases c : a = 0
    · rw [decide_eq_true c]
      walk_at "v"
      refine ⟨_, at1 a b, 0, _, _, _, _, 0, 0, rfl, rfl, .deep rfl, rfl, rfl, rfl, b, rfl⟩
    · rw [decide_eq_false c]
      exact ⟨a, rfl⟩
  · rintro s ⟨a', rfl⟩
    walk_at "v"
    refine ⟨_, atI_0 _ _, h0, _, atI_0 _ _, ⟨h0, h1⟩, 0, _, _, _, _, 0, 0, rfl, rfl, .deep rfl, rfl, rfl, rfl, ?_⟩
    walk_at "v"
    exact q _ _ (Int.emod_nonneg _ (by omega)) (Int.emod_lt_of_pos _ h0)
end
end A
namespace A
open PySem PySem.Spec PyProof.Rows L2 VS
section
variable {P : Program} {w : World} {K : PySem.W.Frag} {mg : Str → Option Value} {base : Heap} {C : Str → Addr}
def p_numbers : PSp := fun xs m Q _ => ∃ a b n : Int, xs = [.loc 0, .int n] ∧ m = [some (pu a b)] ∧ 0 ≤ n ∧ n ≤ 60 ∧ ∀ (ns : List Int) (a' b' : Int), (ns.length : Int) ≤ n → ns.Pairwise (· < ·) → (∀ y ∈ ns, y.natAbs < 1000000000) → Q (nums ns) [some (pu a' b')]
theorem ok__law_numbers (g : G K mg C) : Fn P w K mg base "_law_numbers" 2 2 p_numbers := by
  have nd := sc__law_numbers.nd
  have m_range := g.m_range
  have F__law_draw := ok__law_draw (P := P) (w := w) (base := base) g
  refine fn_at g.D__law_numbers sc__law_numbers rfl fun f cdv A outer s H E B xs m Qp Ep hr tk hB hl hp => ?_
  obtain ⟨a, b, n, rfl, rfl, h0, h1, q⟩ := hp
  have p7 : (10 : Int) ^ (7 : Int).toNat = 10000000 := by decide
  refine ⟨_, (vss_cons (vs_set 2 nd (VF.ve (vf_call1 0 F__law_draw (hr.mono (by omega)) tk (va_cons (vv 0) (va_cons (ve_add (vv 1) ve_int) va_nil)) (by rfl))) rfl (by first | exact .inl rfl | exact .inr rfl))
      (vss_cons (vs_set 3 nd (ve_item (VF.ve (vf_lst (va_cons ve_int (va_cons ve_int (va_cons (ve_pow ve_int ve_int) va_nil))))) (VF.ve (vf_call1 0 F__law_draw (hr.mono (by omega)) tk (va_cons (vv 0) (va_cons ve_int va_nil)) (by rfl)))) rfl (by first | exact .inl rfl | exact .inr rfl))
      (vss_cons (vs_set 4 nd (ve_sub (VF.ve (vf_call1 0 F__law_draw (hr.mono (by omega)) tk (va_cons (vv 0) (va_cons ve_int va_nil)) (by rfl))) (ve_mul ve_int (VF.ve (vf_call1 0 F__law_draw (hr.mono (by omega)) tk (va_cons (vv 0) (va_cons ve_int va_nil)) (by rfl))))) rfl (by first | exact .inl rfl | exact .inr rfl))
      (vss_cons (vs_setF 5 nd (vf_lst va_nil) rfl (by first | exact .inl rfl | exact .inr rfl))
      (vss_cons (vs_forR1 6 nd (passes_of rfl) rfl m_range (va_cons (vv 2) va_nil) (vss_cons (vs_expr (ve_append (vv 5) (vv 4)))
      (vss_one (vs_set 4 nd (ve_add (ve_add (vv 4) ve_int) (VF.ve (vf_call1 0 F__law_draw (hr.mono (by omega)) tk (va_cons (vv 0) (va_cons (vv 3) va_nil)) (by rfl)))) rfl (by first | exact .inl rfl | exact .inr rfl)))) rfl rfl (by first | exact .inl rfl | exact .inr rfl))
      (vss_one (vs_ret (vf_move 5 rfl (by first | exact .inl rfl | exact .inr (.inl rfl)))))))))), ?_⟩
  walk_at "v"
  refine ⟨a, b, n + 1, rfl, rfl, by omega, by omega, fun many a1 hm0 hm1 => ⟨_, rfl, ?_⟩⟩
  walk_at "v"

  refine ⟨⟨by decide, by decide, by decide⟩, size_ok (by omega), a1, b, 3, rfl, rfl, by decide, by decide, fun r a2 hr0 hr1 => ⟨_, rfl, ?_⟩⟩
  walk_at "v"
  rw [p7]
  have hfar : ∃ far : Int, atI [PV.int 1, PV.int 3, PV.int 10000000] r = some (.int far) ∧ 1 ≤ far ∧ far ≤ 10000000 := by
    have h3 : r = 0 ∨ r = 1 ∨ r = 2 := by omega
    rcases h3 with rfl | rfl | rfl
    · exact ⟨1, atI_nat (j := 0) rfl, by decide, by decide⟩
    · exact ⟨3, atI_nat (j := 1) rfl, by decide, by decide⟩
    · exact ⟨10000000, atI_nat (j := 2) rfl, by decide, by decide⟩
  obtain ⟨far, hat, hf0, hf1⟩ := hfar
  refine ⟨_, hat, a2, b, 41, rfl, rfl, by decide, by decide, fun d1 a3 hd0 hd1 => ⟨_, rfl, ?_⟩⟩
  walk_at "v"
  refine ⟨a3, b, 2, rfl, rfl, by decide, by decide, fun d2 a4 he0 he1 => ⟨_, rfl, ?_⟩⟩
  walk_at "v"
  refine ⟨.inl ⟨by decide, by decide⟩, _, rfl, (by omega : -(2 ^ 62) ≤ many), (by omega : many < 2 ^ 62), ?_⟩
  refine ⟨fun i s => ∃ (ns : List Int) (here a' : Int) (y : Option PV), ns.length = i ∧ ns.Pairwise (· < ·) ∧ (∀ z ∈ ns, z < here ∧ -40 ≤ z ∧ z ≤ 40 + 10000001 * i) ∧ -40 ≤ here ∧ here ≤ 40 + 10000001 * i ∧ s = ⟨[some (.loc 0), some (.int n), some (.int many), some (.int far), some (.int here), some (.loc 1), y], [some (pu a' b), some (.flat (nums ns))]⟩, ⟨[], d1 - 20 * d2, a4, none, rfl, .nil, fun z hz => (by cases hz), by omega, by omega, rfl⟩, ?_, ?_⟩
  · rintro i s hi ⟨ns, here, a', y, hlen, hpw, hall, hh0, hh1, rfl⟩
    refine ⟨_, rfl, 1, _, _, _, _, rfl, rfl, .flat, _, rfl, _, _, _, _, rfl, .flat, rfl, by rw [List.length_map]; exact size_lt (by omega), ?_⟩
    walk_at "v"
    refine ⟨a', b, far, rfl, rfl, by omega, by omega, fun st a5 hs0 hs1 => ⟨_, rfl, ?_⟩⟩
    walk_at "v"
    refine ⟨ns ++ [here], here + 1 + st, a5, some (.int i), by simp [hlen], ?_, ?_, by omega, by omega, by simp⟩
    · rw [List.pairwise_append]
      refine ⟨hpw, List.pairwise_singleton _ _, fun z hz w hw => ?_⟩
      cases List.mem_singleton.mp hw
      exact (hall z hz).1
    · intro z hz
      rcases List.mem_append.mp hz with hz | hz
      · have := hall z hz
        omega
      · cases List.mem_singleton.mp hz
        omega
  · rintro s ⟨ns, here, a', y, hlen, hpw, hall, hh0, hh1, rfl⟩
    refine ⟨1, _, rfl, rfl, _, ⟨rfl, PV.lfs_ints _⟩, q ns a' b (by omega) hpw fun z hz => ?_⟩
    have := hall z hz
    omega
end
end A
namespace A
open PySem PySem.Spec PyProof.Rows L2 VS
section
variable {P : Program} {w : World} {K : PySem.W.Frag} {mg : Str → Option Value} {base : Heap} {C : Str → Addr}
def p_grown (k : Nat) : PSp := fun xs m Q _ => ∃ (a b : Int) (ns : List Int) (kind : Int), xs = [.loc 0, nums ns, .int kind] ∧ m = [some (pu a b)] ∧ ns.length < k ∧ ns.length ≤ 100 ∧ 0 ≤ kind ∧ kind < 5 ∧ ∀ (t : Tr) (a' b' : Int), t.ino = ns → Q (nums t.pre) [some (pu a' b')]
theorem ok__law_grown (g : G K mg C) : ∀ k : Nat, Fn P w K mg base "_law_grown" (k + 2) 3 (p_grown k) := by
  intro k
  induction k with
  | zero =>
    refine fn_at (k := 1) g.D__law_grown sc__law_grown rfl fun f cdv A outer s H E B xs m Qp Ep hr tk hB hl hp => ?_
    obtain ⟨_, _, _, _, _, _, h, _⟩ := hp
    exact absurd h (Nat.not_lt_zero _)
  | succ k ih =>
    have nd := sc__law_grown.nd
    have m_len := g.m_len
    have F__law_grown := ih
    have F__law_draw := ok__law_draw (P := P) (w := w) (base := base) g
    refine fn_at g.D__law_grown sc__law_grown rfl fun f cdv A outer s H E B xs m Qp Ep hr tk hB hl hp => ?_
    obtain ⟨a, b, ns, kind, rfl, rfl, hk, h100, k0, k1, q⟩ := hp
    refine ⟨_, (vss_cut (vs_if (vt_eq hr (vv 1) (VF.ve (vf_lst va_nil))) (vss_one (vs_ret (vf_lst va_nil))) vss_nil)
      (vss_cons (vs_set 3 nd (ve_callB call_len_seq pc_len m_len (va_cons (vv 1) va_nil) (by rfl)) rfl (by first | exact .inl rfl | exact .inr rfl))
      (vss_cons (vs_set 4 nd (ve_item (VF.ve (vf_lst (va_cons (VF.ve (vf_call1 0 F__law_draw (hr.mono (by omega)) tk (va_cons (vv 0) (va_cons (vv 3) va_nil)) (by rfl))) (va_cons ve_int (va_cons (ve_sub (vv 3) ve_int) (va_cons (ve_item (VF.ve (vf_lst (va_cons ve_int (va_cons (ve_sub (vv 3) ve_int) va_nil)))) (ve_mod (vv 3) ve_int)) (va_cons (ve_fdiv (vv 3) ve_int) va_nil))))))) (vv 2)) rfl (by first | exact .inl rfl | exact .inr rfl))
      (vss_one (vs_ret (vf_add (ve_add (VF.ve (vf_lst (va_cons (ve_item (vv 1) (vv 4)) va_nil))) (VF.ve (vf_call1 0 F__law_grown (hr.mono (by omega)) tk (va_cons (vv 0) (va_cons (VF.ve (vf_slice (vv 1) vo_none (vo_some (vv 4)))) (va_cons (vv 2) va_nil))) (by rfl)))) (VF.ve (vf_call1 0 F__law_grown (hr.mono (by omega)) tk (va_cons (vv 0) (va_cons (VF.ve (vf_slice (vv 1) (vo_some (ve_add (vv 4) ve_int)) vo_none)) (va_cons (vv 2) va_nil))) (by rfl))))))))), ?_⟩
    refine ⟨fun s => s = ⟨[some (.loc 0), some (nums ns), some (.int kind), none, none], [some (pu a b)]⟩ ∧ ns ≠ [], ?_, ?_⟩
    · walk_at "v"
      refine gEq.ints (ns := ns) (ms := []) rfl rfl ?_
      by_cases c : ns = []
      · rw [decide_eq_true c]
        walk_at "v"
        exact q .nil a b (by rw [c]; rfl)
      · rw [decide_eq_false c]
        exact c
    · rintro s ⟨rfl, hne⟩
      have hpos : 0 < ns.length := List.length_pos_iff.mpr hne
      walk_at "v"
      refine ⟨a, b, (ns.length : Int), rfl, rfl, by omega, by omega, fun d a1 d0 d1 => ⟨_, rfl, ?_⟩⟩
      walk_at "v"
      have hz : ∃ z : Int, atI [PV.int 0, PV.int ((ns.length : Int) - 1)] ((ns.length : Int) % 2) = some (.int z) ∧ 0 ≤ z ∧ z < ns.length := by
        have h2 : (ns.length : Int) % 2 = 0 ∨ (ns.length : Int) % 2 = 1 := by omega
        rcases h2 with h2 | h2
        · rw [h2]; exact ⟨_, atI_nat (j := 0) rfl, by omega, by omega⟩
        · rw [h2]; exact ⟨_, atI_nat (j := 1) rfl, by omega, by omega⟩
      obtain ⟨z, hz, hz0, hz1⟩ := hz
      have hat : ∃ at_ : Nat, atI [PV.int d, PV.int 0, PV.int ((ns.length : Int) - 1), PV.int z, PV.int ((ns.length : Int) / 2)] kind = some (.int at_) ∧ at_ < ns.length := by
        have h5 : kind = 0 ∨ kind = 1 ∨ kind = 2 ∨ kind = 3 ∨ kind = 4 := by omega
        have tn : ∀ y : Int, 0 ≤ y → y < ns.length → ∃ at_ : Nat, y = at_ ∧ at_ < ns.length := fun y y0 y1 => ⟨y.toNat, by omega, by omega⟩
        rcases h5 with rfl | rfl | rfl | rfl | rfl
        · obtain ⟨e, e1, e2⟩ := tn d d0 d1
          exact ⟨e, by rw [← e1]; exact atI_nat (j := 0) rfl, e2⟩
        · obtain ⟨e, e1, e2⟩ := tn 0 (by omega) (by omega)
          exact ⟨e, by rw [← e1]; exact atI_nat (j := 1) rfl, e2⟩
        · obtain ⟨e, e1, e2⟩ := tn ((ns.length : Int) - 1) (by omega) (by omega)
          exact ⟨e, by rw [← e1]; exact atI_nat (j := 2) rfl, e2⟩
        · obtain ⟨e, e1, e2⟩ := tn z hz0 hz1
          exact ⟨e, by rw [← e1]; exact atI_nat (j := 3) rfl, e2⟩
        · obtain ⟨e, e1, e2⟩ := tn ((ns.length : Int) / 2) (by omega) (by omega)
          exact ⟨e, by rw [← e1]; exact atI_nat (j := 4) rfl, e2⟩
      obtain ⟨e, he, hlt⟩ := hat
      have hsp : ns = ns.take e ++ ns[e] :: ns.drop (e + 1) := by
        rw [List.getElem_cons_drop, List.take_append_drop]
      refine ⟨size_ok (by omega), by omega, _, hz, ⟨by omega, by omega⟩, size_ok (by omega), rfl, _, he, PV.int ns[e], by rw [atI_map, atI_nat (List.getElem?_eq_getElem hlt)]; rfl, size_ok (by omega), rfl, ?_⟩
      walk_at "v"
      rw [cut_map, cut_to]
      have l1 : (ns.take e).length = e := by rw [List.length_take]; omega
      have l2 : (ns.drop (e + 1)).length = ns.length - (e + 1) := List.length_drop ..
      refine ⟨a1, b, ns.take e, kind, rfl, rfl, by omega, by omega, k0, k1, fun l a2 b2 hl' => ⟨_, rfl, ?_⟩⟩
      walk_at "v"
      have ll : l.pre.length = e := by rw [Tr.len_pre, Tr.size_eq, hl', l1]
      refine ⟨size_ok (by omega), ?_⟩
      have e1 : (e : Int) + 1 = ((e + 1 : Nat) : Int) := rfl
      rw [e1, cut_map, cut_from]
      refine ⟨a2, b2, ns.drop (e + 1), kind, rfl, rfl, by omega, by omega, k0, k1, fun r a3 b3 hr' => ⟨_, rfl, ?_⟩⟩
      walk_at "v"
      have lr : r.pre.length = ns.length - (e + 1) := by rw [Tr.len_pre, Tr.size_eq, hr', l2]
      refine ⟨size_ok (by omega), _, ⟨rfl, by rw [← List.map_append]; exact PV.lfs_ints _⟩, ?_⟩
      have := q (.node l ns[e] r) a3 b3 (by show l.ino ++ ns[e] :: r.ino = ns; rw [hl', hr']; exact hsp.symm)
      rw [← List.map_append]
      exact this
end
end A
namespace A
open PySem PySem.Spec PyProof.Rows L2 VS
section
variable {P : Program} {w : World} {K : PySem.W.Frag} {mg : Str → Option Value} {base : Heap} {C : Str → Addr}
def p_tree : PSp := fun xs m Q _ => ∃ a b n : Int, xs = [.loc 0, .int n] ∧ m = [some (pu a b)] ∧ 0 ≤ n ∧ n ≤ 60 ∧ ∀ (t : Tr) (a' b' : Int), t.ok → (t.size : Int) ≤ n → Q (nums t.pre) [some (pu a' b')]
theorem ok__law_tree (g : G K mg C) : Fn P w K mg base "_law_tree" 64 2 p_tree := by
  have nd := sc__law_tree.nd
  have F__law_draw := ok__law_draw (P := P) (w := w) (base := base) g
  have F__law_numbers := ok__law_numbers (P := P) (w := w) (base := base) g
  have F__law_grown := ok__law_grown (P := P) (w := w) (base := base) g 61
  refine fn_at g.D__law_tree sc__law_tree rfl fun f cdv A outer s H E B xs m Qp Ep hr tk hB hl hp => ?_
  obtain ⟨a, b, n, rfl, rfl, h0, h1, q⟩ := hp
  refine ⟨_, (vss_cons (vs_set 2 nd (ve_item (VF.ve (vf_lst (va_cons ve_int (va_cons ve_int (va_cons ve_int (va_cons ve_int (va_cons ve_int (va_cons ve_int (va_cons ve_int (va_cons ve_int va_nil)))))))))) (VF.ve (vf_call1 0 F__law_draw (hr.mono (by omega)) tk (va_cons (vv 0) (va_cons ve_int va_nil)) (by rfl)))) rfl (by first | exact .inl rfl | exact .inr rfl))
      (vss_one (vs_ret (vf_call1 0 F__law_grown (hr.mono (by omega)) tk (va_cons (vv 0) (va_cons (VF.ve (vf_call1 0 F__law_numbers (hr.mono (by omega)) tk (va_cons (vv 0) (va_cons (vv 1) va_nil)) (by rfl))) (va_cons (vv 2) va_nil))) (by rfl))))), ?_⟩
  walk_at "v"
  refine ⟨size_ok (by omega), a, b, 8, rfl, rfl, by omega, by omega, fun d a1 d0 d1 => ⟨_, rfl, ?_⟩⟩
  walk_at "v"
  have hk : ∃ k : Int, atI [PV.int 0, PV.int 0, PV.int 0, PV.int 0, PV.int 1, PV.int 2, PV.int 3, PV.int 4] d = some (.int k) ∧ 0 ≤ k ∧ k < 5 := by
    have h8 : d = 0 ∨ d = 1 ∨ d = 2 ∨ d = 3 ∨ d = 4 ∨ d = 5 ∨ d = 6 ∨ d = 7 := by omega
    rcases h8 with rfl | rfl | rfl | rfl | rfl | rfl | rfl | rfl
    · exact ⟨_, atI_nat (j := 0) rfl, by decide, by decide⟩
    · exact ⟨_, atI_nat (j := 1) rfl, by decide, by decide⟩
    · exact ⟨_, atI_nat (j := 2) rfl, by decide, by decide⟩
    · exact ⟨_, atI_nat (j := 3) rfl, by decide, by decide⟩
    · exact ⟨_, atI_nat (j := 4) rfl, by decide, by decide⟩
    · exact ⟨_, atI_nat (j := 5) rfl, by decide, by decide⟩
    · exact ⟨_, atI_nat (j := 6) rfl, by decide, by decide⟩
    · exact ⟨_, atI_nat (j := 7) rfl, by decide, by decide⟩
  obtain ⟨k, hk, k0, k1⟩ := hk
  refine ⟨_, hk, ?_⟩
  walk_at "v"
  refine ⟨a1, b, n, rfl, rfl, h0, h1, fun ns a2 b2 hn hpw hb => ⟨_, rfl, ?_⟩⟩
  walk_at "v"
  refine ⟨a2, b2, ns, k, rfl, rfl, by omega, by omega, k0, k1, fun t a3 b3 ht => ⟨_, rfl, ?_⟩⟩
  walk_at "v"
  have hs : t.size = ns.length := by rw [Tr.size_eq, ht]
  exact q t a3 b3 ⟨(Tr.bst_iff t).mpr (by rw [ht]; exact hpw), fun y hy => hb y (by rw [← ht]; exact Tr.mem_ino.mpr hy), by omega⟩ (by omega)
end
end A
namespace A
open PySem PySem.Spec PyProof.Rows L2 VS
section
variable {P : Program} {w : World} {K : PySem.W.Frag} {mg : Str → Option Value} {base : Heap} {C : Str → Addr}
def Tr.deps : Tr → Int → List (Int × Int)
  | .nil, _ => []
  | .node l x r, d => (x, d) :: (r.deps (d + 1) ++ l.deps (d + 1))
def dD (l : List (Int × Int)) : List (Key × PV) := l.map fun p => (.inl p.1, .int p.2)
theorem dD_snd (l : List (Int × Int)) : (dD l).map Prod.snd = (l.map Prod.snd).map PV.int := by simp [dD]
theorem deps_perm : ∀ (t : Tr) (d : Int), ((t.deps d).map Prod.fst).Perm t.pre
  | .nil, _ => .refl _
  | .node l x r, d => by
    rw [Tr.deps, Tr.pre, List.map_cons, List.map_append]
    exact (((deps_perm r (d + 1)).append (deps_perm l (d + 1))).trans List.perm_append_comm).cons x
theorem Tr.nodup {t : Tr} (h : t.bst) : t.pre.Nodup := by
  rw [← (Tr.perm_ino t).nodup_iff]
  exact ((Tr.bst_iff t).mp h).imp fun h => Int.ne_of_lt h
theorem deps_nodup {t : Tr} (h : t.bst) (d : Int) : ((t.deps d).map Prod.fst).Nodup := (deps_perm t d).nodup_iff.mpr (Tr.nodup h)
theorem deps_len (t : Tr) (d : Int) : (t.deps d).length = t.size := by
  have := (deps_perm t d).length_eq
  rw [List.length_map, Tr.len_pre] at this; exact this
theorem putA_dD {l : List (Int × Int)} {x d : Int} (h : x ∉ l.map Prod.fst) : putA (dD l) (.inl x) (.int d) = dD (l ++ [(x, d)]) := by
  unfold putA
  rw [if_neg]
  · simp [dD]
  · intro c
    obtain ⟨p, hp, e⟩ := List.any_eq_true.mp c
    obtain ⟨q, hq, rfl⟩ := List.mem_map.mp hp
    have := of_decide_eq_true e
    injection this with this
    exact h (this ▸ List.mem_map_of_mem hq)
def dS (S : List (Tr × Int)) : List PV := S.map fun p => .tup [nums p.1.pre, .int p.2]
def dM : List (Tr × Int) → Nat
  | [] => 0
  | p :: S => 2 * p.1.size + 1 + dM S
theorem dM_len : ∀ S : List (Tr × Int), S.length ≤ dM S
  | [] => Nat.le_refl _
  | p :: S => by have := dM_len S; rw [dM, List.length_cons]; omega
theorem dS_dat (S : List (Tr × Int)) : DatOf (.lst (dS S)) (.list (S.map fun p => .tuple [.list (p.1.pre.map PyData.int), .int p.2])) 3 := .lst (.map fun _ _ => .tup (.cons .nums (.cons .int .nil)))
def p_depths : PSp := fun xs m Q _ => ∃ (t : Tr), xs = [nums t.pre] ∧ m = [] ∧ t.ok ∧ Q (mkD (dD (t.deps 0))) []
theorem ok_depths (g : G K mg C) : Fn P w K mg base "depths" 3 1 p_depths := by
  have nd := sc_depths.nd
  have F_parts_of := ok_parts_of (P := P) (w := w) (base := base) g
  have F_must_tree := ok_must_tree (P := P) (w := w) (base := base) g
  refine fn_at g.D_depths sc_depths rfl fun f cdv A outer s H E B xs m Qp Ep hr tk hB hl hp => ?_
  obtain ⟨t, rfl, rfl, ht, q⟩ := hp
  have hts := ht.s
  refine ⟨_, (vss_cons (vs_expr (VF.ve (vf_call0 F_must_tree (hr.mono (by omega)) tk (va_cons (vv 0) va_nil) (by rfl))))
      (vss_cons (vs_setF 1 nd vf_dnew rfl (by first | exact .inl rfl | exact .inr rfl))
      (vss_cons (vs_setF 2 nd (vf_lst (va_cons (ve_tup (va_cons (vv 0) (va_cons ve_int va_nil))) va_nil)) rfl (by first | exact .inl rfl | exact .inr rfl))
      (vss_cons (vs_while (passes_of rfl) (vt_ne hr (vv 2) (VF.ve (vf_lst va_nil))) (vss_cons (vs_un2 3 4 nd rfl (ve_pop (vv 2)) rfl rfl (by first | exact .inl rfl | exact .inr rfl) (by first | exact .inl rfl | exact .inr rfl))
      (vss_one (vs_if (vt_ne hr (vv 3) (VF.ve (vf_lst va_nil))) (vss_cons (vs_un3 5 6 7 nd rfl (VF.ve (vf_call0 F_parts_of (hr.mono (by omega)) tk (va_cons (vv 3) va_nil) (by rfl))) rfl rfl rfl (by first | exact .inl rfl | exact .inr rfl) (by first | exact .inl rfl | exact .inr rfl) (by first | exact .inl rfl | exact .inr rfl))
      (vss_cons (vs_dput hr (vv 4) (vv 1) (vv 5))
      (vss_one (vs_setK 2 1 hB nd (vf_add (vv 2) (VF.ve (vf_lst (va_cons (ve_tup (va_cons (vv 6) (va_cons (ve_add (vv 4) ve_int) va_nil))) (va_cons (ve_tup (va_cons (vv 7) (va_cons (ve_add (vv 4) ve_int) va_nil))) va_nil))))) rfl (by first | exact .inl rfl | exact .inr rfl))))) vss_nil))))
      (vss_one (vs_ret (vf_move 1 rfl (by first | exact .inl rfl | exact .inr (.inl rfl))))))))), ?_⟩
  walk_at "v"
  refine must_ok ht ?_
  walk_at "v"
  refine ⟨size_ok (by omega), size_ok (by omega), ?_⟩
  refine ⟨fun k s => ∃ (done : List (Int × Int)) (T : List (Tr × Int)) (y1 y2 y3 y4 y5 : Option PV), k = dM T ∧ dM T ≤ 121 ∧ (∀ p ∈ T, p.1.bst ∧ p.1.size ≤ 60) ∧ done ++ T.flatMap (fun p => p.1.deps p.2) = t.deps 0 ∧ s = ⟨[some (nums t.pre), some (.loc 0), some (.loc 1), y1, y2, y3, y4, y5], [some (.flat (mkD (dD done))), some (.flat (.lst (dS T.reverse)))]⟩, ⟨_, [], [(t, 0)], none, none, none, none, none, rfl, by simp [dM]; omega, fun p hp => by cases List.mem_singleton.mp hp; exact ⟨ht.b, hts⟩, by simp, rfl⟩, ?_⟩
  rintro k s ⟨done, T, y1, y2, y3, y4, y5, rfl, hk, hT, hd, rfl⟩
  walk_at "v"
  refine gEq.dat (n := 3) (dS_dat T.reverse) (DatOf.lst .nil) (by decide) ?_
  rw [eqv_list_nil]
  cases T with
  | nil =>
    rw [decide_eq_true (by rfl)]
    walk_at "v"
    rw [List.flatMap_nil, List.append_nil] at hd
    refine ⟨0, _, rfl, rfl, _, ⟨rfl, ?_⟩, ?_⟩
    · show PV.lfs ((dD done).map Prod.snd) = true
      rw [dD_snd]; exact PV.lfs_ints _
    · rw [hd]; exact q
  | cons p T =>
    obtain ⟨u, d⟩ := p
    have hu := hT (u, d) List.mem_cons_self
    have hT' : ∀ p ∈ T, p.1.bst ∧ p.1.size ≤ 60 := fun p m => hT p (List.mem_cons_of_mem _ m)
    rw [decide_eq_false (by simp)]
    have er : dS ((u, d) :: T).reverse = dS T.reverse ++ [.tup [nums u.pre, .int d]] := by simp [dS]
    rw [er]
    walk_at "v"
    refine ⟨_, rfl, 1, _, _, _, _, .tup [nums u.pre, .int d], rfl, rfl, .flat, by simp, ?_⟩
    rw [List.dropLast_concat]
    walk_at "v"
    cases u with
    | nil =>
      refine gEq.ints (ns := []) (ms := []) rfl rfl ?_
      walk_at "v"
      refine ⟨dM T, by simp [dM, Tr.size], done, T, _, _, _, _, _, rfl, by simp [dM, Tr.size] at hk; omega, hT', ?_, rfl⟩
      rw [← hd]; simp [Tr.deps]
    | node l x r =>
      have ne : ¬ ((Tr.node l x r).pre = []) := by simp [Tr.pre]
      refine gEq.ints (ns := (Tr.node l x r).pre) (ms := []) rfl rfl ?_
      rw [decide_eq_false ne]
      walk_at "v"
      have hu2 : (Tr.node l x r).size ≤ 60 := hu.2
      refine ⟨l, r, x, rfl, rfl, hu.1, by omega, ?_⟩
      walk_at "v"
      have hnd := deps_nodup ht.b 0
      have hln := deps_len t 0
      rw [← hd, List.length_append] at hln
      have hx : x ∉ done.map Prod.fst := by
        intro c
        rw [← hd, List.map_append] at hnd
        have := (List.nodup_append.mp hnd).2.2 x c x (by simp [Tr.deps])
        exact this rfl
      refine ⟨_, rfl, _, rfl, _, rfl, 0, _, _, _, _, _, rfl, rfl, .flat, rfl, rfl, by rw [dD, List.length_map]; exact size_lt (by omega), ?_⟩
      rw [putA_dD hx]
      walk_at "v"
      have hl1 := dM_len T
      have hk2 : 2 * (l.size + r.size + 1) + 1 + dM T ≤ 121 := hk
      refine ⟨size_ok (by omega), size_ok (by omega), size_ok (by omega), size_ok (by simp [dS]; omega), by omega, rfl, dM ((r, d + 1) :: (l, d + 1) :: T), by simp only [dM, Tr.size]; omega, done ++ [(x, d)], (r, d + 1) :: (l, d + 1) :: T, some (nums (Tr.node l x r).pre), some (.int d), some (.int x), some (nums l.pre), some (nums r.pre), rfl, by simp only [dM, Tr.size]; omega, ?_, ?_, ?_⟩
      · intro p hp
        simp only [Tr.size] at hu2
        rcases List.mem_cons.mp hp with rfl | hp
        · exact ⟨hu.1.2.1, by show r.size ≤ 60; omega⟩
        · rcases List.mem_cons.mp hp with rfl | hp
          · exact ⟨hu.1.1, by show l.size ≤ 60; omega⟩
          · exact hT' p hp
      · rw [← hd]; simp [Tr.deps]
      · have e2 : dS ((r, d + 1) :: (l, d + 1) :: T).reverse = dS T.reverse ++ [.tup [nums l.pre, .int (d + 1)], .tup [nums r.pre, .int (d + 1)]] := by simp [dS]
        rw [e2]
end
end A
/-! One turn, seen from outside. -/
namespace A
open PySem L2 VS
theorem sorted_eq : ∀ {l m : List Int}, l.Perm m → l.Pairwise (· ≤ ·) → m.Pairwise (· ≤ ·) → l = m
  | [], m, p, _, _ => (List.nil_perm.mp p).symm
  | a :: l, [], p, _, _ => absurd p.length_eq (by simp)
  | a :: l, b :: m, p, h1, h2 => by
    have h3 := List.pairwise_cons.mp h1
    have h4 := List.pairwise_cons.mp h2
    have e : a = b := by
      have x1 : a ∈ b :: m := p.subset List.mem_cons_self
      have x2 : b ∈ a :: l := p.symm.subset List.mem_cons_self
      rcases List.mem_cons.mp x1 with z | z
      · exact z
      · rcases List.mem_cons.mp x2 with y | y
        · exact y.symm
        · have := h3.1 b y; have := h4.1 a z; omega
    subst e
    rw [sorted_eq p.cons_inv h3.2 h4.2]
inductive Turn (n o : Int) (a b c : Tr) : Bool → List Int → Tr → Tr → Prop
  | L : n < o → Turn n o a b c false [] (.node (.node a n b) o c) (.node a n (.node b o c))
  | R : o < n → Turn n o a b c true [] (.node a o (.node b n c)) (.node (.node a o b) n c)
  | inL {s : Bool} {ws : List Int} {l l' r : Tr} {x : Int} : n < x → o < x → Turn n o a b c s ws l l' → Turn n o a b c s (x :: ws) (.node l x r) (.node l' x r)
  | inR {s : Bool} {ws : List Int} {l r r' : Tr} {x : Int} : x < n → x < o → Turn n o a b c s ws r r' → Turn n o a b c s (x :: ws) (.node l x r) (.node l x r')
theorem top_false {t : Tr} {n : Int} (h : n ∉ t.pre) : t.topIs n = false := by
  cases t with
  | nil => rfl
  | node l x r => simp only [Tr.topIs, decide_eq_false_iff_not]; rintro rfl; exact h (by simp [Tr.pre])
theorem Turn.mem {n o : Int} {a b c t t' : Tr} {s : Bool} {ws : List Int} (h : Turn n o a b c s ws t t') : n ∈ t.pre ∧ o ∈ t.pre := by
  induction h with
  | L _ => simp [Tr.pre]
  | R _ => simp [Tr.pre]
  | inL _ _ _ ih => simp [Tr.pre, ih.1, ih.2]
  | inR _ _ _ ih => simp [Tr.pre, ih.1, ih.2]
theorem turn_ex (n : Int) : ∀ (t : Tr), t.bst → n ∈ t.pre → t.topIs n = false → ∃ o a b c s ws, Turn n o a b c s ws t (t.rot n)
  | .nil, _, h, _ => by simp [Tr.pre] at h
  | .node l x r, hb, hm, ht => by
    have ne : x ≠ n := by simpa [Tr.topIs] using ht
    rw [Tr.rot_eq]
    by_cases c1 : l.topIs n = true
    · obtain ⟨a, b, rfl⟩ := Tr.top_pre.mp c1
      rw [if_pos c1]
      exact ⟨x, a, b, r, false, [], .L (hb.2.2.1 n (by simp [Tr.pre]))⟩
    · rw [if_neg c1]
      by_cases c2 : r.topIs n = true
      · obtain ⟨a, b, rfl⟩ := Tr.top_pre.mp c2
        rw [if_pos c2]
        exact ⟨x, l, a, b, true, [], .R (hb.2.2.2 n (by simp [Tr.pre]))⟩
      · rw [if_neg c2]
        rcases Tr.mem_side hb hm ne with ⟨h1, h2⟩ | ⟨h1, h2⟩
        · rw [if_pos h1]
          obtain ⟨o, a, b, c, s, ws, T⟩ := turn_ex n l hb.1 h2 (by simpa using c1)
          exact ⟨o, a, b, c, s, _, .inL h1 (hb.2.2.1 o T.mem.2) T⟩
        · rw [if_neg (by omega)]
          obtain ⟨o, a, b, c, s, ws, T⟩ := turn_ex n r hb.2.1 h2 (by simpa using c2)
          exact ⟨o, a, b, c, s, _, .inR h1 (hb.2.2.2 o T.mem.2) T⟩
def pick (s : Bool) (p : Tr × Tr) : Tr := if s then p.2 else p.1
def Tr.dp : Tr → Int → Int → Int
  | .nil, _, d => d
  | .node l x r, y, d => if y < x then l.dp y (d + 1) else if x < y then r.dp y (d + 1) else d
theorem valA_append {l m : List (Int × Int)} {y : Int} : valA (dD (l ++ m)) (.inl y) = (valA (dD l) (.inl y)).or (valA (dD m) (.inl y)) := by
  simp only [valA, dD, List.map_append, List.find?_append]
  cases (List.find? (fun kv => decide (kv.fst = Sum.inl y)) (List.map (fun p => ((Sum.inl p.fst : Key), PV.int p.snd)) l)) <;> rfl
theorem valA_none {l : List (Int × Int)} {y : Int} (h : y ∉ l.map Prod.fst) : valA (dD l) (.inl y) = none := by
  simp only [valA, dD]
  rw [List.find?_eq_none.mpr]
  · rfl
  · intro p hp e
    obtain ⟨q, hq, rfl⟩ := List.mem_map.mp hp
    have := of_decide_eq_true e
    injection this with this
    exact h (this ▸ List.mem_map_of_mem hq)
theorem valA_deps : ∀ (t : Tr) (d y : Int), t.bst → y ∈ t.pre → valA (dD (t.deps d)) (.inl y) = some (.int (t.dp y d))
  | .nil, _, _, _, h => by simp [Tr.pre] at h
  | .node l x r, d, y, hb, hm => by
    by_cases e : x = y
    · subst e
      simp [Tr.deps, dD, valA, Tr.dp]
    · have e1 : valA (dD ((Tr.node l x r).deps d)) (.inl y) = (valA (dD (r.deps (d + 1))) (.inl y)).or (valA (dD (l.deps (d + 1))) (.inl y)) := by
        rw [← valA_append]
        have : ¬ ((Sum.inl x : Key) = Sum.inl y) := fun z => e (by injection z)
        simp [Tr.deps, dD, valA, e]
      rw [e1]
      rcases Tr.mem_side hb hm e with ⟨h1, h2⟩ | ⟨h1, h2⟩
      · rw [valA_none (l := r.deps (d + 1)) (fun c => by have := hb.2.2.2 y ((deps_perm r _).subset c); omega), valA_deps l _ y hb.1 h2, Tr.dp, if_pos h1]; rfl
      · rw [valA_deps r _ y hb.2.1 h2, Tr.dp, if_neg (by omega), if_pos h1]; rfl
section
variable {n o : Int} {a b c t t' : Tr} {s : Bool} {ws : List Int}
theorem Turn.ne (h : Turn n o a b c s ws t t') : decide (o < n) = s ∧ n ≠ o := by
  induction h with
  | L h => exact ⟨decide_eq_false (by omega), by omega⟩
  | R h => exact ⟨decide_eq_true h, by omega⟩
  | inL _ _ _ ih => exact ih
  | inR _ _ _ ih => exact ih
theorem Turn.way (h : Turn n o a b c s ws t t') : t.way n = ws ++ [o, n] ∧ t'.way n = ws ++ [n] ∧ t'.way o = ws ++ [n, o] := by
  induction h with
  | L h => simp [Tr.way, h]; omega
  | R h => simp [Tr.way, h]; omega
  | inL h1 h2 _ ih => simp [Tr.way, h1, h2, ih.1, ih.2.1, ih.2.2]
  | inR h1 h2 _ ih =>
    have c1 : ¬ n < _ := Int.not_lt.mpr (Int.le_of_lt h1)
    have c2 : ¬ o < _ := Int.not_lt.mpr (Int.le_of_lt h2)
    simp [Tr.way, h1, h2, c1, c2, ih.1, ih.2.1, ih.2.2]
theorem Turn.top (h : Turn n o a b c s ws t t') : t'.topIs o = false := by
  cases h with
  | L h => simp [Tr.topIs]; omega
  | R h => simp [Tr.topIs]; omega
  | inL h1 h2 _ => simp [Tr.topIs]; omega
  | inR h1 h2 _ => simp [Tr.topIs]; omega
theorem Turn.back (h : Turn n o a b c s ws t t') (hb : t.bst) : t'.rot o = t := by
  induction h with
  | L h =>
    have ha : a.topIs o = false := top_false fun m => by have := hb.1.2.2.1 o m; omega
    rw [Tr.rot_eq, ha]; simp [Tr.topIs]
  | R h =>
    rw [Tr.rot_eq]; simp [Tr.topIs]
  | inL h1 h2 h ih =>
    rename_i r x
    have hr : r.topIs o = false := top_false fun m => by have := hb.2.2.2 o m; omega
    rw [Tr.rot_eq, h.top, hr, ih hb.1]; simp [h2]
  | inR h1 h2 h ih =>
    rename_i l r r' x
    have hl : l.topIs o = false := top_false fun m => by have := hb.2.2.1 o m; omega
    have c2 : ¬ o < x := by omega
    rw [Tr.rot_eq, h.top, hl, ih hb.2.1]; simp [c2]
theorem Turn.subs (h : Turn n o a b c s ws t t') : pick s (t'.sub o) = pick (!s) (t.sub n) ∧ pick (!s) (t'.sub o) = pick (!s) (t.sub o) ∧ pick s (t'.sub n) = pick s (t.sub n) := by
  induction h with
  | L h =>
    have h2 : ¬ o < n := by omega
    simp [Tr.sub, pick, h, h2]
  | R h =>
    have h2 : ¬ n < o := by omega
    simp [Tr.sub, pick, h, h2]
  | inL h1 h2 _ ih => simpa [Tr.sub, h1, h2] using ih
  | inR h1 h2 _ ih =>
    rename_i x _
    have c1 : ¬ n < x := by omega
    have c2 : ¬ o < x := by omega
    simpa [Tr.sub, h1, h2, c1, c2] using ih
theorem Turn.sub (h : Turn n o a b c s ws t t') : pick (!s) (t'.sub o) = (if s then a else c) ∧ pick s (t.sub n) = (if s then c else a) := by
  induction h with
  | L h =>
    have h2 : ¬ o < n := by omega
    simp [Tr.sub, pick, h, h2]
  | R h =>
    have h2 : ¬ n < o := by omega
    simp [Tr.sub, pick, h, h2]
  | inL h1 h2 _ ih => simpa [Tr.sub, h1, h2] using ih
  | inR h1 h2 _ ih =>
    rename_i x _
    have c1 : ¬ n < x := by omega
    have c2 : ¬ o < x := by omega
    simpa [Tr.sub, h1, h2, c1, c2] using ih
def i01 (p : Prop) [Decidable p] : Int := if p then 1 else 0
theorem dp_add (t : Tr) : ∀ (y d e : Int), t.dp y (d + e) = t.dp y d + e := by
  induction t with
  | nil => intro y d e; rfl
  | node l x r h1 h2 =>
    intro y d e
    simp only [Tr.dp]
    rw [show d + e + 1 = d + 1 + e by omega, h1, h2]
    by_cases c1 : y < x
    · simp [c1]
    · by_cases c2 : x < y
      · simp [c1, c2]
      · simp [c1, c2]
theorem Turn.mem_abc (h : Turn n o a b c s ws t t') : (∀ y ∈ a.pre, y ∈ t.pre) ∧ ∀ y ∈ c.pre, y ∈ t.pre := by
  induction h with
  | L h => constructor <;> intro y m <;> simp [Tr.pre, m]
  | R h => constructor <;> intro y m <;> simp [Tr.pre, m]
  | inL h1 h2 _ ih => constructor <;> intro y m <;> simp [Tr.pre, ih.1 _, ih.2 _, m]
  | inR h1 h2 _ ih => constructor <;> intro y m <;> simp [Tr.pre, ih.1 _, ih.2 _, m]
theorem i01_t {p : Prop} [Decidable p] (h : p) : i01 p = 1 := if_pos h
theorem i01_f {p : Prop} [Decidable p] (h : ¬ p) : i01 p = 0 := if_neg h
theorem Turn.deps (h : Turn n o a b c s ws t t') (hb : t.bst) : ∀ (y d : Int), y ∈ t.pre → t'.dp y d = t.dp y d + i01 (y ∈ o :: (if s then a else c).pre) - i01 (y ∈ n :: (if s then c else a).pre) := by
  induction h with
  | L h =>
    intro y d hm
    obtain ⟨⟨ha, hbb, h1, h2⟩, hc, h3, h4⟩ := hb
    have g1 : ∀ {y : Int}, y ∈ n :: a.pre → y ≤ n := fun m => by
      rcases List.mem_cons.mp m with z | z
      · omega
      · have := h1 _ z; omega
    have g2 : ∀ {y : Int}, y ∈ o :: c.pre → o ≤ y := fun m => by
      rcases List.mem_cons.mp m with z | z
      · omega
      · have := h4 _ z; omega
    have g3 : ∀ {y : Int}, y ∈ b.pre → y < o := fun m => h3 _ (by simp [Tr.pre, m])
    simp only [Bool.false_eq_true, if_false]
    by_cases c1 : y ≤ n
    · have e1 : y ∈ n :: a.pre := by
        simp only [Tr.pre, List.mem_cons, List.mem_append] at hm
        rcases hm with z | (z | z | z) | z
        · omega
        · exact z ▸ List.mem_cons_self
        · exact List.mem_cons_of_mem _ z
        · have := h2 y z; omega
        · have := h4 y z; omega
      rw [i01_t e1, i01_f (p := y ∈ o :: c.pre) fun m => by have := g2 m; omega]
      simp only [Tr.dp]
      have c3 : y < o := by omega
      have c4 : ¬ n < y := by omega
      by_cases c2 : y < n
      · simp only [c2, c3, if_true]; rw [dp_add a y (d + 1) 1]; omega
      · simp only [c2, c3, c4, if_true, if_false]; omega
    · rw [i01_f (p := y ∈ n :: a.pre) fun m => c1 (g1 m)]
      simp only [Tr.dp]
      rw [if_neg (show ¬ y < n by omega), if_pos (show n < y by omega)]
      by_cases c2 : y < o
      · rw [if_pos c2, if_pos c2, if_neg (show ¬ y < n by omega), if_pos (show n < y by omega), i01_f (p := y ∈ o :: c.pre) fun m => by have := g2 m; omega]; omega
      · have e1 : y ∈ o :: c.pre := by
          simp only [Tr.pre, List.mem_cons, List.mem_append] at hm
          rcases hm with z | (z | z | z) | z
          · exact z ▸ List.mem_cons_self
          · omega
          · have := h1 y z; omega
          · have := g3 z; omega
          · exact List.mem_cons_of_mem _ z
        rw [i01_t e1, if_neg c2, if_neg c2]
        by_cases c3 : o < y
        · rw [if_pos c3, if_pos c3, dp_add c y (d + 1) 1]; omega
        · rw [if_neg c3, if_neg c3]; omega
  | R h =>
    intro y d hm
    obtain ⟨ha, ⟨hbb, hc, h1, h2⟩, h3, h4⟩ := hb
    have g1 : ∀ {y : Int}, y ∈ o :: a.pre → y ≤ o := fun m => by
      rcases List.mem_cons.mp m with z | z
      · omega
      · have := h3 _ z; omega
    have g2 : ∀ {y : Int}, y ∈ n :: c.pre → n ≤ y := fun m => by
      rcases List.mem_cons.mp m with z | z
      · omega
      · have := h2 _ z; omega
    have g3 : ∀ {y : Int}, y ∈ b.pre → o < y := fun m => h4 _ (by simp [Tr.pre, m])
    simp only [if_true]
    by_cases c1 : y ≤ o
    · have e1 : y ∈ o :: a.pre := by
        simp only [Tr.pre, List.mem_cons, List.mem_append] at hm
        rcases hm with z | z | (z | z | z)
        · exact z ▸ List.mem_cons_self
        · exact List.mem_cons_of_mem _ z
        · omega
        · have := g3 z; omega
        · have := h2 y z; omega
      rw [i01_t e1, i01_f (p := y ∈ n :: c.pre) fun m => by have := g2 m; omega]
      simp only [Tr.dp]
      have c3 : y < n := by omega
      have c4 : ¬ o < y := by omega
      by_cases c2 : y < o
      · simp only [c2, c3, if_true]; rw [dp_add a y (d + 1) 1]; omega
      · simp only [c2, c3, c4, if_true, if_false]; omega
    · rw [i01_f (p := y ∈ o :: a.pre) fun m => c1 (g1 m)]
      simp only [Tr.dp]
      rw [if_neg (show ¬ y < o by omega), if_pos (show o < y by omega)]
      by_cases c2 : y < n
      · rw [if_pos c2, if_pos c2, i01_f (p := y ∈ n :: c.pre) fun m => by have := g2 m; omega]; omega
      · have e1 : y ∈ n :: c.pre := by
          simp only [Tr.pre, List.mem_cons, List.mem_append] at hm
          rcases hm with z | z | (z | z | z)
          · omega
          · have := h3 y z; omega
          · exact z ▸ List.mem_cons_self
          · have := h1 y z; omega
          · exact List.mem_cons_of_mem _ z
        rw [i01_t e1, if_neg c2, if_neg c2]
        by_cases c3 : n < y
        · rw [if_pos c3, if_pos c3, dp_add c y (d + 1) 1]; omega
        · rw [if_neg c3, if_neg c3]; omega
  | inL h1 h2 h ih =>
    rename_i s ws l l' r x
    intro y d hm
    have hA := h.mem_abc
    have out : ¬ y < x → y ∉ o :: (if s then a else c).pre ∧ y ∉ n :: (if s then c else a).pre := by
      intro cy
      have q : ∀ z ∈ l.pre, y ≠ z := fun z m => by have := hb.2.2.1 z m; omega
      refine ⟨fun m => ?_, fun m => ?_⟩
      · rcases List.mem_cons.mp m with z | z
        · omega
        · cases s
          · exact q y (hA.2 y z) rfl
          · exact q y (hA.1 y z) rfl
      · rcases List.mem_cons.mp m with z | z
        · omega
        · cases s
          · exact q y (hA.1 y z) rfl
          · exact q y (hA.2 y z) rfl
    simp only [Tr.dp]
    by_cases cy : y < x
    · rw [if_pos cy, if_pos cy]
      refine ih hb.1 y (d + 1) ?_
      rcases Tr.mem_side hb hm (by omega) with z | z
      · exact z.2
      · omega
    · rw [i01_f (out cy).1, i01_f (out cy).2, if_neg cy, if_neg cy]; omega
  | inR h1 h2 h ih =>
    rename_i s ws l r r' x
    intro y d hm
    have hA := h.mem_abc
    have out : ¬ x < y → y ∉ o :: (if s then a else c).pre ∧ y ∉ n :: (if s then c else a).pre := by
      intro cy
      have q : ∀ z ∈ r.pre, y ≠ z := fun z m => by have := hb.2.2.2 z m; omega
      refine ⟨fun m => ?_, fun m => ?_⟩
      · rcases List.mem_cons.mp m with z | z
        · omega
        · cases s
          · exact q y (hA.2 y z) rfl
          · exact q y (hA.1 y z) rfl
      · rcases List.mem_cons.mp m with z | z
        · omega
        · cases s
          · exact q y (hA.1 y z) rfl
          · exact q y (hA.2 y z) rfl
    simp only [Tr.dp]
    by_cases cy : x < y
    · rw [if_neg (show ¬ y < x by omega), if_neg (show ¬ y < x by omega), if_pos cy, if_pos cy]
      refine ih hb.2.1 y (d + 1) ?_
      rcases Tr.mem_side hb hm (by omega) with z | z
      · omega
      · exact z.2
    · rw [i01_f (out cy).1, i01_f (out cy).2, if_neg cy, if_neg cy]; omega
end
end A
namespace A
open PySem PySem.Spec PyProof.Rows L2 VS
section
variable {P : Program} {w : World} {K : PySem.W.Frag} {mg : Str → Option Value} {base : Heap} {C : Str → Addr}
def p_good : PSp := fun xs m Q _ => ∃ (t : Tr) (n : Int), xs = [nums t.pre, .int n] ∧ m = [] ∧ t.ok ∧ n ∈ t.pre ∧ t.topIs n = false ∧ Q (.bl true) []
theorem at_pick (p : Tr × Tr) (s : Bool) : atI [nums p.1.pre, nums p.2.pre] (if s then 1 else 0) = some (nums (pick s p).pre) := by
  cases s
  · exact atI_nat (j := 0) rfl
  · exact atI_nat (j := 1) rfl
theorem at_pick' (p : Tr × Tr) (s : Bool) : atI [nums p.1.pre, nums p.2.pre] (1 - (if s then 1 else 0)) = some (nums (pick (!s) p).pre) := by
  cases s
  · exact atI_nat (j := 1) rfl
  · exact atI_nat (j := 0) rfl
theorem sub_len (n : Int) : ∀ t : Tr, (t.sub n).1.size ≤ t.size ∧ (t.sub n).2.size ≤ t.size
  | .nil => ⟨Nat.le_refl _, Nat.le_refl _⟩
  | .node l x r => by
    have h1 := sub_len n l
    have h2 := sub_len n r
    simp only [Tr.sub, Tr.size]
    by_cases c1 : n < x
    · simp only [c1, if_true]; omega
    · by_cases c2 : x < n
      · simp only [c1, c2, if_true, if_false]; omega
      · simp only [c1, c2, if_false]; omega
theorem pick_len {t : Tr} (h : t.ok) (n : Int) (s : Bool) : (pick s (t.sub n)).pre.length ≤ 60 := by
  have h1 := sub_len n t
  have h2 := h.s
  rw [Tr.len_pre]
  cases s
  · show (t.sub n).1.size ≤ 60; omega
  · show (t.sub n).2.size ≤ 60; omega
theorem ok__law_good (g : G K mg C) : Fn P w K mg base "_law_good" 64 2 p_good := by
  have nd := sc__law_good.nd
  have m_int := g.m_int
  have m_sorted := g.m_sorted
  have F_path := ok_path (P := P) (w := w) (base := base) g
  have F_turned := ok_turned (P := P) (w := w) (base := base) g
  have F_sides := ok_sides (P := P) (w := w) (base := base) g
  have F_depths := ok_depths (P := P) (w := w) (base := base) g
  refine fn_at g.D__law_good sc__law_good rfl fun f cdv A outer s H E B xs m Qp Ep hr tk hB hl hp => ?_
  obtain ⟨t, n, rfl, rfl, ht, hn, htop, q⟩ := hp
  obtain ⟨o, a, b, c, sd, ws, T⟩ := turn_ex n t ht.b hn htop
  have ht' := ht.rot n
  have hn' : n ∈ (t.rot n).pre := Tr.mem_rot.mpr hn
  have ho : o ∈ t.pre := T.mem.2
  have ho' : o ∈ (t.rot n).pre := Tr.mem_rot.mpr ho
  have hw := T.way
  have hwl : (t.way n).length ≤ 60 := Nat.le_trans (way_len n t) ht.s
  rw [hw.1, List.length_append] at hwl
  simp only [List.length_cons, List.length_nil] at hwl
  refine ⟨_, (vss_cons (vs_set 2 nd (VF.ve (vf_call0 F_path (hr.mono (by omega)) tk (va_cons (vv 0) (va_cons (vv 1) va_nil)) (by rfl))) rfl (by first | exact .inl rfl | exact .inr rfl))
      (vss_cons (vs_set 3 nd (ve_item (vv 2) (ve_neg ve_int)) rfl (by first | exact .inl rfl | exact .inr rfl))
      (vss_cons (vs_set 4 nd (VF.ve (vf_call0 F_turned (hr.mono (by omega)) tk (va_cons (vv 0) (va_cons (vv 1) va_nil)) (by rfl))) rfl (by first | exact .inl rfl | exact .inr rfl))
      (vss_cut (vs_if (VW.vt (vw_or (vt_ne hr (VF.ve (vf_callB cr_sortedI fc_sort m_sorted (va_cons (vv 4) va_nil) (by rfl))) (VF.ve (vf_callB cr_sortedI fc_sort m_sorted (va_cons (vv 0) va_nil) (by rfl)))) (vw_or1 (vt_ne hr (VF.ve (vf_call0 F_turned (hr.mono (by omega)) tk (va_cons (vv 4) (va_cons (vv 3) va_nil)) (by rfl))) (vv 0))))) (vss_one (vs_ret (vf_lf ve_bl))) vss_nil)
      (vss_cons (vs_set 5 nd (VF.ve (vf_call0 F_path (hr.mono (by omega)) tk (va_cons (vv 4) (va_cons (vv 1) va_nil)) (by rfl))) rfl (by first | exact .inl rfl | exact .inr rfl))
      (vss_cons (vs_set 6 nd (VF.ve (vf_call0 F_path (hr.mono (by omega)) tk (va_cons (vv 4) (va_cons (vv 3) va_nil)) (by rfl))) rfl (by first | exact .inl rfl | exact .inr rfl))
      (vss_cut (vs_if (VW.vt (vw_or (vt_ne hr (vv 5) (ve_add (VF.ve (vf_slice (vv 2) vo_none (vo_some (ve_neg ve_int)))) (VF.ve (vf_lst (va_cons (vv 1) va_nil))))) (vw_or1 (vt_ne hr (vv 6) (ve_add (VF.ve (vf_slice (vv 2) vo_none (vo_some (ve_neg ve_int)))) (VF.ve (vf_lst (va_cons (vv 1) (va_cons (vv 3) va_nil))))))))) (vss_one (vs_ret (vf_lf ve_bl))) vss_nil)
      (vss_cons (vs_set 7 nd (ve_callTy call_int1 pc_int m_int (va_cons (ve_gt (vv 1) (vv 3)) va_nil) (by rfl)) rfl (by first | exact .inl rfl | exact .inr rfl))
      (vss_cons (vs_set 8 nd (VF.ve (vf_call0 F_sides (hr.mono (by omega)) tk (va_cons (vv 0) (va_cons (vv 1) va_nil)) (by rfl))) rfl (by first | exact .inl rfl | exact .inr rfl))
      (vss_cons (vs_set 9 nd (VF.ve (vf_call0 F_sides (hr.mono (by omega)) tk (va_cons (vv 4) (va_cons (vv 3) va_nil)) (by rfl))) rfl (by first | exact .inl rfl | exact .inr rfl))
      (vss_cut (vs_if (vt_ne hr (ve_item (vv 9) (vv 7)) (ve_item (vv 8) (ve_sub ve_int (vv 7)))) (vss_one (vs_ret (vf_lf ve_bl))) vss_nil)
      (vss_cut (vs_if (vt_ne hr (ve_item (vv 9) (ve_sub ve_int (vv 7))) (ve_item (VF.ve (vf_call0 F_sides (hr.mono (by omega)) tk (va_cons (vv 0) (va_cons (vv 3) va_nil)) (by rfl))) (ve_sub ve_int (vv 7)))) (vss_one (vs_ret (vf_lf ve_bl))) vss_nil)
      (vss_cut (vs_if (vt_ne hr (ve_item (VF.ve (vf_call0 F_sides (hr.mono (by omega)) tk (va_cons (vv 4) (va_cons (vv 1) va_nil)) (by rfl))) (vv 7)) (ve_item (vv 8) (vv 7))) (vss_one (vs_ret (vf_lf ve_bl))) vss_nil)
      (vss_cons (vs_set 10 nd (VF.ve (vf_call0 F_depths (hr.mono (by omega)) tk (va_cons (vv 0) va_nil) (by rfl))) rfl (by first | exact .inl rfl | exact .inr rfl))
      (vss_cons (vs_set 11 nd (VF.ve (vf_call0 F_depths (hr.mono (by omega)) tk (va_cons (vv 4) va_nil) (by rfl))) rfl (by first | exact .inl rfl | exact .inr rfl))
      (vss_cons (vs_forL 12 nd (passes_of rfl) rfl (vv 0) (vss_cons (vs_set 13 nd (ve_callTy call_int1 pc_int m_int (va_cons (ve_in (vv 12) (ve_add (VF.ve (vf_lst (va_cons (vv 3) va_nil))) (ve_item (vv 9) (ve_sub ve_int (vv 7))))) va_nil) (by rfl)) rfl (by first | exact .inl rfl | exact .inr rfl))
      (vss_cons (vs_set 14 nd (ve_callTy call_int1 pc_int m_int (va_cons (ve_in (vv 12) (ve_add (VF.ve (vf_lst (va_cons (vv 1) va_nil))) (ve_item (vv 8) (vv 7)))) va_nil) (by rfl)) rfl (by first | exact .inl rfl | exact .inr rfl))
      (vss_one (vs_if (vt_ne hr (ve_dget hr (vv 11) (vv 12)) (ve_sub (ve_add (ve_dget hr (vv 10) (vv 12)) (vv 13)) (vv 14))) (vss_one (vs_ret (vf_lf ve_bl))) vss_nil)))) rfl (by first | exact .inl rfl | exact .inr rfl))
      (vss_one (vs_ret (vf_lf ve_bl))))))))))))))))))), ?_⟩
  walk_at "v"
  refine ⟨t, n, rfl, rfl, ht, ?_⟩
  rw [hw.1]
  walk_at "v"
  have hat : atI (List.map PV.int (ws ++ [o, n])) (-2) = some (.int o) := by
    rw [atI_map, show (-2 : Int) = -((2 : Nat) : Int) from rfl, atI_neg _ 2 (by decide) (by simp)]
    simp
  refine ⟨.int o, hat, ?_⟩
  refine ⟨t, n, rfl, rfl, ht, fun h => absurd hn h, fun h => absurd (h.symm.trans htop) (by decide), fun _ _ => ?_⟩
  walk_at "v"
  refine ⟨fun s => s = ⟨[some (nums t.pre), some (.int n), some (nums (ws ++ [o, n])), some (.int o), some (nums (t.rot n).pre), none, none, none, none, none, none, none, none, none, none], []⟩, ?_, ?_⟩
  · refine ⟨(t.rot n).pre, .inl rfl, fun l1 p1 s1 => ⟨t.pre, .inl rfl, fun l2 p2 s2 => ?_⟩⟩
    have pp : ((t.rot n).pre).Perm t.pre := ((Tr.perm_ino _).symm.trans (by rw [Tr.ino_rot])).trans (Tr.perm_ino t)
    have e12 : l1 = l2 := sorted_eq ((p1.trans pp).trans p2.symm) s1 s2
    refine gEq.ints (ns := l1) (ms := l2) rfl rfl ?_
    rw [decide_eq_true e12]
    refine ⟨t.rot n, o, rfl, rfl, ht', fun h => absurd ho' h, fun h => absurd (h.symm.trans T.top) (by decide), fun _ _ => ?_⟩
    rw [T.back ht.b]
    refine gEq.ints (ns := t.pre) (ms := t.pre) rfl rfl ?_
    rw [decide_eq_true rfl]
    rfl
  · rintro s rfl
    walk_at "v"
    refine ⟨t.rot n, n, rfl, rfl, ht', ?_⟩
    rw [hw.2.1]
    walk_at "v"
    refine ⟨t.rot n, o, rfl, rfl, ht', ?_⟩
    rw [hw.2.2]
    walk_at "v"
    have hcut : cutA (List.map PV.int (ws ++ [o, n])) none (some (-2)) = ws.map PV.int := by
      rw [cut_map, show (-2 : Int) = -((2 : Nat) : Int) from rfl, cut_toNeg _ 2 (by decide)]
      simp
    have hside : (if o < n then (1 : Int) else 0) = if sd then 1 else 0 := by
      rw [← T.ne.1]; by_cases h : o < n <;> simp [h]
    refine ⟨fun s => s = ⟨[some (nums t.pre), some (.int n), some (nums (ws ++ [o, n])), some (.int o), some (nums (t.rot n).pre), some (nums (ws ++ [n])), some (nums (ws ++ [n, o])), none, none, none, none, none, none, none, none], []⟩, ?_, ?_⟩
    · rw [hcut, List.length_map]
      refine ⟨size_ok (by omega), size_ok (by omega), gEq.ints (ns := ws ++ [n]) (ms := ws ++ [n]) rfl (by simp [nums, S.look]) ?_⟩
      rw [decide_eq_true rfl]
      refine ⟨size_ok (by omega), size_ok (by omega), gEq.ints (ns := ws ++ [n, o]) (ms := ws ++ [n, o]) rfl (by simp [nums, S.look]) ?_⟩
      rw [decide_eq_true rfl]
      rfl
    · rintro s rfl
      walk_at "v"
      rw [hside]
      refine ⟨t, n, rfl, rfl, ht, fun _ => ?_, fun h => absurd hn h⟩
      walk_at "v"
      refine ⟨t.rot n, o, rfl, rfl, ht', fun _ => ?_, fun h => absurd ho' h⟩
      walk_at "v"
      have hu := T.subs
      refine ⟨fun s => s = ⟨[some (nums t.pre), some (.int n), some (nums (ws ++ [o, n])), some (.int o), some (nums (t.rot n).pre), some (nums (ws ++ [n])), some (nums (ws ++ [n, o])), some (.int (if sd then 1 else 0)), some (.tup [nums (t.sub n).1.pre, nums (t.sub n).2.pre]), some (.tup [nums ((t.rot n).sub o).1.pre, nums ((t.rot n).sub o).2.pre]), none, none, none, none, none], []⟩, ?_, ?_⟩
      · walk_at "v"
        refine ⟨_, at_pick _ _, _, at_pick' _ _, gEq.ints rfl rfl ?_⟩
        rw [hu.1, decide_eq_true rfl]
        trivial
      · rintro s rfl
        walk_at "v"
        refine ⟨fun s => s = ⟨[some (nums t.pre), some (.int n), some (nums (ws ++ [o, n])), some (.int o), some (nums (t.rot n).pre), some (nums (ws ++ [n])), some (nums (ws ++ [n, o])), some (.int (if sd then 1 else 0)), some (.tup [nums (t.sub n).1.pre, nums (t.sub n).2.pre]), some (.tup [nums ((t.rot n).sub o).1.pre, nums ((t.rot n).sub o).2.pre]), none, none, none, none, none], []⟩, ?_, ?_⟩
        · walk_at "v"
          refine ⟨_, at_pick' _ _, t, o, rfl, rfl, ht, fun _ => ?_, fun h => absurd ho h⟩
          walk_at "v"
          refine ⟨_, at_pick' _ _, gEq.ints rfl rfl ?_⟩
          rw [hu.2.1, decide_eq_true rfl]
          trivial
        · rintro s rfl
          walk_at "v"
          refine ⟨fun s => s = ⟨[some (nums t.pre), some (.int n), some (nums (ws ++ [o, n])), some (.int o), some (nums (t.rot n).pre), some (nums (ws ++ [n])), some (nums (ws ++ [n, o])), some (.int (if sd then 1 else 0)), some (.tup [nums (t.sub n).1.pre, nums (t.sub n).2.pre]), some (.tup [nums ((t.rot n).sub o).1.pre, nums ((t.rot n).sub o).2.pre]), none, none, none, none, none], []⟩, ?_, ?_⟩
          · walk_at "v"
            refine ⟨t.rot n, n, rfl, rfl, ht', fun _ => ?_, fun h => absurd hn' h⟩
            walk_at "v"
            refine ⟨_, at_pick _ _, _, at_pick _ _, gEq.ints rfl rfl ?_⟩
            rw [hu.2.2, decide_eq_true rfl]
            trivial
          · rintro s rfl
            walk_at "v"
            refine ⟨t, rfl, rfl, ht, ?_⟩
            walk_at "v"
            refine ⟨t.rot n, rfl, rfl, ht', ?_⟩
            walk_at "v"
            refine ⟨_, rfl, t.pre.map PV.int, .inl rfl, fun i s => ∃ y1 y2 y3 : Option PV, s = ⟨[some (nums t.pre), some (.int n), some (nums (ws ++ [o, n])), some (.int o), some (nums (t.rot n).pre), some (nums (ws ++ [n])), some (nums (ws ++ [n, o])), some (.int (if sd then 1 else 0)), some (.tup [nums (t.sub n).1.pre, nums (t.sub n).2.pre]), some (.tup [nums ((t.rot n).sub o).1.pre, nums ((t.rot n).sub o).2.pre]), some (mkD (dD (t.deps 0))), some (mkD (dD ((t.rot n).deps 0))), y1, y2, y3], []⟩, ⟨none, none, none, rfl⟩, ?_, ?_⟩
            · rintro i y s hi ⟨y1, y2, y3, rfl⟩
              rw [List.getElem?_map] at hi
              obtain ⟨z, hz, rfl⟩ := Option.map_eq_some_iff.mp hi
              have hzm : z ∈ t.pre := List.mem_of_getElem? hz
              walk_at "v"
              refine ⟨size_ok (by omega), _, at_pick' _ _, ?_⟩
              walk_at "v"
              have b1 := pick_len ht' o (!sd)
              have b2 := pick_len ht n sd
              refine ⟨size_ok (by omega), z, o :: (pick (!sd) ((t.rot n).sub o)).pre, rfl, .inl rfl, ?_⟩
              walk_at "v"
              refine ⟨size_ok (by omega), _, at_pick _ _, ?_⟩
              walk_at "v"
              refine ⟨size_ok (by omega), z, n :: (pick sd (t.sub n)).pre, rfl, .inl rfl, ?_⟩
              walk_at "v"
              refine ⟨_, rfl, _, rfl, dD ((t.rot n).deps 0), .inl z, _, rfl, rfl, valA_deps _ _ _ ht'.b (Tr.mem_rot.mpr hzm), ?_⟩
              refine ⟨_, rfl, _, rfl, dD (t.deps 0), .inl z, _, rfl, rfl, valA_deps _ _ _ ht.b hzm, ?_⟩
              walk_at "v"
              have hdp := T.deps ht.b z 0 hzm
              rw [← T.sub.1, ← T.sub.2] at hdp
              unfold i01 at hdp
              refine gEq.int rfl rfl ?_
              rw [decide_eq_true hdp]
              exact ⟨_, _, _, rfl⟩
            · rintro s ⟨y1, y2, y3, rfl⟩
              walk_at "v"
              exact q
end
end A
namespace A
open PySem PySem.Spec PyProof.Rows L2 VS
section
variable {P : Program} {w : World} {K : PySem.W.Frag} {mg : Str → Option Value} {base : Heap} {C : Str → Addr}
theorem ok_law0 (g : G K mg C) {f : Addr} {fd : FuncData} (F : Fun K "law" "law" s_law f fd) : FnOk P w K mg base (L2.CX P w) 100 f fd ["_law_script"] (toSp K 1 p_true) := by
  have nd := sc_law.nd
  have m_int := g.m_int
  have m_len := g.m_len
  have m_range := g.m_range
  have F__law_purse := ok__law_purse (P := P) (w := w) (base := base) g
  have F__law_draw := ok__law_draw (P := P) (w := w) (base := base) g
  have F__law_tree := ok__law_tree (P := P) (w := w) (base := base) g
  have F__law_good := ok__law_good (P := P) (w := w) (base := base) g
  have F_turned := ok_turned (P := P) (w := w) (base := base) g
  refine fnok_mk (k := 99) F sc_law rfl fun cdv A outer s H E B xs m Qp Ep hr tk hB hl hp => ?_
  obtain ⟨ns, rfl, rfl, hns, q⟩ := hp
  refine ⟨_, (vss_cons (vs_setF 1 nd (vf_call0 F__law_purse (hr.mono (by omega)) tk (va_cons (vv 0) va_nil) (by rfl)) rfl (by first | exact .inl rfl | exact .inr rfl))
      (vss_cons (vs_set 2 nd (VF.ve (vf_call1 0 F__law_tree (hr.mono (by omega)) tk (va_cons (vv 1) (va_cons (ve_item (VF.ve (vf_lst (va_cons ve_int (va_cons ve_int (va_cons ve_int va_nil))))) (VF.ve (vf_call1 0 F__law_draw (hr.mono (by omega)) tk (va_cons (vv 1) (va_cons ve_int va_nil)) (by rfl)))) va_nil)) (by rfl))) rfl (by first | exact .inl rfl | exact .inr rfl))
      (vss_cons (vs_forR1 3 nd (passes_of rfl) rfl m_range (va_cons (ve_mul ve_int (ve_callTy call_int1 pc_int m_int (va_cons (ve_gt (ve_callB call_len_seq pc_len m_len (va_cons (vv 2) va_nil) (by rfl)) ve_int) va_nil) (by rfl))) va_nil) (vss_cons (vs_set 4 nd (ve_item (vv 2) (ve_add ve_int (VF.ve (vf_call1 0 F__law_draw (hr.mono (by omega)) tk (va_cons (vv 1) (va_cons (ve_sub (ve_callB call_len_seq pc_len m_len (va_cons (vv 2) va_nil) (by rfl)) ve_int) va_nil)) (by rfl))))) rfl (by first | exact .inl rfl | exact .inr rfl))
      (vss_cut (vs_if (VW.vt (vw_and (vt_lt (vv 3) ve_int) (vw_and1 (vt_not (vt_val (VF.ve (vf_call0 F__law_good (hr.mono (by omega)) tk (va_cons (vv 2) (va_cons (vv 4) va_nil)) (by rfl)))))))) (vss_one (vs_ret (vf_lf ve_bl))) vss_nil)
      (vss_one (vs_set 2 nd (VF.ve (vf_call0 F_turned (hr.mono (by omega)) tk (va_cons (vv 2) (va_cons (vv 4) va_nil)) (by rfl))) rfl (by first | exact .inl rfl | exact .inr rfl))))) rfl rfl (by first | exact .inl rfl | exact .inr rfl))
      (vss_one (vs_ret (vf_lf ve_bl)))))), ?_⟩
  walk_at "v"
  refine ⟨ns, rfl, rfl, hns, fun a b => ?_⟩
  walk_at "v"
  refine ⟨size_ok (by omega), a, b, 3, rfl, rfl, by decide, by decide, fun d a1 d0 d1 => ⟨_, rfl, ?_⟩⟩
  walk_at "v"
  have hk : ∃ k : Int, atI [PV.int 9, PV.int 20, PV.int 40] d = some (.int k) ∧ 0 ≤ k ∧ k ≤ 60 := by
    have h3 : d = 0 ∨ d = 1 ∨ d = 2 := by omega
    rcases h3 with rfl | rfl | rfl
    · exact ⟨_, atI_nat (j := 0) rfl, by decide, by decide⟩
    · exact ⟨_, atI_nat (j := 1) rfl, by decide, by decide⟩
    · exact ⟨_, atI_nat (j := 2) rfl, by decide, by decide⟩
  obtain ⟨k, hk, k0, k1⟩ := hk
  refine ⟨_, hk, ?_⟩
  walk_at "v"
  refine ⟨a1, b, k, rfl, rfl, k0, k1, fun t a2 b2 ht hts => ⟨_, rfl, ?_⟩⟩
  walk_at "v"
  simp only [tvForR1]
  walk_at "v"
  obtain ⟨z, hz, hz0, hz1, hz2⟩ : ∃ z : Int, (if (1 : Int) < (t.pre.length : Int) then (1 : Int) else 0) = z ∧ 0 ≤ z ∧ z ≤ 1 ∧ (0 < z → 1 < t.size) := by
    by_cases c : (1 : Int) < (t.pre.length : Int)
    · rw [if_pos c]; exact ⟨1, rfl, by decide, by decide, fun _ => by rw [← Tr.len_pre]; omega⟩
    · rw [if_neg c]; exact ⟨0, rfl, by decide, by decide, fun h => absurd h (by decide)⟩
  rw [hz]
  have hsz := ht.s
  refine ⟨.inl ⟨by decide, by decide⟩, by omega, by omega, fun i s => ∃ (u : Tr) (a' : Int) (y1 y2 : Option PV), u.ok ∧ u.size = t.size ∧ s = ⟨[some (.cl (ns.map PV.int)), some (.loc 0), some (nums u.pre), y1, y2], [some (pu a' b2)]⟩, ⟨t, a2, none, none, ht, rfl, rfl⟩, ?_, ?_⟩
  · rintro i s hi ⟨u, a', y1, y2, hu, hus, rfl⟩
    have h1 : 1 < u.size := by rw [hus]; exact hz2 (by omega)
    have hul := Tr.len_pre u
    walk_at "v"
    refine ⟨a', b2, (u.pre.length : Int) - 1, rfl, rfl, by omega, by omega, fun r a3 r0 r1 => ⟨_, rfl, ?_⟩⟩
    walk_at "v"
    obtain ⟨v, hv, hvm, hvt⟩ : ∃ v : Int, atI (List.map PV.int u.pre) (1 + r) = some (.int v) ∧ v ∈ u.pre ∧ u.topIs v = false := by
      have e1 : 1 + r = ((r.toNat + 1 : Nat) : Int) := by omega
      have e2 : r.toNat + 1 < u.pre.length := by omega
      refine ⟨u.pre[r.toNat + 1], ?_, List.getElem_mem e2, ?_⟩
      · rw [e1, atI_map, atI_nat (List.getElem?_eq_getElem e2)]; rfl
      · cases u with
        | nil => rfl
        | node l x r' =>
          have m : (Tr.node l x r').pre[r.toNat + 1] ∈ l.pre ++ r'.pre := List.getElem_mem (l := l.pre ++ r'.pre) (by simpa [Tr.pre] using e2)
          refine decide_eq_false fun e => ?_
          rw [← e] at m
          rcases List.mem_append.mp m with m | m
          · have := hu.b.2.2.1 x m; omega
          · have := hu.b.2.2.2 x m; omega
    refine ⟨_, hv, fun s => s = ⟨[some (.cl (ns.map PV.int)), some (.loc 0), some (nums u.pre), some (.int (0 + (i : Int))), some (.int v)], [some (pu a3 b2)]⟩, ?_, ?_⟩
    · by_cases c : 0 + (i : Int) < 12
      · rw [if_pos c]
        exact ⟨rfl, u, v, rfl, rfl, hu, hvm, hvt, rfl⟩
      · rw [if_neg c]
    · rintro s rfl
      walk_at "v"
      refine ⟨u, v, rfl, rfl, hu, fun h => absurd hvm h, fun h => absurd (h.symm.trans hvt) (by decide), fun _ _ => ?_⟩
      exact ⟨u.rot v, a3, _, _, hu.rot v, by rw [Tr.size_rot, hus], rfl⟩
  · rintro s ⟨u, a', y1, y2, hu, hus, rfl⟩
    walk_at "v"
    exact q
end
end A
namespace A
open PySem PySem.Spec PyProof.Rows L2 VS
theorem all_mk {P : Program} {w : World} {K : PySem.W.Frag} {h : Heap} {mg : Str → Option Value} {fa : Addr} (X : K.In h) (G : h.Ns mainGlobals mg) (hfa : mg "law" = some (.ref fa))
    {f0 : Addr} {od0 an0 : Option Addr} {sl0 : Array (Option Value)} {oc0 kV0 dc0 pm0 cd0 ct0 : Value}
    {f1 : Addr} {od1 an1 : Option Addr} {sl1 : Array (Option Value)} {oc1 kV1 dc1 pm1 cd1 ct1 : Value}
    {f2 : Addr} {od2 an2 : Option Addr} {sl2 : Array (Option Value)} {oc2 kV2 dc2 pm2 cd2 ct2 : Value}
    {f3 : Addr} {od3 an3 : Option Addr} {sl3 : Array (Option Value)} {oc3 kV3 dc3 pm3 cd3 ct3 : Value}
    {f4 : Addr} {od4 an4 : Option Addr} {sl4 : Array (Option Value)} {oc4 kV4 dc4 pm4 cd4 ct4 : Value}
    {f5 : Addr} {od5 an5 : Option Addr} {sl5 : Array (Option Value)} {oc5 kV5 dc5 pm5 cd5 ct5 : Value}
    {f6 : Addr} {od6 an6 : Option Addr} {sl6 : Array (Option Value)} {oc6 kV6 dc6 pm6 cd6 ct6 : Value}
    {f7 : Addr} {od7 an7 : Option Addr} {sl7 : Array (Option Value)} {oc7 kV7 dc7 pm7 cd7 ct7 : Value}
    {f8 : Addr} {od8 an8 : Option Addr} {sl8 : Array (Option Value)} {oc8 kV8 dc8 pm8 cd8 ct8 : Value}
    {f9 : Addr} {od9 an9 : Option Addr} {sl9 : Array (Option Value)} {oc9 kV9 dc9 pm9 cd9 ct9 : Value}
    {f10 : Addr} {od10 an10 : Option Addr} {sl10 : Array (Option Value)} {oc10 kV10 dc10 pm10 cd10 ct10 : Value}
    {f11 : Addr} {od11 an11 : Option Addr} {sl11 : Array (Option Value)} {oc11 kV11 dc11 pm11 cd11 ct11 : Value}
    {f12 : Addr} {od12 an12 : Option Addr} {sl12 : Array (Option Value)} {oc12 kV12 dc12 pm12 cd12 ct12 : Value}
    {f13 : Addr} {od13 an13 : Option Addr} {sl13 : Array (Option Value)} {oc13 kV13 dc13 pm13 cd13 ct13 : Value}
    {f14 : Addr} {od14 an14 : Option Addr} {sl14 : Array (Option Value)} {oc14 kV14 dc14 pm14 cd14 ct14 : Value}
    {f15 : Addr} {od15 an15 : Option Addr} {sl15 : Array (Option Value)} {oc15 kV15 dc15 pm15 cd15 ct15 : Value}
    {f16 : Addr} {od16 an16 : Option Addr} {sl16 : Array (Option Value)} {oc16 kV16 dc16 pm16 cd16 ct16 : Value}
    {t_MOST : Tok}
    {C_RiseError : Addr}
    {C_NoTree : Addr}
    {C_NoNumber : Addr}
    {C_NoStep : Addr}
    (a0 : PySem.W.nsIn K mainGlobals "is_tree" = some (some (.ref f0))) (l0 : K.lookup f0 = some ⟨oc0, od0, .func (PySem.W.fnOf "is_tree" "is_tree" (defArgs s_is_tree) (defBody s_is_tree) (defScope s_is_tree) .none kV0 dc0 pm0 an0 cd0 ct0), sl0⟩) (c0 : PySem.W.codeIn K cd0 "is_tree" = true) (k0 : PySem.W.keepIn K (.ref f0) = true)
    (a1 : PySem.W.nsIn K mainGlobals "must_tree" = some (some (.ref f1))) (l1 : K.lookup f1 = some ⟨oc1, od1, .func (PySem.W.fnOf "must_tree" "must_tree" (defArgs s_must_tree) (defBody s_must_tree) (defScope s_must_tree) .none kV1 dc1 pm1 an1 cd1 ct1), sl1⟩) (c1 : PySem.W.codeIn K cd1 "must_tree" = true) (k1 : PySem.W.keepIn K (.ref f1) = true)
    (a2 : PySem.W.nsIn K mainGlobals "parts_of" = some (some (.ref f2))) (l2 : K.lookup f2 = some ⟨oc2, od2, .func (PySem.W.fnOf "parts_of" "parts_of" (defArgs s_parts_of) (defBody s_parts_of) (defScope s_parts_of) .none kV2 dc2 pm2 an2 cd2 ct2), sl2⟩) (c2 : PySem.W.codeIn K cd2 "parts_of" = true) (k2 : PySem.W.keepIn K (.ref f2) = true)
    (a3 : PySem.W.nsIn K mainGlobals "way_to" = some (some (.ref f3))) (l3 : K.lookup f3 = some ⟨oc3, od3, .func (PySem.W.fnOf "way_to" "way_to" (defArgs s_way_to) (defBody s_way_to) (defScope s_way_to) .none kV3 dc3 pm3 an3 cd3 ct3), sl3⟩) (c3 : PySem.W.codeIn K cd3 "way_to" = true) (k3 : PySem.W.keepIn K (.ref f3) = true)
    (a4 : PySem.W.nsIn K mainGlobals "path" = some (some (.ref f4))) (l4 : K.lookup f4 = some ⟨oc4, od4, .func (PySem.W.fnOf "path" "path" (defArgs s_path) (defBody s_path) (defScope s_path) .none kV4 dc4 pm4 an4 cd4 ct4), sl4⟩) (c4 : PySem.W.codeIn K cd4 "path" = true) (k4 : PySem.W.keepIn K (.ref f4) = true)
    (a5 : PySem.W.nsIn K mainGlobals "depths" = some (some (.ref f5))) (l5 : K.lookup f5 = some ⟨oc5, od5, .func (PySem.W.fnOf "depths" "depths" (defArgs s_depths) (defBody s_depths) (defScope s_depths) .none kV5 dc5 pm5 an5 cd5 ct5), sl5⟩) (c5 : PySem.W.codeIn K cd5 "depths" = true) (k5 : PySem.W.keepIn K (.ref f5) = true)
    (a6 : PySem.W.nsIn K mainGlobals "sides" = some (some (.ref f6))) (l6 : K.lookup f6 = some ⟨oc6, od6, .func (PySem.W.fnOf "sides" "sides" (defArgs s_sides) (defBody s_sides) (defScope s_sides) .none kV6 dc6 pm6 an6 cd6 ct6), sl6⟩) (c6 : PySem.W.codeIn K cd6 "sides" = true) (k6 : PySem.W.keepIn K (.ref f6) = true)
    (a7 : PySem.W.nsIn K mainGlobals "turned_over" = some (some (.ref f7))) (l7 : K.lookup f7 = some ⟨oc7, od7, .func (PySem.W.fnOf "turned_over" "turned_over" (defArgs s_turned_over) (defBody s_turned_over) (defScope s_turned_over) .none kV7 dc7 pm7 an7 cd7 ct7), sl7⟩) (c7 : PySem.W.codeIn K cd7 "turned_over" = true) (k7 : PySem.W.keepIn K (.ref f7) = true)
    (a8 : PySem.W.nsIn K mainGlobals "turned" = some (some (.ref f8))) (l8 : K.lookup f8 = some ⟨oc8, od8, .func (PySem.W.fnOf "turned" "turned" (defArgs s_turned) (defBody s_turned) (defScope s_turned) .none kV8 dc8 pm8 an8 cd8 ct8), sl8⟩) (c8 : PySem.W.codeIn K cd8 "turned" = true) (k8 : PySem.W.keepIn K (.ref f8) = true)
    (a9 : PySem.W.nsIn K mainGlobals "_law_mixed" = some (some (.ref f9))) (l9 : K.lookup f9 = some ⟨oc9, od9, .func (PySem.W.fnOf "_law_mixed" "_law_mixed" (defArgs s__law_mixed) (defBody s__law_mixed) (defScope s__law_mixed) .none kV9 dc9 pm9 an9 cd9 ct9), sl9⟩) (c9 : PySem.W.codeIn K cd9 "_law_mixed" = true) (k9 : PySem.W.keepIn K (.ref f9) = true)
    (a10 : PySem.W.nsIn K mainGlobals "_law_purse" = some (some (.ref f10))) (l10 : K.lookup f10 = some ⟨oc10, od10, .func (PySem.W.fnOf "_law_purse" "_law_purse" (defArgs s__law_purse) (defBody s__law_purse) (defScope s__law_purse) .none kV10 dc10 pm10 an10 cd10 ct10), sl10⟩) (c10 : PySem.W.codeIn K cd10 "_law_purse" = true) (k10 : PySem.W.keepIn K (.ref f10) = true)
    (a11 : PySem.W.nsIn K mainGlobals "_law_draw" = some (some (.ref f11))) (l11 : K.lookup f11 = some ⟨oc11, od11, .func (PySem.W.fnOf "_law_draw" "_law_draw" (defArgs s__law_draw) (defBody s__law_draw) (defScope s__law_draw) .none kV11 dc11 pm11 an11 cd11 ct11), sl11⟩) (c11 : PySem.W.codeIn K cd11 "_law_draw" = true) (k11 : PySem.W.keepIn K (.ref f11) = true)
    (a12 : PySem.W.nsIn K mainGlobals "_law_numbers" = some (some (.ref f12))) (l12 : K.lookup f12 = some ⟨oc12, od12, .func (PySem.W.fnOf "_law_numbers" "_law_numbers" (defArgs s__law_numbers) (defBody s__law_numbers) (defScope s__law_numbers) .none kV12 dc12 pm12 an12 cd12 ct12), sl12⟩) (c12 : PySem.W.codeIn K cd12 "_law_numbers" = true) (k12 : PySem.W.keepIn K (.ref f12) = true)
    (a13 : PySem.W.nsIn K mainGlobals "_law_grown" = some (some (.ref f13))) (l13 : K.lookup f13 = some ⟨oc13, od13, .func (PySem.W.fnOf "_law_grown" "_law_grown" (defArgs s__law_grown) (defBody s__law_grown) (defScope s__law_grown) .none kV13 dc13 pm13 an13 cd13 ct13), sl13⟩) (c13 : PySem.W.codeIn K cd13 "_law_grown" = true) (k13 : PySem.W.keepIn K (.ref f13) = true)
    (a14 : PySem.W.nsIn K mainGlobals "_law_tree" = some (some (.ref f14))) (l14 : K.lookup f14 = some ⟨oc14, od14, .func (PySem.W.fnOf "_law_tree" "_law_tree" (defArgs s__law_tree) (defBody s__law_tree) (defScope s__law_tree) .none kV14 dc14 pm14 an14 cd14 ct14), sl14⟩) (c14 : PySem.W.codeIn K cd14 "_law_tree" = true) (k14 : PySem.W.keepIn K (.ref f14) = true)
    (a15 : PySem.W.nsIn K mainGlobals "_law_good" = some (some (.ref f15))) (l15 : K.lookup f15 = some ⟨oc15, od15, .func (PySem.W.fnOf "_law_good" "_law_good" (defArgs s__law_good) (defBody s__law_good) (defScope s__law_good) .none kV15 dc15 pm15 an15 cd15 ct15), sl15⟩) (c15 : PySem.W.codeIn K cd15 "_law_good" = true) (k15 : PySem.W.keepIn K (.ref f15) = true)
    (a16 : PySem.W.nsIn K mainGlobals "law" = some (some (.ref f16))) (l16 : K.lookup f16 = some ⟨oc16, od16, .func (PySem.W.fnOf "law" "law" (defArgs s_law) (defBody s_law) (defScope s_law) .none kV16 dc16 pm16 an16 cd16 ct16), sl16⟩) (c16 : PySem.W.codeIn K cd16 "law" = true) (k16 : PySem.W.keepIn K (.ref f16) = true)
    (z_len : PySem.W.nsIn K mainGlobals "len" = some none)
    (z_abs : PySem.W.nsIn K mainGlobals "abs" = some none)
    (z_int : PySem.W.nsIn K mainGlobals "int" = some none)
    (z_sorted : PySem.W.nsIn K mainGlobals "sorted" = some none)
    (z_range : PySem.W.nsIn K mainGlobals "range" = some none)
    (z_ValueError : PySem.W.nsIn K mainGlobals "ValueError" = some none)
    (q_MOST : PySem.W.nsIn K mainGlobals "MOST" = some (some (.int 60 t_MOST)))
    (q_FAR : ∃ t, mg "FAR" = some (.int 1000000000 t))
    (e_RiseError : PySem.W.nsIn K mainGlobals "RiseError" = some (some (.ref C_RiseError))) (x_RiseError : PySem.W.excIn K C_RiseError [.type "ValueError", .type "Exception", .type "BaseException", .type "object"] "ValueError.__new__" = true) (y_RiseError : PySem.W.keepIn K (.ref C_RiseError) = true) (b_RiseError : PySem.W.subIn K (.ref C_RiseError) (.type "BaseException") = some true) (t_RiseError : PySem.W.typeIn K (.ref C_RiseError) = some (.type "type"))
    (e_NoTree : PySem.W.nsIn K mainGlobals "NoTree" = some (some (.ref C_NoTree))) (x_NoTree : PySem.W.excIn K C_NoTree [.type "ValueError", .type "Exception", .type "BaseException", .type "object"] "ValueError.__new__" = true) (y_NoTree : PySem.W.keepIn K (.ref C_NoTree) = true) (b_NoTree : PySem.W.subIn K (.ref C_NoTree) (.type "BaseException") = some true) (t_NoTree : PySem.W.typeIn K (.ref C_NoTree) = some (.type "type"))
    (e_NoNumber : PySem.W.nsIn K mainGlobals "NoNumber" = some (some (.ref C_NoNumber))) (x_NoNumber : PySem.W.excIn K C_NoNumber [.type "ValueError", .type "Exception", .type "BaseException", .type "object"] "ValueError.__new__" = true) (y_NoNumber : PySem.W.keepIn K (.ref C_NoNumber) = true) (b_NoNumber : PySem.W.subIn K (.ref C_NoNumber) (.type "BaseException") = some true) (t_NoNumber : PySem.W.typeIn K (.ref C_NoNumber) = some (.type "type"))
    (e_NoStep : PySem.W.nsIn K mainGlobals "NoStep" = some (some (.ref C_NoStep))) (x_NoStep : PySem.W.excIn K C_NoStep [.type "ValueError", .type "Exception", .type "BaseException", .type "object"] "ValueError.__new__" = true) (y_NoStep : PySem.W.keepIn K (.ref C_NoStep) = true) (b_NoStep : PySem.W.subIn K (.ref C_NoStep) (.type "BaseException") = some true) (t_NoStep : PySem.W.typeIn K (.ref C_NoStep) = some (.type "type")) :
    ∃ fd : FuncData, (∀ (s : Shared) (v : Value), BindsTo s fd ⟨[v], []⟩ [("_law_script", v)]) ∧ ∀ base : Heap, K.In base → base.Ns mainGlobals mg → FnOk P w K mg base (L2.CX P w) 100 fa fd ["_law_script"] (toSp K 1 p_true) := by
  have e := hfa.symm.trans (PySem.W.mg_of X G a16)
  cases e
  have g : A.G K mg (fun x => if x = "RiseError" then C_RiseError else if x = "NoTree" then C_NoTree else if x = "NoNumber" then C_NoNumber else if x = "NoStep" then C_NoStep else 0) := {
    D_is_tree := ⟨_, _, fun_mk (st := s_is_tree) l0 c0 k0, PySem.W.mg_of X G a0, (fun_mk (st := s_is_tree) l0 c0 k0).binds (ps := ["tree"]) fun _ _ _ _ _ _ us hl => match us, hl with | [_], _ => rfl⟩,
    D_must_tree := ⟨_, _, fun_mk (st := s_must_tree) l1 c1 k1, PySem.W.mg_of X G a1, (fun_mk (st := s_must_tree) l1 c1 k1).binds (ps := ["tree"]) fun _ _ _ _ _ _ us hl => match us, hl with | [_], _ => rfl⟩,
    D_parts_of := ⟨_, _, fun_mk (st := s_parts_of) l2 c2 k2, PySem.W.mg_of X G a2, (fun_mk (st := s_parts_of) l2 c2 k2).binds (ps := ["tree"]) fun _ _ _ _ _ _ us hl => match us, hl with | [_], _ => rfl⟩,
    D_way_to := ⟨_, _, fun_mk (st := s_way_to) l3 c3 k3, PySem.W.mg_of X G a3, (fun_mk (st := s_way_to) l3 c3 k3).binds (ps := ["tree", "number"]) fun _ _ _ _ _ _ us hl => match us, hl with | [_, _], _ => rfl⟩,
    D_path := ⟨_, _, fun_mk (st := s_path) l4 c4 k4, PySem.W.mg_of X G a4, (fun_mk (st := s_path) l4 c4 k4).binds (ps := ["tree", "number"]) fun _ _ _ _ _ _ us hl => match us, hl with | [_, _], _ => rfl⟩,
    D_depths := ⟨_, _, fun_mk (st := s_depths) l5 c5 k5, PySem.W.mg_of X G a5, (fun_mk (st := s_depths) l5 c5 k5).binds (ps := ["tree"]) fun _ _ _ _ _ _ us hl => match us, hl with | [_], _ => rfl⟩,
    D_sides := ⟨_, _, fun_mk (st := s_sides) l6 c6 k6, PySem.W.mg_of X G a6, (fun_mk (st := s_sides) l6 c6 k6).binds (ps := ["tree", "number"]) fun _ _ _ _ _ _ us hl => match us, hl with | [_, _], _ => rfl⟩,
    D_turned_over := ⟨_, _, fun_mk (st := s_turned_over) l7 c7 k7, PySem.W.mg_of X G a7, (fun_mk (st := s_turned_over) l7 c7 k7).binds (ps := ["tree", "number"]) fun _ _ _ _ _ _ us hl => match us, hl with | [_, _], _ => rfl⟩,
    D_turned := ⟨_, _, fun_mk (st := s_turned) l8 c8 k8, PySem.W.mg_of X G a8, (fun_mk (st := s_turned) l8 c8 k8).binds (ps := ["tree", "number"]) fun _ _ _ _ _ _ us hl => match us, hl with | [_, _], _ => rfl⟩,
    D__law_mixed := ⟨_, _, fun_mk (st := s__law_mixed) l9 c9 k9, PySem.W.mg_of X G a9, (fun_mk (st := s__law_mixed) l9 c9 k9).binds (ps := ["_law_cell", "_law_k"]) fun _ _ _ _ _ _ us hl => match us, hl with | [_, _], _ => rfl⟩,
    D__law_purse := ⟨_, _, fun_mk (st := s__law_purse) l10 c10 k10, PySem.W.mg_of X G a10, (fun_mk (st := s__law_purse) l10 c10 k10).binds (ps := ["_law_script"]) fun _ _ _ _ _ _ us hl => match us, hl with | [_], _ => rfl⟩,
    D__law_draw := ⟨_, _, fun_mk (st := s__law_draw) l11 c11 k11, PySem.W.mg_of X G a11, (fun_mk (st := s__law_draw) l11 c11 k11).binds (ps := ["_law_purse_here", "_law_out_of"]) fun _ _ _ _ _ _ us hl => match us, hl with | [_, _], _ => rfl⟩,
    D__law_numbers := ⟨_, _, fun_mk (st := s__law_numbers) l12 c12 k12, PySem.W.mg_of X G a12, (fun_mk (st := s__law_numbers) l12 c12 k12).binds (ps := ["_law_purse_here", "_law_most"]) fun _ _ _ _ _ _ us hl => match us, hl with | [_, _], _ => rfl⟩,
    D__law_grown := ⟨_, _, fun_mk (st := s__law_grown) l13 c13 k13, PySem.W.mg_of X G a13, (fun_mk (st := s__law_grown) l13 c13 k13).binds (ps := ["_law_purse_here", "_law_numbers_here", "_law_kind"]) fun _ _ _ _ _ _ us hl => match us, hl with | [_, _, _], _ => rfl⟩,
    D__law_tree := ⟨_, _, fun_mk (st := s__law_tree) l14 c14 k14, PySem.W.mg_of X G a14, (fun_mk (st := s__law_tree) l14 c14 k14).binds (ps := ["_law_purse_here", "_law_most"]) fun _ _ _ _ _ _ us hl => match us, hl with | [_, _], _ => rfl⟩,
    D__law_good := ⟨_, _, fun_mk (st := s__law_good) l15 c15 k15, PySem.W.mg_of X G a15, (fun_mk (st := s__law_good) l15 c15 k15).binds (ps := ["_law_tree_here", "_law_number"]) fun _ _ _ _ _ _ us hl => match us, hl with | [_, _], _ => rfl⟩,
    D_law := ⟨_, _, fun_mk (st := s_law) l16 c16 k16, PySem.W.mg_of X G a16, (fun_mk (st := s_law) l16 c16 k16).binds (ps := ["_law_script"]) fun _ _ _ _ _ _ us hl => match us, hl with | [_], _ => rfl⟩,
    m_len := PySem.W.mg_none_of X G z_len,
    m_abs := PySem.W.mg_none_of X G z_abs,
    m_int := PySem.W.mg_none_of X G z_int,
    m_sorted := PySem.W.mg_none_of X G z_sorted,
    m_range := PySem.W.mg_none_of X G z_range,
    m_ValueError := PySem.W.mg_none_of X G z_ValueError,
    c_MOST := ⟨_, PySem.W.mg_of X G q_MOST⟩,
    c_FAR := q_FAR,
    E_RiseError := ⟨x_RiseError, PySem.W.mg_of X G e_RiseError, y_RiseError, b_RiseError, t_RiseError⟩,
    E_NoTree := ⟨x_NoTree, PySem.W.mg_of X G e_NoTree, y_NoTree, b_NoTree, t_NoTree⟩,
    E_NoNumber := ⟨x_NoNumber, PySem.W.mg_of X G e_NoNumber, y_NoNumber, b_NoNumber, t_NoNumber⟩,
    E_NoStep := ⟨x_NoStep, PySem.W.mg_of X G e_NoStep, y_NoStep, b_NoStep, t_NoStep⟩ }
  refine ⟨PySem.W.fnOf "law" "law" (defArgs s_law) (defBody s_law) (defScope s_law) .none kV16 dc16 pm16 an16 cd16 ct16, fun s v => .of_eq rfl, fun base _ _ => ?_⟩
  exact ok_law0 g (fun_mk (st := s_law) l16 c16 k16)
end A
open PySem PySem.W PyProof.Rows
set_option maxHeartbeats 0 in
theorem PySem.Challenge.cw_askrise_k06_whole_turns_and_back_holds : PySem.Challenge.rw_askrise_k06_whole_turns_and_back.Holds := by
  w_on; o_law; k_head; (case hw => w_witness2)
  k_fill
  refine VS.walk_V (l := PySem.Challenge.rw_askrise_k06_whole_turns_and_back) (k := 100) (x := "_law_script") rfl rfl ⟨rfl, by decide, by decide⟩ (fun w h Y => PySem.W.kIn_of Y) ?F
  intro w mg fa h KX G XX hmg
  refine' A.all_mk KX G hmg ?a0 ?l0 ?c0 ?k0 ?a1 ?l1 ?c1 ?k1 ?a2 ?l2 ?c2 ?k2 ?a3 ?l3 ?c3 ?k3 ?a4 ?l4 ?c4 ?k4 ?a5 ?l5 ?c5 ?k5 ?a6 ?l6 ?c6 ?k6 ?a7 ?l7 ?c7 ?k7 ?a8 ?l8 ?c8 ?k8 ?a9 ?l9 ?c9 ?k9 ?a10 ?l10 ?c10 ?k10 ?a11 ?l11 ?c11 ?k11 ?a12 ?l12 ?c12 ?k12 ?a13 ?l13 ?c13 ?k13 ?a14 ?l14 ?c14 ?k14 ?a15 ?l15 ?c15 ?k15 ?a16 ?l16 ?c16 ?k16 ?z_len ?z_abs ?z_int ?z_sorted ?z_range ?z_ValueError ?q_MOST ?q_FAR ?e_RiseError ?x_RiseError ?y_RiseError ?b_RiseError ?t_RiseError ?e_NoTree ?x_NoTree ?y_NoTree ?b_NoTree ?t_NoTree ?e_NoNumber ?x_NoNumber ?y_NoNumber ?b_NoNumber ?t_NoNumber ?e_NoStep ?x_NoStep ?y_NoStep ?b_NoStep ?t_NoStep
  (case a0 => k_is)
  (case l0 => k_is)
  (case c0 => k_is)
  (case k0 => k_is)
  (case a1 => k_is)
  (case l1 => k_is)
  (case c1 => k_is)
  (case k1 => k_is)
  (case a2 => k_is)
  (case l2 => k_is)
  (case c2 => k_is)
  (case k2 => k_is)
  (case a3 => k_is)
  (case l3 => k_is)
  (case c3 => k_is)
  (case k3 => k_is)
  (case a4 => k_is)
  (case l4 => k_is)
  (case c4 => k_is)
  (case k4 => k_is)
  (case a5 => k_is)
  (case l5 => k_is)
  (case c5 => k_is)
  (case k5 => k_is)
  (case a6 => k_is)
  (case l6 => k_is)
  (case c6 => k_is)
  (case k6 => k_is)
  (case a7 => k_is)
  (case l7 => k_is)
  (case c7 => k_is)
  (case k7 => k_is)
  (case a8 => k_is)
  (case l8 => k_is)
  (case c8 => k_is)
  (case k8 => k_is)
  (case a9 => k_is)
  (case l9 => k_is)
  (case c9 => k_is)
  (case k9 => k_is)
  (case a10 => k_is)
  (case l10 => k_is)
  (case c10 => k_is)
  (case k10 => k_is)
  (case a11 => k_is)
  (case l11 => k_is)
  (case c11 => k_is)
  (case k11 => k_is)
  (case a12 => k_is)
  (case l12 => k_is)
  (case c12 => k_is)
  (case k12 => k_is)
  (case a13 => k_is)
  (case l13 => k_is)
  (case c13 => k_is)
  (case k13 => k_is)
  (case a14 => k_is)
  (case l14 => k_is)
  (case c14 => k_is)
  (case k14 => k_is)
  (case a15 => k_is)
  (case l15 => k_is)
  (case c15 => k_is)
  (case k15 => k_is)
  (case a16 => k_is)
  (case l16 => k_is)
  (case c16 => k_is)
  (case k16 => k_is)
  (case z_len => k_is)
  (case z_abs => k_is)
  (case z_int => k_is)
  (case z_sorted => k_is)
  (case z_range => k_is)
  (case z_ValueError => k_is)
  (case q_MOST => k_is)
  (case q_FAR => exact VS.loose_int XX (by simp))
  (case e_RiseError => k_is)
  (case x_RiseError => k_exc)
  (case y_RiseError => k_is)
  (case b_RiseError => k_is)
  (case t_RiseError => k_is)
  (case e_NoTree => k_is)
  (case x_NoTree => k_exc)
  (case y_NoTree => k_is)
  (case b_NoTree => k_is)
  (case t_NoTree => k_is)
  (case e_NoNumber => k_is)
  (case x_NoNumber => k_exc)
  (case y_NoNumber => k_is)
  (case b_NoNumber => k_is)
  (case t_NoNumber => k_is)
  (case e_NoStep => k_is)
  (case x_NoStep => k_exc)
  (case y_NoStep => k_is)
  (case b_NoStep => k_is)
  (case t_NoStep => k_is)
