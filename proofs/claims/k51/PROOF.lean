import PyProof.Rows.All
import Wide.All
import OpenK.AllK
import Wide.FinOn
import HandS.ForMost
import HandS.ForExc
import HandS.TupAny
import HandS.IsInst
import HandS.CallSlots
import HandS.WordsExc
import HandS.Codes
import KE.SortData
import KE.DataCmp
import HandS.ExcInit
import HandS.ExcField
import HandS.TryMany
import HandS.RaiseMore
import KE.KTryMore
import KE.KExcIs
import HandS.ExcIs
import HandS.Comp
import HandS.Small
import HandS.WordsDict
import HandS.TupLen
import HandS.Conv
import HandS.Rev
import HandS.Strs
import HandS.Deep
import HandS.TupSets
import KE.KDictSum
import HandS.Flt
import HandS.Strs
import HandS.TupMul
import HandS.RevRange
import HandS.More
import HandS.List
import HandS.Style
import HandS.Replace
import HandS.Defaults
import KE.DataMinMax
import PyProof.ReprRoads
import PyProof.Rows.RegFStrParts
import PyProof.ReprLen
import PySem.Challenge.RW_formgrove_k51_values_of_groves
set_option Elab.async false
set_option linter.all false
set_option autoImplicit false
set_option maxRecDepth 100000
namespace G9
open PySem PySem.Spec PyProof.Rows L2

inductive D where
  | non | bl (b : Bool) | int (i : Int) | str (s : List Nat) | tup (xs : List D) | lst (xs : List D) | dic (t : Bool) (kvs : List (D × D)) | scr (xs : List D) | obj (c : Str) (ks : List Str) (ds : List D) | unk | exn (c : Str) | kt (xs : List D) | ldt (kvs : List (D × D)) | ldk (kvs : List (D × D))
  deriving Inhabited

mutual
def D.imm : D → Bool
  | .non => true | .bl _ => true | .int _ => true | .str _ => true
  | .tup xs => D.imms xs
  | .lst _ => false
  | .dic _ _ => false
  | .scr xs => D.imms xs
  | .obj _ _ _ => false
  | .unk => true
  | .exn _ => true
  | .kt xs => D.imms xs
  | .ldt _ => false
  | .ldk _ => false
def D.imms : List D → Bool
  | [] => true
  | x :: xs => D.imm x && D.imms xs
end

inductive RKe : Key → D → Prop
  | int (i) : RKe (.inl i) (.int i)
  | str (s : List Nat) : RKe (.inr ⟨s.toArray⟩) (.str s)
inductive RKes : List Key → List D → Prop
  | nil : RKes [] []
  | cons {k ks d ds} : RKe k d → RKes ks ds → RKes (k :: ks) (d :: ds)
inductive RKey : (Sum Key (List Key)) → D → Prop
  | one {k d} : RKe k d → RKey (.inl k) d
  | tup {ks ds} : RKes ks ds → RKey (.inr ks) (.tup ds)

def ScL (K : PySem.W.Frag) (H : Hp) (a : Addr) (xs : List V) : Prop := (∃ o, H a = some (.frz o (.lst xs))) ∨
    ∃ (o : Obj) (its : Array Value) (n : Nat), K.lookup a = some o ∧ o.cls = .type "list" ∧ o.dict = none ∧ o.data = .seq its n ∧ its.size ≤ sizeLine ∧ Vals xs its.toList
theorem ScL.sq {K : PySem.W.Frag} {H : Hp} {a : Addr} {xs : List V} (h : ScL K H a xs) : SqL K H a xs := by
  rcases h with ⟨o, h⟩ | h
  · exact .inl (.inr ⟨o, h⟩)
  · exact .inr h
theorem scl_mono {K : PySem.W.Frag} {H H' : Hp} {a : Addr} {xs : List V} (e : Same H H') (h : ScL K H a xs) : ScL K H' a xs := by
  rcases h with ⟨o, h⟩ | h
  · exact .inl ⟨o, e _ _ h⟩
  · exact .inr h

def ClsN (K : PySem.W.Frag) (c : Str) (C : Addr) : Prop := PySem.W.nsIn K mainGlobals c = some (some (.ref C))
def ExL (H : Hp) (a C : Addr) : Prop := ∃ (oe : Obj) (u : HO) (vs : Array Value), H a = some (.frz oe u) ∧ oe.cls = .ref C ∧ oe.dict = none ∧ oe.data = .fields vs
theorem exl_mono {H H' : Hp} {a C : Addr} (e : Same H H') (h : ExL H a C) : ExL H' a C := by
  obtain ⟨oe, u, vs, h1, h2⟩ := h
  exact ⟨oe, u, vs, e _ _ h1, h2⟩
mutual
inductive RV (K : PySem.W.Frag) (H : Hp) : V → D → Prop
  | non : RV K H .non .non
  | bl (b) : RV K H (.bl b) (.bl b)
  | int (i) : RV K H (.int i) (.int i)
  | str (s : List Nat) : RV K H (.str ⟨s.toArray⟩) (.str s)
  | tup {a xs ds} : SqT K H a xs → RVs K H xs ds → RV K H (.ref a) (.tup ds)
  | lst {a xs ds} : Rd H a (.lst xs) → RVs K H xs ds → RV K H (.ref a) (.lst ds)
  | scr {a xs ds} : ScL K H a xs → RVs K H xs ds → RV K H (.ref a) (.scr ds)
  | dicK {a kvs dks} : Rd H a (.dK kvs) → RKs K H (kvs.map fun p => (Sum.inl p.1, p.2)) dks → RV K H (.ref a) (.dic false dks)
  | dicT {a kvs dks} : Rd H a (.dT kvs) → RKs K H (kvs.map fun p => (Sum.inr p.1, p.2)) dks → RV K H (.ref a) (.dic true dks)
  | obj {a C dx c fs ks ds} : ClsN K c C → H a = some (.ins C dx fs) → ks = fs.map (fun p => p.1) → RVs K H (fs.map fun p => p.2) ds → RV K H (.ref a) (.obj c ks ds)
  | unk {v} : RV K H v .unk
  | exn {a C c} : ClsN K c C → ExL H a C → RV K H (.ref a) (.exn c)
  | kt {a xs ds} : H a = some (.tup xs) → RVs K H xs ds → RV K H (.ref a) (.kt ds)
  | ldt {a o kvs dks} : H a = some (.frz o (.dT kvs)) → RKs K H (kvs.map fun p => (Sum.inr p.1, p.2)) dks → RV K H (.ref a) (.ldt dks)
  | ldk {a o kvs dks} : H a = some (.frz o (.dK kvs)) → RKs K H (kvs.map fun p => (Sum.inl p.1, p.2)) dks → RV K H (.ref a) (.ldk dks)
inductive RVs (K : PySem.W.Frag) (H : Hp) : List V → List D → Prop
  | nil : RVs K H [] []
  | cons {x xs d ds} : RV K H x d → RVs K H xs ds → RVs K H (x :: xs) (d :: ds)
inductive RKs (K : PySem.W.Frag) (H : Hp) : List ((Sum Key (List Key)) × V) → List (D × D) → Prop
  | nil : RKs K H [] []
  | cons {k x xs kd d ds} : RKey k kd → RV K H x d → RKs K H xs ds → RKs K H ((k, x) :: xs) ((kd, d) :: ds)
end

theorem rd_mono {H H' : Hp} {a : Addr} {u : HO} (e : Same H H') (h : Rd H a u) : Rd H' a u := by
  rcases h with h | ⟨o, h⟩
  · exact .inl (e _ _ h)
  · exact .inr ⟨o, e _ _ h⟩
theorem sqt_mono {K : PySem.W.Frag} {H H' : Hp} {a : Addr} {xs : List V} (e : Same H H') (h : SqT K H a xs) : SqT K H' a xs := by
  rcases h with h | h
  · exact .inl (rd_mono e h)
  · exact .inr h

section
variable {K : PySem.W.Frag} {H H' F F' : Hp}
mutual
theorem RV.mono (e : Same H H') : ∀ {v : V} {d : D}, RV K H v d → RV K H' v d
  | _, _, .non => .non
  | _, _, .bl b => .bl b
  | _, _, .int i => .int i
  | _, _, .str s => .str s
  | _, _, .tup h r => .tup (sqt_mono e h) (RVs.mono e r)
  | _, _, .lst h r => .lst (rd_mono e h) (RVs.mono e r)
  | _, _, .scr h r => .scr (scl_mono e h) (RVs.mono e r)
  | _, _, .dicK h r => .dicK (rd_mono e h) (RKs.mono e r)
  | _, _, .dicT h r => .dicT (rd_mono e h) (RKs.mono e r)
  | _, _, .obj c h k r => .obj c (e _ _ h) k (RVs.mono e r)
  | _, _, .unk => .unk
  | _, _, .exn c h => .exn c (exl_mono e h)
  | _, _, .kt h r => .kt (e _ _ h) (RVs.mono e r)
  | _, _, .ldt h r => .ldt (e _ _ h) (RKs.mono e r)
  | _, _, .ldk h r => .ldk (e _ _ h) (RKs.mono e r)
theorem RVs.mono (e : Same H H') : ∀ {v : List V} {d : List D}, RVs K H v d → RVs K H' v d
  | _, _, .nil => .nil
  | _, _, .cons a b => .cons (RV.mono e a) (RVs.mono e b)
theorem RKs.mono (e : Same H H') : ∀ {v : List ((Sum Key (List Key)) × V)} {d : List (D × D)}, RKs K H v d → RKs K H' v d
  | _, _, .nil => .nil
  | _, _, .cons k a b => .cons k (RV.mono e a) (RKs.mono e b)
end

structure Tk (H F : Hp) : Prop where
  tup : ∀ p xs, H p = some (.tup xs) → F p = some (.tup xs)
  frz : ∀ p o u, H p = some (.frz o u) → F p = some (.frz o u)
theorem Tk.sqt (t : Tk H F) {a : Addr} {xs : List V} (h : SqT K H a xs) : SqT K F a xs := by
  rcases h with (h | ⟨o, h⟩) | h
  · exact .inl (.inl (t.tup _ _ h))
  · exact .inl (.inr ⟨o, t.frz _ _ _ h⟩)
  · exact .inr h
theorem Tk.rdt (t : Tk H F) {a : Addr} {xs : List V} (h : Rd H a (.tup xs)) : Rd F a (.tup xs) := by
  rcases h with h | ⟨o, h⟩
  · exact .inl (t.tup _ _ h)
  · exact .inr ⟨o, t.frz _ _ _ h⟩
theorem Tk.scl (t : Tk H F) {a : Addr} {xs : List V} (h : ScL K H a xs) : ScL K F a xs := by
  rcases h with ⟨o, h⟩ | h
  · exact .inl ⟨o, t.frz _ _ _ h⟩
  · exact .inr h
theorem Tk.of (e : Same H F) : Tk H F := ⟨fun p xs h => e p _ h, fun p o u h => e p _ h⟩
theorem Tk.refl : Tk H H := ⟨fun _ _ h => h, fun _ _ _ h => h⟩
theorem Tk.trans {G : Hp} (a : Tk H F) (b : Tk F G) : Tk H G := ⟨fun p xs h => b.tup _ _ (a.tup _ _ h), fun p o u h => b.frz _ _ _ (a.frz _ _ _ h)⟩

theorem imms_cons {x : D} {xs : List D} : D.imms (x :: xs) = (x.imm && D.imms xs) := by rw [D.imms]
mutual
theorem RV.chg (t : Tk H F) : ∀ {v : V} {d : D}, RV K H v d → d.imm = true → RV K F v d
  | _, _, .non, _ => .non
  | _, _, .bl b, _ => .bl b
  | _, _, .int i, _ => .int i
  | _, _, .str s, _ => .str s
  | _, _, .tup h r, e => .tup (t.sqt h) (RVs.chg t r (by rw [D.imm] at e; exact e))
  | _, _, .lst h r, e => by rw [D.imm] at e; cases e
  | _, _, .scr h r, e => .scr (t.scl h) (RVs.chg t r (by rw [D.imm] at e; exact e))
  | _, _, .dicK h r, e => by rw [D.imm] at e; cases e
  | _, _, .dicT h r, e => by rw [D.imm] at e; cases e
  | _, _, .obj c h k r, e => by rw [D.imm] at e; cases e
  | _, _, .unk, _ => .unk
  | _, _, .exn c h, _ => .exn c (by obtain ⟨oe, u, vs, h1, h2⟩ := h; exact ⟨oe, u, vs, t.frz _ _ _ h1, h2⟩)
  | _, _, .kt h r, e => .kt (t.tup _ _ h) (RVs.chg t r (by rw [D.imm] at e; exact e))
  | _, _, .ldt h r, e => by rw [D.imm] at e; cases e
  | _, _, .ldk h r, e => by rw [D.imm] at e; cases e
theorem RVs.chg (t : Tk H F) : ∀ {v : List V} {d : List D}, RVs K H v d → D.imms d = true → RVs K F v d
  | _, _, .nil, _ => .nil
  | _, _, .cons a b, e => by
    rw [imms_cons, Bool.and_eq_true] at e
    exact .cons (RV.chg t a e.1) (RVs.chg t b e.2)
end

mutual
inductive RO (K : PySem.W.Frag) (F H : Hp) : V → D → List Addr → Prop
  | imm {v d} : d.imm = true → RV K F v d → RO K F H v d []
  | tup {a xs ds fp} : Rd F a (.tup xs) → ROs K F H xs ds fp → RO K F H (.ref a) (.tup ds) fp
  | lst {a xs ds fp} : H a = some (.lst xs) → ROs K F H xs ds fp → RO K F H (.ref a) (.lst ds) (a :: fp)
  | dicK {a kvs dks fp} : H a = some (.dK kvs) → ROk K F H (kvs.map fun p => (Sum.inl p.1, p.2)) dks fp → RO K F H (.ref a) (.dic false dks) (a :: fp)
  | dicT {a kvs dks fp} : H a = some (.dT kvs) → ROk K F H (kvs.map fun p => (Sum.inr p.1, p.2)) dks fp → RO K F H (.ref a) (.dic true dks) (a :: fp)
  | obj {a C dx c fs ks ds fp} : ClsN K c C → H a = some (.ins C dx fs) → H dx = some (.own a) → ks = fs.map (fun p => p.1) → ROs K F H (fs.map fun p => p.2) ds fp → RO K F H (.ref a) (.obj c ks ds) (a :: dx :: fp)
inductive ROs (K : PySem.W.Frag) (F H : Hp) : List V → List D → List Addr → Prop
  | nil : ROs K F H [] [] []
  | cons {x xs d ds f g} : RO K F H x d f → ROs K F H xs ds g → ROs K F H (x :: xs) (d :: ds) (f ++ g)
inductive ROk (K : PySem.W.Frag) (F H : Hp) : List ((Sum Key (List Key)) × V) → List (D × D) → List Addr → Prop
  | nil : ROk K F H [] [] []
  | cons {k x xs kd d ds f g} : RKey k kd → RO K F H x d f → ROk K F H xs ds g → ROk K F H ((k, x) :: xs) ((kd, d) :: ds) (f ++ g)
end

mutual
theorem RO.view (e : Same F H) : ∀ {v : V} {d : D} {fp : List Addr}, RO K F H v d fp → RV K H v d
  | _, _, _, .imm _ r => r.mono e
  | _, _, _, .tup h r => .tup (.inl (rd_mono e h)) (ROs.view e r)
  | _, _, _, .lst h r => .lst (.inl h) (ROs.view e r)
  | _, _, _, .dicK h r => .dicK (.inl h) (ROk.view e r)
  | _, _, _, .dicT h r => .dicT (.inl h) (ROk.view e r)
  | _, _, _, .obj c h _ k r => .obj c h k (ROs.view e r)
theorem ROs.view (e : Same F H) : ∀ {v : List V} {d : List D} {fp : List Addr}, ROs K F H v d fp → RVs K H v d
  | _, _, _, .nil => .nil
  | _, _, _, .cons a b => .cons (RO.view e a) (ROs.view e b)
theorem ROk.view (e : Same F H) : ∀ {v : List ((Sum Key (List Key)) × V)} {d : List (D × D)} {fp : List Addr}, ROk K F H v d fp → RKs K H v d
  | _, _, _, .nil => .nil
  | _, _, _, .cons k a b => .cons k (RO.view e a) (ROk.view e b)
end

structure Car (K : PySem.W.Frag) (F H F' H' : Hp) (fp : List Addr) : Prop where
  t : Tk F F'
  c : ∀ p ∈ fp, H' p = H p
mutual
theorem RO.car (t : Tk F F') : ∀ {v : V} {d : D} {fp : List Addr}, RO K F H v d fp → (∀ p ∈ fp, H' p = H p) → RO K F' H' v d fp
  | _, _, _, .imm e r, _ => .imm e (r.chg t e)
  | _, _, _, .tup h r, c => .tup (t.rdt h) (ROs.car t r c)
  | _, _, _, .lst h r, c => .lst ((c _ (List.mem_cons_self ..)).trans h) (ROs.car t r fun p hp => c p (List.mem_cons_of_mem _ hp))
  | _, _, _, .dicK h r, c => .dicK ((c _ (List.mem_cons_self ..)).trans h) (ROk.car t r fun p hp => c p (List.mem_cons_of_mem _ hp))
  | _, _, _, .dicT h r, c => .dicT ((c _ (List.mem_cons_self ..)).trans h) (ROk.car t r fun p hp => c p (List.mem_cons_of_mem _ hp))
  | _, _, _, .obj cl h d k r, c => .obj cl ((c _ (List.mem_cons_self ..)).trans h) ((c _ (List.mem_cons_of_mem _ (List.mem_cons_self ..))).trans d) k (ROs.car t r fun p hp => c p (List.mem_cons_of_mem _ (List.mem_cons_of_mem _ hp)))
theorem ROs.car (t : Tk F F') : ∀ {v : List V} {d : List D} {fp : List Addr}, ROs K F H v d fp → (∀ p ∈ fp, H' p = H p) → ROs K F' H' v d fp
  | _, _, _, .nil, _ => .nil
  | _, _, _, .cons a b, c => .cons (RO.car t a fun p hp => c p (List.mem_append_left _ hp)) (ROs.car t b fun p hp => c p (List.mem_append_right _ hp))
theorem ROk.car (t : Tk F F') : ∀ {v : List ((Sum Key (List Key)) × V)} {d : List (D × D)} {fp : List Addr}, ROk K F H v d fp → (∀ p ∈ fp, H' p = H p) → ROk K F' H' v d fp
  | _, _, _, .nil, _ => .nil
  | _, _, _, .cons k a b, c => .cons k (RO.car t a fun p hp => c p (List.mem_append_left _ hp)) (ROk.car t b fun p hp => c p (List.mem_append_right _ hp))
end

def Nt (o : Option HO) : Prop := ∃ u, o = some u ∧ (∀ xs, u ≠ .tup xs) ∧ ∀ o' w, u ≠ .frz o' w
theorem Nt.some {o : Option HO} (h : Nt o) : o ≠ none := by obtain ⟨u, e, _⟩ := h; rw [e]; intro z; cases z
theorem nt_lst {o : Option HO} {xs} (h : o = some (.lst xs)) : Nt o := ⟨_, h, (by intro _ z; cases z), by intro _ _ z; cases z⟩
theorem nt_dK {o : Option HO} {xs} (h : o = some (.dK xs)) : Nt o := ⟨_, h, (by intro _ z; cases z), by intro _ _ z; cases z⟩
theorem nt_dT {o : Option HO} {xs} (h : o = some (.dT xs)) : Nt o := ⟨_, h, (by intro _ z; cases z), by intro _ _ z; cases z⟩
theorem nt_ins {o : Option HO} {C dx fs} (h : o = some (.ins C dx fs)) : Nt o := ⟨_, h, (by intro _ z; cases z), by intro _ _ z; cases z⟩
theorem nt_own {o : Option HO} {x} (h : o = some (.own x)) : Nt o := ⟨_, h, (by intro _ z; cases z), by intro _ _ z; cases z⟩
mutual
theorem RO.nt : ∀ {v : V} {d : D} {fp : List Addr}, RO K F H v d fp → ∀ p ∈ fp, Nt (H p)
  | _, _, _, .imm _ _, p, hp => by cases hp
  | _, _, _, .tup _ r, p, hp => ROs.nt r p hp
  | _, _, _, .lst h r, p, hp => by
    rcases List.mem_cons.mp hp with rfl | hp
    · exact nt_lst h
    · exact ROs.nt r p hp
  | _, _, _, .dicK h r, p, hp => by
    rcases List.mem_cons.mp hp with rfl | hp
    · exact nt_dK h
    · exact ROk.nt r p hp
  | _, _, _, .dicT h r, p, hp => by
    rcases List.mem_cons.mp hp with rfl | hp
    · exact nt_dT h
    · exact ROk.nt r p hp
  | _, _, _, .obj c h d k r, p, hp => by
    rcases List.mem_cons.mp hp with rfl | hp
    · exact nt_ins h
    rcases List.mem_cons.mp hp with rfl | hp
    · exact nt_own d
    · exact ROs.nt r p hp
theorem ROs.nt : ∀ {v : List V} {d : List D} {fp : List Addr}, ROs K F H v d fp → ∀ p ∈ fp, Nt (H p)
  | _, _, _, .nil, p, hp => by cases hp
  | _, _, _, .cons a b, p, hp => by
    rcases List.mem_append.mp hp with hp | hp
    · exact RO.nt a p hp
    · exact ROs.nt b p hp
theorem ROk.nt : ∀ {v : List ((Sum Key (List Key)) × V)} {d : List (D × D)} {fp : List Addr}, ROk K F H v d fp → ∀ p ∈ fp, Nt (H p)
  | _, _, _, .nil, p, hp => by cases hp
  | _, _, _, .cons _ a b, p, hp => by
    rcases List.mem_append.mp hp with hp | hp
    · exact RO.nt a p hp
    · exact ROk.nt b p hp
end

def ovl (F H : Hp) (fp : List Addr) : Hp := fun p => if p ∈ fp then H p else F p
theorem ovl_same {fp : List Addr} (h : ∀ p ∈ fp, F p = none) : Same F (ovl F H fp) := fun p o e => by
  unfold ovl
  by_cases hp : p ∈ fp
  · rw [h p hp] at e; cases e
  · rw [if_neg hp]; exact e
theorem ovl_sub {fp : List Addr} (s : Same F H) : Same (ovl F H fp) H := fun p o e => by
  unfold ovl at e
  by_cases hp : p ∈ fp
  · rw [if_pos hp] at e; exact e
  · rw [if_neg hp] at e; exact s _ _ e
mutual
theorem RO.freeze {G : Hp} (s : Same F G) : ∀ {v : V} {d : D} {fp : List Addr}, RO K F H v d fp → (∀ p ∈ fp, G p = H p) → RV K G v d
  | _, _, _, .imm _ r, _ => r.mono s
  | _, _, _, .tup h r, c => .tup (.inl (rd_mono s h)) (ROs.freeze s r c)
  | _, _, _, .lst h r, c => .lst (.inl ((c _ (List.mem_cons_self ..)).trans h)) (ROs.freeze s r fun p hp => c p (List.mem_cons_of_mem _ hp))
  | _, _, _, .dicK h r, c => .dicK (.inl ((c _ (List.mem_cons_self ..)).trans h)) (ROk.freeze s r fun p hp => c p (List.mem_cons_of_mem _ hp))
  | _, _, _, .dicT h r, c => .dicT (.inl ((c _ (List.mem_cons_self ..)).trans h)) (ROk.freeze s r fun p hp => c p (List.mem_cons_of_mem _ hp))
  | _, _, _, .obj cl h _ k r, c => .obj cl ((c _ (List.mem_cons_self ..)).trans h) k (ROs.freeze s r fun p hp => c p (List.mem_cons_of_mem _ (List.mem_cons_of_mem _ hp)))
theorem ROs.freeze {G : Hp} (s : Same F G) : ∀ {v : List V} {d : List D} {fp : List Addr}, ROs K F H v d fp → (∀ p ∈ fp, G p = H p) → RVs K G v d
  | _, _, _, .nil, _ => .nil
  | _, _, _, .cons a b, c => .cons (RO.freeze s a fun p hp => c p (List.mem_append_left _ hp)) (ROs.freeze s b fun p hp => c p (List.mem_append_right _ hp))
theorem ROk.freeze {G : Hp} (s : Same F G) : ∀ {v : List ((Sum Key (List Key)) × V)} {d : List (D × D)} {fp : List Addr}, ROk K F H v d fp → (∀ p ∈ fp, G p = H p) → RKs K G v d
  | _, _, _, .nil, _ => .nil
  | _, _, _, .cons k a b, c => .cons k (RO.freeze s a fun p hp => c p (List.mem_append_left _ hp)) (ROk.freeze s b fun p hp => c p (List.mem_append_right _ hp))
end
end
end G9

namespace G9
open PySem PySem.Spec PyProof.Rows L2

inductive Slot where
  | dead | lck | frz (d : D) | own (d : D) | pin (d : D)
  deriving Inhabited
abbrev Env := List Slot
structure Exn where
  cls : Str
  fs : List (Str × D)
inductive Res (α : Type) where
  | ok (a : α) | er (x : Exn) | bad
inductive ORes where
  | ok (s : Slot) (e : Env) | er (x : Exn) (e : Env) | bad
inductive Out where
  | nx (e : Env) | rt (s : Slot) (e : Env) | bk (e : Env) | ct (e : Env) | er (x : Exn) (e : Env) | bad
inductive FRes where
  | ok (s : Slot) | er (x : Exn) | bad

section
variable {K : PySem.W.Frag} {mg : Str → Option Value} {H H' F F' : Hp}

def SlotV (K : PySem.W.Frag) (F H : Hp) (v : V) (s : Slot) (fp : List Addr) : Prop :=
  match s with
  | .frz d => RV K F v d ∧ fp = []
  | .own d => RO K F H v d fp ∧ fp.Nodup
  | _ => False
def SlotS (K : PySem.W.Frag) (F H : Hp) (lk : V) (o : Option V) (s : Slot) (fp : List Addr) : Prop :=
  match s with
  | .dead => fp = []
  | .lck => o = some lk ∧ fp = []
  | .pin d => o = some lk ∧ RO K F H lk d fp ∧ fp.Nodup
  | s => ∃ v, o = some v ∧ SlotV K F H v s fp

theorem SlotV.view {v : V} {s : Slot} {fp : List Addr} (h : SlotV K F H v s fp) (e : Same F H) : ∃ d, (s = .frz d ∨ s = .own d) ∧ RV K H v d := by
  cases s with
  | dead => exact h.elim
  | lck => exact h.elim
  | frz d => exact ⟨d, .inl rfl, h.1.mono e⟩
  | own d => exact ⟨d, .inr rfl, h.1.view e⟩
  | pin d => exact h.elim
theorem SlotV.car {v : V} {s : Slot} {fp : List Addr} (h : SlotV K F H v s fp) (e : Same F F') (c : ∀ p ∈ fp, H' p = H p) : SlotV K F' H' v s fp := by
  cases s with
  | dead => exact h.elim
  | lck => exact h.elim
  | frz d => exact ⟨h.1.mono e, h.2⟩
  | own d => exact ⟨RO.car (.of e) h.1 c, h.2⟩
  | pin d => exact h.elim
theorem SlotV.nt {v : V} {s : Slot} {fp : List Addr} (h : SlotV K F H v s fp) : ∀ p ∈ fp, Nt (H p) := by
  cases s with
  | dead => exact h.elim
  | lck => exact h.elim
  | frz d => intro p hp; rw [h.2] at hp; cases hp
  | own d => exact RO.nt h.1
  | pin d => exact h.elim
theorem SlotS.car {lk : V} {o : Option V} {s : Slot} {fp : List Addr} (h : SlotS K F H lk o s fp) (e : Same F F') (c : ∀ p ∈ fp, H' p = H p) : SlotS K F' H' lk o s fp := by
  cases s with
  | dead => exact h
  | lck => exact h
  | frz d => obtain ⟨v, a, b⟩ := h; exact ⟨v, a, b.car e c⟩
  | own d => obtain ⟨v, a, b⟩ := h; exact ⟨v, a, b.car e c⟩
  | pin d => exact ⟨h.1, RO.car (.of e) h.2.1 c, h.2.2⟩
theorem SlotS.nt {lk : V} {o : Option V} {s : Slot} {fp : List Addr} (h : SlotS K F H lk o s fp) : ∀ p ∈ fp, Nt (H p) := by
  cases s with
  | dead => intro p hp; rw [show fp = [] from h] at hp; cases hp
  | lck => intro p hp; rw [h.2] at hp; cases hp
  | frz d => obtain ⟨v, a, b⟩ := h; exact b.nt
  | own d => obtain ⟨v, a, b⟩ := h; exact b.nt
  | pin d => exact RO.nt h.2.1

structure RE (K : PySem.W.Frag) (L : Nat → V) (F H : Hp) (fr : Addr → Prop) (σ : L2.St) (env : Env) (fps : Nat → List Addr) : Prop where
  len : σ.length = env.length
  at' : ∀ i s, env[i]? = some s → SlotS K F H (L i) (σ[i]?.join) s (fps i)
  dis : ∀ i j p, p ∈ fps i → p ∈ fps j → i = j
  off : ∀ i p, p ∈ fps i → F p = none ∧ ¬ fr p ∧ Nt (H p)
  sF : Same F H
  tk : Tk H F
  frd : ∀ p, fr p → F p = none ∧ Nt (H p)

structure Ev (F H : Hp) (fr : Addr → Prop) (F' H' : Hp) : Prop where
  sF : Same F F'
  tk : Tk H H'
  fr : ∀ p, fr p → H' p = H p
theorem Ev.refl {fr} : Ev F H fr F H := ⟨Same.refl F, .refl, fun _ _ => rfl⟩
theorem Ev.trans {fr : Addr → Prop} {F1 H1 F2 H2 : Hp} (a : Ev F H fr F1 H1) (b : Ev F1 H1 fr F2 H2) : Ev F H fr F2 H2 :=
  ⟨a.sF.trans b.sF, a.tk.trans b.tk, fun p h => (b.fr p h).trans (a.fr p h)⟩
theorem Ev.weak {fr fr' : Addr → Prop} (a : Ev F H fr F' H') (h : ∀ p, fr' p → fr p) : Ev F H fr' F' H' := ⟨a.sF, a.tk, fun p q => a.fr p (h p q)⟩

def tkF (F H : Hp) : Hp := fun p => match H p with
  | some (.tup xs) => some (.tup xs)
  | some (.frz o u) => some (.frz o u)
  | _ => F p
theorem tkF_nt {p : Addr} (h : Nt (H p)) : tkF F H p = F p := by
  obtain ⟨u, e, h1, h2⟩ := h
  unfold tkF
  rw [e]
  cases u <;> first | rfl | exact absurd rfl (h1 _) | exact absurd rfl (h2 _ _)
theorem tkF_tk : Tk H (tkF F H) := ⟨fun p xs h => by unfold tkF; rw [h], fun p o u h => by unfold tkF; rw [h]⟩
theorem tkF_le (e : Same F H) : Same (tkF F H) H := fun p o h => by
  unfold tkF at h
  cases q : H p with
  | none => rw [q] at h; exact q ▸ e p o h
  | some u =>
    rw [q] at h
    cases u <;> first | exact h | exact q ▸ e p o h
theorem tkF_ge (e : Same F H) : Same F (tkF F H) := fun p o h => by
  have q := e p o h
  unfold tkF
  rw [q]
  cases o <;> first | rfl | exact h

section
variable {L : Nat → V} {fr : Addr → Prop} {σ : L2.St} {env : Env} {fps : Nat → List Addr}
theorem RE.grow (R : RE K L F H fr σ env fps) (e : Same H H') : RE K L (tkF F H') H' fr σ env fps where
  len := R.len
  at' := fun i s h => by
    refine (R.at' i s h).car (fun p o q => tkF_ge (R.sF.trans e) p o q) fun p hp => ?_
    obtain ⟨u, hu, _⟩ := (R.off i p hp).2.2
    rw [hu]; exact e _ _ hu
  dis := R.dis
  off := fun i p hp => by
    obtain ⟨a, b, c⟩ := R.off i p hp
    have c' : Nt (H' p) := by obtain ⟨u, hu, z⟩ := c; exact ⟨u, e _ _ hu, z⟩
    exact ⟨by rw [tkF_nt c']; exact a, b, c'⟩
  sF := tkF_le (R.sF.trans e)
  tk := tkF_tk
  frd := fun p hp => by
    obtain ⟨a, c⟩ := R.frd p hp
    have c' : Nt (H' p) := by obtain ⟨u, hu, z⟩ := c; exact ⟨u, e _ _ hu, z⟩
    exact ⟨by rw [tkF_nt c']; exact a, c'⟩
theorem Ev.grow (R : RE K L F H fr σ env fps) (e : Same H H') : Ev F H fr (tkF F H') H' :=
  ⟨tkF_ge (R.sF.trans e), .of e, fun p hp => by
    obtain ⟨u, hu, _⟩ := (R.frd p hp).2
    rw [hu]; exact e _ _ hu⟩
theorem RE.get (R : RE K L F H fr σ env fps) {i : Nat} {s : Slot} (h : env[i]? = some s) (hs : (∃ d, s = .frz d) ∨ ∃ d, s = .own d) : ∃ v, σ[i]? = some (some v) ∧ SlotV K F H v s (fps i) := by
  have q := R.at' i s h
  have q' : ∃ v, (σ[i]?.join) = some v ∧ SlotV K F H v s (fps i) := by
    rcases hs with ⟨d, rfl⟩ | ⟨d, rfl⟩ <;> exact q
  obtain ⟨v, e, z⟩ := q'
  refine ⟨v, ?_, z⟩
  cases w : σ[i]? with
  | none => rw [w] at e; cases e
  | some o => rw [w] at e; cases o with
    | none => cases e
    | some u => cases e; rfl
theorem RE.getP (R : RE K L F H fr σ env fps) {i : Nat} {d : D} (h : env[i]? = some (.pin d)) : σ[i]? = some (some (L i)) ∧ RO K F H (L i) d (fps i) ∧ (fps i).Nodup := by
  obtain ⟨e, ro, nd⟩ : (σ[i]?.join) = some (L i) ∧ RO K F H (L i) d (fps i) ∧ (fps i).Nodup := R.at' i _ h
  refine ⟨?_, ro, nd⟩
  cases w : σ[i]? with
  | none => rw [w] at e; cases e
  | some o => rw [w] at e; cases o with
    | none => cases e
    | some u => cases e; rfl
theorem RE.set {v : V} {s : Slot} {fp : List Addr} {i : Nat} (R : RE K L F H (fun p => fr p ∨ p ∈ fp) σ env fps) (h : SlotV K F H v s fp) (hf : ∀ p ∈ fp, ¬ fr p) (hi : i < env.length) :
    RE K L F H fr (σ.set i (some v)) (env.set i s) (fun j => if j = i then fp else fps j) where
  len := by rw [List.length_set, List.length_set]; exact R.len
  at' := fun j t e => by
    by_cases hj : j = i
    · subst hj
      rw [List.getElem?_set_self hi] at e
      cases e
      rw [if_pos rfl, List.getElem?_set_self (by rw [R.len]; exact hi)]
      cases s with
      | dead => exact h.elim
      | lck => exact h.elim
      | frz d => exact ⟨v, rfl, h⟩
      | own d => exact ⟨v, rfl, h⟩
      | pin d => exact h.elim
    · rw [List.getElem?_set_ne (Ne.symm hj)] at e
      rw [if_neg hj, List.getElem?_set_ne (Ne.symm hj)]
      exact R.at' j t e
  dis := fun j k p h1 h2 => by
    by_cases hj : j = i
    · by_cases hk : k = i
      · rw [hj, hk]
      · rw [if_pos hj] at h1
        rw [if_neg hk] at h2
        exact absurd (.inr h1) (R.off k p h2).2.1
    · rw [if_neg hj] at h1
      by_cases hk : k = i
      · rw [if_pos hk] at h2
        exact absurd (.inr h2) (R.off j p h1).2.1
      · rw [if_neg hk] at h2
        exact R.dis j k p h1 h2
  off := fun j p hp => by
    by_cases hj : j = i
    · rw [if_pos hj] at hp
      exact ⟨(R.frd p (.inr hp)).1, hf p hp, (R.frd p (.inr hp)).2⟩
    · rw [if_neg hj] at hp
      obtain ⟨a, b, c⟩ := R.off j p hp
      exact ⟨a, fun z => b (.inl z), c⟩
  sF := R.sF
  tk := R.tk
  frd := fun p hp => R.frd p (.inl hp)
theorem RE.frw {fr' : Addr → Prop} (R : RE K L F H fr σ env fps) (h : ∀ p, fr' p → fr p) : RE K L F H fr' σ env fps :=
  ⟨R.len, R.at', R.dis, fun i p hp => let ⟨a, b, c⟩ := R.off i p hp; ⟨a, fun z => b (h p z), c⟩, R.sF, R.tk, fun p hp => R.frd p (h p hp)⟩
theorem RE.take {i : Nat} {s s' : Slot} (R : RE K L F H fr σ env fps) (h : env[i]? = some s) (h' : s' = .dead ∨ (s' = .lck ∧ σ[i]?.join = some (L i))) :
    RE K L F H (fun p => fr p ∨ p ∈ fps i) σ (env.set i s') (fun j => if j = i then [] else fps j) where
  len := by rw [List.length_set]; exact R.len
  at' := fun j t e => by
    by_cases hj : j = i
    · subst hj
      rw [List.getElem?_set_self (List.getElem?_eq_some_iff.mp h).1] at e
      cases e
      rw [if_pos rfl]
      rcases h' with rfl | ⟨rfl, h'⟩
      · rfl
      · exact ⟨h', rfl⟩
    · rw [List.getElem?_set_ne (Ne.symm hj)] at e
      rw [if_neg hj]
      exact R.at' j t e
  dis := fun j k p h1 h2 => by
    by_cases hj : j = i
    · rw [if_pos hj] at h1; cases h1
    · rw [if_neg hj] at h1
      by_cases hk : k = i
      · rw [if_pos hk] at h2; cases h2
      · rw [if_neg hk] at h2
        exact R.dis j k p h1 h2
  off := fun j p hp => by
    by_cases hj : j = i
    · rw [if_pos hj] at hp; cases hp
    · rw [if_neg hj] at hp
      obtain ⟨a, b, c⟩ := R.off j p hp
      exact ⟨a, fun z => z.elim b fun z => hj (R.dis j i p hp z), c⟩
  sF := R.sF
  tk := R.tk
  frd := fun p hp => hp.elim (R.frd p) fun z => ⟨(R.off i p z).1, (R.off i p z).2.2⟩
end
end
end G9

namespace G9
open PySem PySem.Spec PyProof.Rows L2

def ExR (K : PySem.W.Frag) (mg : Str → Option Value) (x : Exn) (cls : Value) (d : Option Addr) (H : Hp) : Prop :=
  ∃ C, mg x.cls = some (.ref C) ∧ cls = .ref C ∧ ((x.fs = [] ∧ d = none) ∨ ∃ f dd dx v, x.fs = [(f, dd)] ∧ d = some dx ∧ H dx = some (.xd [(f, v)]) ∧ RV K H v dd)

def tV (K : PySem.W.Frag) (mg : Str → Option Value) (W : WX) (m : Env → Res D) : TE := fun σ H Q => ∃ L F fr env fps, RE K L F H fr σ env fps ∧
  match m env with
  | .bad => False
  | .er x => ∀ cls d H', Same H H' → ExR K mg x cls d H' → W cls d σ H'
  | .ok d => ∀ v H', Same H H' → RV K H' v d → Q v H'
def tTm (K : PySem.W.Frag) (mg : Str → Option Value) (W : WX) (m : Env → Res Bool) : TT := fun σ H Q => ∃ L F fr env fps, RE K L F H fr σ env fps ∧
  match m env with
  | .bad => False
  | .er x => ∀ cls d H', Same H H' → ExR K mg x cls d H' → W cls d σ H'
  | .ok b => ∀ H', Same H H' → Q b H'
def tAv (K : PySem.W.Frag) (mg : Str → Option Value) (W : WX) (m : Env → Res (List D)) : TA := fun σ H Q => ∃ L F fr env fps, RE K L F H fr σ env fps ∧
  match m env with
  | .bad => False
  | .er x => ∀ cls d H', Same H H' → ExR K mg x cls d H' → W cls d σ H'
  | .ok ds => ∀ vs H', Same H H' → RVs K H' vs ds → Q vs H'
def tO (K : PySem.W.Frag) (mg : Str → Option Value) (W : WX) (m : Env → ORes) : TE := fun σ H Q => ∃ L F fr env fps, RE K L F H fr σ env fps ∧
  match m env with
  | .bad => False
  | .er x env' => ∀ cls d F' H' fps', RE K L F' H' fr σ env' fps' → Ev F H fr F' H' → ExR K mg x cls d H' → W cls d σ H'
  | .ok s env' => ∀ v F' H' fp fps', RE K L F' H' (fun p => fr p ∨ p ∈ fp) σ env' fps' → Ev F H fr F' H' → SlotV K F' H' v s fp → (∀ p ∈ fp, ¬ fr p) → Q v H'
def tSm (K : PySem.W.Frag) (mg : Str → Option Value) (W : WX) (m : Env → Out) : TS := fun D σ H => ∃ L F fr env fps, RE K L F H fr σ env fps ∧
  match m env with
  | .bad => False
  | .er x env' => ∀ cls d σ' F' H' fps', RE K L F' H' fr σ' env' fps' → Ev F H fr F' H' → ExR K mg x cls d H' → W cls d σ' H'
  | .nx env' => ∀ σ' F' H' fps', RE K L F' H' fr σ' env' fps' → Ev F H fr F' H' → D.nx σ' H'
  | .bk env' => ∀ σ' F' H' fps', RE K L F' H' fr σ' env' fps' → Ev F H fr F' H' → D.bk σ' H'
  | .ct env' => ∀ σ' F' H' fps', RE K L F' H' fr σ' env' fps' → Ev F H fr F' H' → D.ct σ' H'
  | .rt s env' => ∀ v σ' F' H' fp fps', RE K L F' H' (fun p => fr p ∨ p ∈ fp) σ' env' fps' → Ev F H fr F' H' → SlotV K F' H' v s fp → (∀ p ∈ fp, ¬ fr p) → D.rt v H'

def DV (X : Cx) (e : Expr) (m : Env → Res D) : Prop := ∀ W, Takes X W → PE X e (tV X.K X.mg W m)
def DT (X : Cx) (e : Expr) (m : Env → Res Bool) : Prop := ∀ W, Takes X W → PT X e (tTm X.K X.mg W m)
def DW (X : Cx) (e : Expr) (m : Env → Res Bool) : Prop := ∀ W, Takes X W → PW X e (tTm X.K X.mg W m)
def DA (X : Cx) (es : List Expr) (m : Env → Res (List D)) : Prop := ∀ W, Takes X W → PA X es (tAv X.K X.mg W m)
def DO (X : Cx) (e : Expr) (m : Env → ORes) : Prop := ∀ W, Takes X W → PE X e (tO X.K X.mg W m)
def DS (X : Cx) (st : Stmt) (m : Env → Out) : Prop := ∀ W, Takes X W → PassesOwn (model X.prog X.w) X.A X.env X.xe → PS X st (tSm X.K X.mg W m)
def DSs (X : Cx) (st : List Stmt) (m : Env → Out) : Prop := ∀ W, Takes X W → PassesOwn (model X.prog X.w) X.A X.env X.xe → PSs X st (tSm X.K X.mg W m)

theorem PEw {X : Cx} {e : Expr} {t t' : TE} (h : PE X e t) (i : ∀ σ H Q, t' σ H Q → t σ H Q) : PE X e t' := ⟨fun pins s σ H Q I q => h.run pins s σ H Q I (i σ H Q q)⟩
theorem PTw {X : Cx} {e : Expr} {t t' : TT} (h : PT X e t) (i : ∀ σ H Q, t' σ H Q → t σ H Q) : PT X e t' := ⟨fun pins s σ H Q I q => h.run pins s σ H Q I (i σ H Q q)⟩
theorem PWw {X : Cx} {e : Expr} {t t' : TT} (h : PW X e t) (i : ∀ σ H Q, t' σ H Q → t σ H Q) : PW X e t' := ⟨fun w pins s σ H Q I q => h.run w pins s σ H Q I (i σ H Q q)⟩
theorem PAw {X : Cx} {e : List Expr} {t t' : TA} (h : PA X e t) (i : ∀ σ H Q, t' σ H Q → t σ H Q) : PA X e t' := ⟨fun w pins s σ H Q I q => h.run w pins s σ H Q I (i σ H Q q)⟩
theorem PSw {X : Cx} {e : Stmt} {t t' : TS} (h : PS X e t) (i : ∀ D σ H, t' D σ H → t D σ H) : PS X e t' := ⟨fun pins s σ H D I q => h.run pins s σ H D I (i D σ H q)⟩
theorem PSsw {X : Cx} {e : List Stmt} {t t' : TS} (h : PSs X e t) (i : ∀ D σ H, t' D σ H → t D σ H) : PSs X e t' := ⟨fun pins s σ H D I q => h.run pins s σ H D I (i D σ H q)⟩

section
variable {X : Cx}

def mC (d : D) : Env → Res D := fun _ => .ok d
def mVar (i : Nat) : Env → Res D := fun env => match env[i]? with
  | some (.frz d) => .ok d
  | some (.own d) => .ok d
  | some (.pin d) => .ok d
  | _ => .bad
theorem dv_tC {e : Expr} {v : V} {d : D} (h : PE X e (tC v)) (r : ∀ H, RV X.K H v d) : DV X e (mC d) := fun W _ => PEw h fun σ H Q ⟨L, F, fr, env, fps, R, q⟩ => q v H (Same.refl H) (r H)
theorem dv_int {i j pos} : DV X (.Constant (.int i) j pos) (mC (.int i)) := dv_tC pe_int fun _ => .int i
theorem dv_bl {b j pos} : DV X (.Constant (.bool b) j pos) (mC (.bl b)) := dv_tC pe_bl fun _ => .bl b
theorem str_eta (x : Str) : (⟨x.cps.toList.toArray⟩ : Str) = x := by cases x; rfl
theorem rv_str {K : PySem.W.Frag} {H : Hp} (x : Str) : RV K H (.str x) (.str x.cps.toList) := by
  have h := RV.str (K := K) (H := H) x.cps.toList
  rw [str_eta] at h
  exact h
theorem dv_str {x : Str} {l : List Nat} {j pos} (h : x.cps.toList = l := by decide +kernel) : DV X (.Constant (.str x) j pos) (mC (.str l)) := by
  subst h
  exact dv_tC pe_str fun _ => rv_str x
theorem dv_var (i : Nat) {x : Str} {pos : Pos} (hN : X.N[i]? = some x := by rfl) (hv : Vis X.env.scope x := by first | exact Or.inl rfl | exact Or.inr (Or.inl rfl) | exact Or.inr (Or.inr rfl)) (hd : (x == ("__debug__" : Str)) = false := by decide)
    (hcd : (x == ("__classdict__" : Str)) = false := by decide) : DV X (.Name x pos) (mVar i) := fun W _ => PEw (pe_var hN hv hd hcd) fun σ H Q ⟨L, F, fr, env, fps, R, q⟩ => by
  cases e : env[i]? with
  | none => unfold mVar at q; rw [e] at q; exact q.elim
  | some sl =>
    unfold mVar at q
    rw [e] at q
    cases sl with
    | dead => exact q.elim
    | lck => exact q.elim
    | frz d =>
      obtain ⟨v, a, b⟩ := R.get e (.inl ⟨d, rfl⟩)
      exact ⟨v, a, q v H (Same.refl H) (b.1.mono R.sF)⟩
    | own d =>
      obtain ⟨v, a, b⟩ := R.get e (.inr ⟨d, rfl⟩)
      exact ⟨v, a, q v H (Same.refl H) (b.1.view R.sF)⟩
    | pin d =>
      obtain ⟨a, b⟩ := R.getP e
      exact ⟨_, a, q _ H (Same.refl H) (b.1.view R.sF)⟩

def Res.bind {α β : Type} (a : Res α) (f : α → Res β) : Res β := match a with
  | .ok a => f a
  | .er x => .er x
  | .bad => .bad
theorem tV_re {W : WX} {K : PySem.W.Frag} {mg : Str → Option Value} {L : Nat → V} {F H H' : Hp} {fr : Addr → Prop} {σ : L2.St} {env : Env} {fps : Nat → List Addr} {m : Env → Res D} {Q : VK} (R : RE K L F H fr σ env fps) (e : Same H H')
    (h : match m env with | .bad => False | .er x => ∀ cls d H2, Same H' H2 → ExR K mg x cls d H2 → W cls d σ H2 | .ok d => ∀ v H2, Same H' H2 → RV K H2 v d → Q v H2) : tV K mg W m σ H' Q :=
  ⟨L, _, fr, env, fps, R.grow e, h⟩
def m2 (g : D → D → Res D) (a b : Env → Res D) : Env → Res D := fun env => (a env).bind fun x => (b env).bind fun y => g x y
def m1 (g : D → Res D) (a : Env → Res D) : Env → Res D := fun env => (a env).bind fun x => g x
def R2ok (K : PySem.W.Frag) (g : D → D → Res D) (r : R2) : Prop := ∀ (H : Hp) (x y : V) (dx dy d : D) (Q : VK), RV K H x dx → RV K H y dy →
  g dx dy = .ok d → (∀ v H', Same H H' → RV K H' v d → Q v H') → r x y H Q
theorem tV_two {W : WX} {K : PySem.W.Frag} {mg : Str → Option Value} {g : D → D → Res D} {ma mb : Env → Res D} {σ : L2.St} {H : Hp} {Q : VK} (h : tV K mg W (m2 g ma mb) σ H Q) :
    tV K mg W ma σ H fun x H1 => tV K mg W mb σ H1 fun y H2 => ∃ dx dy, RV K H2 x dx ∧ RV K H2 y dy ∧ match g dx dy with | .bad => False | .er e => ∀ cls d H', Same H2 H' → ExR K mg e cls d H' → W cls d σ H' | .ok d => ∀ v H', Same H2 H' → RV K H' v d → Q v H' := by
  obtain ⟨L, F, fr, env, fps, R, q⟩ := h
  refine ⟨L, F, fr, env, fps, R, ?_⟩
  unfold m2 at q
  cases ea : ma env with
  | bad => rw [ea] at q; exact q
  | er x => rw [ea] at q; exact q
  | ok da =>
    rw [ea] at q
    intro x H1 s1 rx
    refine tV_re R s1 ?_
    change (match (Res.bind (mb env) fun y => g da y : Res D) with | .bad => False | .er x => _ | .ok d => _) at q
    cases eb : mb env with
    | bad => rw [eb] at q; exact q
    | er e => rw [eb] at q; intro cls d H2 s2 ex; exact q cls d H2 (s1.trans s2) ex
    | ok db =>
      rw [eb] at q
      intro y H2 s2 ry
      refine ⟨da, db, rx.mono s2, ry, ?_⟩
      change (match g da db with | .bad => False | .er x => _ | .ok d => _) at q
      cases eg : g da db with
      | bad => rw [eg] at q; exact q
      | er e => rw [eg] at q; intro cls d H3 s3 ex; exact q cls d H3 ((s1.trans s2).trans s3) ex
      | ok d => rw [eg] at q; intro v H3 s3 rv; exact q v H3 ((s1.trans s2).trans s3) rv
variable {a b : Expr} {ma mb : Env → Res D} {pos : Pos} {g : D → D → Res D} {r : R2}
theorem r2_of {K : PySem.W.Frag} {mg : Str → Option Value} {W : WX} (ok : R2ok K g r) (ne : ∀ x y e, g x y ≠ .er e) {σ : L2.St} {H : Hp} {Q : VK} (h : tV K mg W (m2 g ma mb) σ H Q) :
    tOp r (tV K mg W ma) (tV K mg W mb) σ H Q := by
  obtain ⟨L, F, fr, env, fps, R, q⟩ := tV_two h
  refine ⟨L, F, fr, env, fps, R, ?_⟩
  cases ea : ma env with
  | bad => rw [ea] at q; exact q
  | er x => rw [ea] at q; exact q
  | ok da =>
    rw [ea] at q
    intro x H1 s1 rx
    obtain ⟨L1, F1, fr1, env1, fps1, R1, q1⟩ := q x H1 s1 rx
    refine ⟨L1, F1, fr1, env1, fps1, R1, ?_⟩
    cases eb : mb env1 with
    | bad => rw [eb] at q1; exact q1
    | er x => rw [eb] at q1; exact q1
    | ok db =>
      rw [eb] at q1
      intro y H2 s2 ry
      obtain ⟨dx, dy, r1, r2, z⟩ := q1 y H2 s2 ry
      cases eg : g dx dy with
      | bad => rw [eg] at z; exact z.elim
      | er e => exact absurd eg (ne _ _ _)
      | ok d => rw [eg] at z; exact ok H2 x y dx dy d Q r1 r2 eg z
theorem dv_bin {op : Operator} (ho : OpR X (binaryOp op) r) (ok : R2ok X.K g r) (ne : ∀ x y e, g x y ≠ .er e) (ha : DV X a ma) (hb : DV X b mb) : DV X (.BinOp a op b pos) (m2 g ma mb) := fun W tk =>
  PEw (pe_op ho (ha W tk) (hb W tk)) fun σ H Q h => r2_of ok ne h
theorem dv_cmp {op : CmpOp} (ho : OpR X (compareOp op) r) (ok : R2ok X.K g r) (ne : ∀ x y e, g x y ≠ .er e) (hm : behindInMarks op b = false) (ha : DV X a ma) (hb : DV X b mb) : DV X (.Compare a [op] [b] pos) (m2 g ma mb) := fun W tk =>
  PEw (pe_cmpR ho (ha W tk) (hb W tk) hm) fun σ H Q h => r2_of ok ne h
def mB (m : Env → Res D) : Env → Res Bool := fun env => (m env).bind fun d => match d with | .bl b => .ok b | _ => .bad
theorem dt_of_pt {e : Expr} {t : TE} {m : Env → Res D} (hp : ∀ W, Takes X W → PT X e (tTest (tV X.K X.mg W m))) : DT X e (mB m) := fun W tk => PTw (hp W tk) fun σ H Q ⟨L, F, fr, env, fps, R, q⟩ => by
  refine ⟨L, F, fr, env, fps, R, ?_⟩
  unfold mB at q
  cases e : m env with
  | bad => rw [e] at q; exact q
  | er x => rw [e] at q; exact q
  | ok d =>
    rw [e] at q
    intro v H' s r
    cases r with
    | bl b => exact ⟨b, rfl, q H' s⟩
    | _ => exact q.elim
theorem dt_cmp {op : CmpOp} (ho : OpR X (compareOp op) r) (ok : R2ok X.K g r) (ne : ∀ x y e, g x y ≠ .er e) (hm : behindInMarks op b = false) (ha : DV X a ma) (hb : DV X b mb) : DT X (.Compare a [op] [b] pos) (mB (m2 g ma mb)) :=
  dt_of_pt (t := tOp r (tV X.K X.mg (fun _ _ _ _ => False) ma) (tV X.K X.mg (fun _ _ _ _ => False) mb)) fun W tk => PTw (pt_cmpR ho (ha W tk) (hb W tk) hm) fun σ H Q h => r2_of ok ne h
theorem dt_val {e : Expr} {m : Env → Res D} (h : DV X e m) (he : ∀ whole, isTrue e X.env whole = (do let v ← whole; standAt e.pos; holding [v] (truthy v)) := by intro _; rfl) : DT X e (mB m) := fun W tk => PTw (pt_val (h W tk) he) fun σ H Q ⟨L, F, fr, env, fps, R, q⟩ => by
  refine ⟨L, F, fr, env, fps, R, ?_⟩
  unfold mB at q
  cases e : m env with
  | bad => rw [e] at q; exact q
  | er x => rw [e] at q; exact q
  | ok d =>
    rw [e] at q
    intro v H' s r
    cases r with
    | bl b => exact ⟨b, rfl, q H' s⟩
    | _ => exact q.elim
end
end G9

namespace G9
open PySem PySem.Spec PyProof.Rows L2

mutual
def D.pd : D → PyData
  | .non => .none | .bl b => .bool b | .int i => .int i | .str s => .str ⟨s.toArray⟩
  | .tup xs => .tuple (D.pds xs) | .lst xs => .list (D.pds xs) | .scr xs => .list (D.pds xs)
  | .dic _ _ => .dict [] | .obj _ _ _ => .dict [] | .unk => .dict [] | .exn _ => .dict [] | .kt xs => .tuple (D.pds xs) | .ldt _ => .dict [] | .ldk _ => .dict []
def D.pds : List D → List PyData
  | [] => []
  | x :: xs => D.pd x :: D.pds xs
end
def sOk (s : List Nat) : Bool := s.all (· < 0x110000)
mutual
/-- no dict within, signs as they may be -/
def D.lay : D → Bool
  | .non => true | .bl _ => true | .int _ => true | .str s => sOk s
  | .tup xs => D.lays xs | .lst xs => D.lays xs | .scr xs => D.lays xs
  | .dic _ _ => false | .obj _ _ _ => false | .unk => false | .exn _ => false | .kt xs => D.lays xs | .ldt _ => false | .ldk _ => false
def D.lays : List D → Bool
  | [] => true
  | x :: xs => D.lay x && D.lays xs
end
theorem lays_cons {x : D} {xs : List D} : D.lays (x :: xs) = (x.lay && D.lays xs) := by rw [D.lays]
theorem strOk_of {s : List Nat} (h : sOk s = true) : PyData.strOk ⟨s.toArray⟩ = true := by
  unfold PyData.strOk
  unfold sOk at h
  simpa using h
mutual
theorem D.lay_can : ∀ d : D, d.lay = true → d.pd.canLay0 = true
  | .non, _ => rfl
  | .bl _, _ => rfl
  | .int _, _ => rfl
  | .str s, h => by rw [D.lay] at h; rw [D.pd]; show PyData.strOk _ = true; exact strOk_of h
  | .tup xs, h => by rw [D.lay] at h; rw [D.pd]; show PyData.canLayAll0 _ = true; exact D.lays_can xs h
  | .lst xs, h => by rw [D.lay] at h; rw [D.pd]; show PyData.canLayAll0 _ = true; exact D.lays_can xs h
  | .scr xs, h => by rw [D.lay] at h; rw [D.pd]; show PyData.canLayAll0 _ = true; exact D.lays_can xs h
  | .dic _ _, h => by rw [D.lay] at h; cases h
  | .obj _ _ _, h => by rw [D.lay] at h; cases h
  | .unk, h => by rw [D.lay] at h; cases h
  | .exn _, h => by rw [D.lay] at h; cases h
  | .kt xs, h => by rw [D.lay] at h; rw [D.pd]; show PyData.canLayAll0 _ = true; exact D.lays_can xs h
  | .ldt _, h => by rw [D.lay] at h; cases h
  | .ldk _, h => by rw [D.lay] at h; cases h
theorem D.lays_can : ∀ d : List D, D.lays d = true → PyData.canLayAll0 (D.pds d) = true
  | [], _ => by rw [D.pds]; rfl
  | x :: xs, h => by
    rw [lays_cons, Bool.and_eq_true] at h
    rw [D.pds]
    show (_ && _) = true
    rw [D.lay_can x h.1, D.lays_can xs h.2]; rfl
end
section
variable {K : PySem.W.Frag} {H : Hp}
mutual
theorem RV.dp : ∀ {v : V} {d : D}, RV K H v d → d.lay = true → Dp K H v d.pd
  | _, _, .non, _ => by rw [D.pd]; exact .non
  | _, _, .bl b, _ => by rw [D.pd]; exact .bl b
  | _, _, .int i, _ => by rw [D.pd]; exact .int i
  | _, _, .str s, _ => by rw [D.pd]; exact .str _
  | _, _, .tup h r, e => by rw [D.lay] at e; rw [D.pd]; exact .tup h (RVs.dp r e)
  | _, _, .lst h r, e => by rw [D.lay] at e; rw [D.pd]; exact .lst (.inl h) (RVs.dp r e)
  | _, _, .scr h r, e => by rw [D.lay] at e; rw [D.pd]; exact .lst h.sq (RVs.dp r e)
  | _, _, .dicK h r, e => by rw [D.lay] at e; cases e
  | _, _, .dicT h r, e => by rw [D.lay] at e; cases e
  | _, _, .obj c h k r, e => by rw [D.lay] at e; cases e
  | _, _, .unk, e => by rw [D.lay] at e; cases e
  | _, _, .exn _ _, e => by rw [D.lay] at e; cases e
  | _, _, .kt h r, e => by rw [D.lay] at e; rw [D.pd]; exact .tup (.inl (.inl h)) (RVs.dp r e)
  | _, _, .ldt _ _, e => by rw [D.lay] at e; cases e
  | _, _, .ldk _ _, e => by rw [D.lay] at e; cases e
theorem RVs.dp : ∀ {v : List V} {d : List D}, RVs K H v d → D.lays d = true → DpAll K H v (D.pds d)
  | _, _, .nil, _ => by rw [D.pds]; exact .nil
  | _, _, .cons a b, e => by
    rw [lays_cons, Bool.and_eq_true] at e
    rw [D.pds]
    exact .cons (RV.dp a e.1) (RVs.dp b e.2)
end
end
def D.eqv (a b : D) : Bool := PyData.eqv a.pd b.pd
def D.dep (a : D) : Nat := a.pd.depth

section
variable {X : Cx} {a b : Expr} {ma mb : Env → Res D} {pos : Pos}
def scalD : D → D → Option Bool
  | .non, .non => some true | .non, .int _ => some false | .int _, .non => some false | .non, .bl _ => some false | .bl _, .non => some false
  | .non, .str _ => some false | .str _, .non => some false
  | .int i, .int j => some (decide (i = j)) | .bl i, .bl j => some (decide (i = j)) | .str s, .str t => some (decide (s = t))
  | .int _, .str _ => some false | .str _, .int _ => some false | .bl _, .str _ => some false | .str _, .bl _ => some false
  | _, _ => none
def eqD (B : Nat) (x y : D) : Res Bool := match scalD x y with
  | some b => .ok b
  | none => if x.lay = true ∧ y.lay = true ∧ (x.dep ≤ B ∨ y.dep ≤ B) then .ok (x.eqv y) else .bad
def gEq (B : Nat) (x y : D) : Res D := (eqD B x y).bind fun b => .ok (.bl b)
def gNe (B : Nat) (x y : D) : Res D := (eqD B x y).bind fun b => .ok (.bl (!b))
theorem scal_of {K : PySem.W.Frag} {H : Hp} {x y : V} {dx dy : D} {b : Bool} (hx : RV K H x dx) (hy : RV K H y dy) (h : scalD dx dy = some b) : scal x y = true ∧ decide (x = y) = b := by
  cases hx <;> cases hy <;> simp only [scalD, Option.some.injEq, reduceCtorEq] at h <;> subst h <;> refine ⟨rfl, ?_⟩ <;> simp
theorem gEq_ne {B : Nat} : ∀ x y e, gEq B x y ≠ .er e := by
  intro x y e
  unfold gEq eqD
  cases scalD x y with
  | some b => intro z; cases z
  | none =>
    dsimp only
    split
    · intro z; cases z
    · intro z; cases z
theorem gNe_ne {B : Nat} : ∀ x y e, gNe B x y ≠ .er e := by
  intro x y e
  unfold gNe eqD
  cases scalD x y with
  | some b => intro z; cases z
  | none =>
    dsimp only
    split
    · intro z; cases z
    · intro z; cases z
def rEqA (K : PySem.W.Frag) (B : Nat) : R2 := fun x y H Q => (scal x y = true ∧ Q (.bl (decide (x = y))) H) ∨ ∃ d e, Dp K H x d ∧ Dp K H y e ∧ d.canLay0 = true ∧ e.canLay0 = true ∧ min d.depth e.depth ≤ B ∧ Q (.bl (PyData.eqv d e)) H
def rNeA (K : PySem.W.Frag) (B : Nat) : R2 := fun x y H Q => (scal x y = true ∧ Q (.bl (!decide (x = y))) H) ∨ ∃ d e, Dp K H x d ∧ Dp K H y e ∧ d.canLay0 = true ∧ e.canLay0 = true ∧ min d.depth e.depth ≤ B ∧ Q (.bl (!PyData.eqv d e)) H
theorem op_eqA {B : Nat} (hu : X.A.units + B < cLine) : OpR X (compareOp .Eq) (rEqA X.K B) := by
  intro pins s σ H x y v u Q I rx ry h
  rcases h with h | ⟨d, e, hd, he, sd, se, hb, q⟩
  · exact op_eq pins s σ H x y v u Q I rx ry h
  · obtain ⟨as, r1⟩ := Dp.reads I d x v hd rx
    obtain ⟨bs, r2⟩ := Dp.reads I e y u he ry
    exact SeqAt.compareEq_reads r1 r2 sd se (by omega) ⟨.bl _, H, I, rfl, q⟩
theorem op_neA {B : Nat} (hu : X.A.units + B < cLine) : OpR X (compareOp .NotEq) (rNeA X.K B) := by
  intro pins s σ H x y v u Q I rx ry h
  rcases h with h | ⟨d, e, hd, he, sd, se, hb, q⟩
  · exact op_ne pins s σ H x y v u Q I rx ry h
  · obtain ⟨as, r1⟩ := Dp.reads I d x v hd rx
    obtain ⟨bs, r2⟩ := Dp.reads I e y u he ry
    exact SeqAt.compareNe_reads r1 r2 sd se (by omega) ⟨.bl _, H, I, rfl, q⟩
theorem ok_eq {K : PySem.W.Frag} {B : Nat} : R2ok K (gEq B) (rEqA K B) := by
  intro H x y dx dy d Q hx hy eg h
  unfold gEq eqD at eg
  cases e : scalD dx dy with
  | some b =>
    rw [e] at eg
    cases eg
    obtain ⟨h1, h2⟩ := scal_of hx hy e
    exact .inl ⟨h1, by rw [h2]; exact h _ H (Same.refl H) (.bl _)⟩
  | none =>
    rw [e] at eg
    dsimp only at eg
    by_cases c : dx.lay = true ∧ dy.lay = true ∧ (dx.dep ≤ B ∨ dy.dep ≤ B)
    · rw [if_pos c] at eg
      cases eg
      exact .inr ⟨_, _, hx.dp c.1, hy.dp c.2.1, dx.lay_can c.1, dy.lay_can c.2.1, by have := c.2.2; unfold D.dep at this; omega, h _ H (Same.refl H) (.bl _)⟩
    · rw [if_neg c] at eg; cases eg
theorem ok_ne {K : PySem.W.Frag} {B : Nat} : R2ok K (gNe B) (rNeA K B) := by
  intro H x y dx dy d Q hx hy eg h
  unfold gNe eqD at eg
  cases e : scalD dx dy with
  | some b =>
    rw [e] at eg
    cases eg
    obtain ⟨h1, h2⟩ := scal_of hx hy e
    exact .inl ⟨h1, by rw [h2]; exact h _ H (Same.refl H) (.bl _)⟩
  | none =>
    rw [e] at eg
    dsimp only at eg
    by_cases c : dx.lay = true ∧ dy.lay = true ∧ (dx.dep ≤ B ∨ dy.dep ≤ B)
    · rw [if_pos c] at eg
      cases eg
      exact .inr ⟨_, _, hx.dp c.1, hy.dp c.2.1, dx.lay_can c.1, dy.lay_can c.2.1, by have := c.2.2; unfold D.dep at this; omega, h _ H (Same.refl H) (.bl _)⟩
    · rw [if_neg c] at eg; cases eg
def eEq (B : Nat) := m2 (gEq B)
def eNe (B : Nat) := m2 (gNe B)
theorem dv_eq {B : Nat} (hu : X.A.units + B < cLine) (ha : DV X a ma) (hb : DV X b mb) : DV X (.Compare a [.Eq] [b] pos) (eEq B ma mb) := dv_cmp (op_eqA hu) ok_eq gEq_ne (nomark _) ha hb
theorem dv_ne {B : Nat} (hu : X.A.units + B < cLine) (ha : DV X a ma) (hb : DV X b mb) : DV X (.Compare a [.NotEq] [b] pos) (eNe B ma mb) := dv_cmp (op_neA hu) ok_ne gNe_ne (nomark _) ha hb
theorem dt_eq {B : Nat} (hu : X.A.units + B < cLine) (ha : DV X a ma) (hb : DV X b mb) : DT X (.Compare a [.Eq] [b] pos) (mB (eEq B ma mb)) := dt_cmp (op_eqA hu) ok_eq gEq_ne (nomark _) ha hb
theorem dt_ne {B : Nat} (hu : X.A.units + B < cLine) (ha : DV X a ma) (hb : DV X b mb) : DT X (.Compare a [.NotEq] [b] pos) (mB (eNe B ma mb)) := dt_cmp (op_neA hu) ok_ne gNe_ne (nomark _) ha hb

def gI (C : Int → Int → Bool) (f : Int → Int → D) : D → D → Res D
  | .int i, .int j => if C i j = true then .ok (f i j) else .bad
  | _, _ => .bad
theorem gI_ne {C : Int → Int → Bool} {f : Int → Int → D} : ∀ x y e, gI C f x y ≠ .er e := by
  intro x y e
  unfold gI
  split
  · split
    · intro z; cases z
    · intro z; cases z
  · intro z; cases z
theorem gI_ok {C : Int → Int → Bool} {f : Int → Int → D} {x y d : D} (h : gI C f x y = .ok d) : ∃ i j, x = .int i ∧ y = .int j ∧ C i j = true ∧ d = f i j := by
  unfold gI at h
  split at h
  · rename_i i j
    by_cases c : C i j = true
    · rw [if_pos c] at h; cases h; exact ⟨i, j, rfl, rfl, c, rfl⟩
    · rw [if_neg c] at h; cases h
  · cases h
theorem ok_I {K : PySem.W.Frag} {C : Int → Int → Prop} {C' : Int → Int → Bool} {g : Int → Int → V} {f : Int → Int → D} (hC : ∀ i j, C' i j = true → C i j) (hr : ∀ H i j, RV K H (g i j) (f i j)) : R2ok K (gI C' f) (rI C g) := by
  intro H x y dx dy d Q hx hy eg h
  obtain ⟨i, j, rfl, rfl, c, rfl⟩ := gI_ok eg
  cases hx
  cases hy
  exact ⟨i, j, rfl, rfl, hC _ _ c, h _ H (Same.refl H) (hr H i j)⟩
theorem ok_I0 {K : PySem.W.Frag} {g : Int → Int → V} {f : Int → Int → D} (hr : ∀ H i j, RV K H (g i j) (f i j)) : R2ok K (gI (fun _ _ => true) f) (rI0 g) := by
  intro H x y dx dy d Q hx hy eg h
  obtain ⟨i, j, rfl, rfl, c, rfl⟩ := gI_ok eg
  cases hx
  cases hy
  exact ⟨i, j, rfl, rfl, h _ H (Same.refl H) (hr H i j)⟩
noncomputable def pr (p : Prop) : Bool := @decide p (Classical.propDecidable p)
theorem pr_eq {p : Prop} : (pr p = true) = p := by unfold pr; simp
noncomputable def cMul (i j : Int) : Bool := pr (-(2 ^ 64) < i ∧ i < 2 ^ 64) || pr (-(2 ^ 64) < j ∧ j < 2 ^ 64)
noncomputable def cDiv (i j : Int) : Bool := pr (0 < j ∧ j < 1073741824)
noncomputable def cMod (_ j : Int) : Bool := pr (0 < j)
def eSub := m2 (gI (fun _ _ => true) fun i j => .int (i - j))
noncomputable def eFdiv := m2 (gI cDiv fun i j => .int (i / j))
noncomputable def eMod := m2 (gI cMod fun i j => .int (i % j))
theorem dv_sub (ha : DV X a ma) (hb : DV X b mb) : DV X (.BinOp a .Sub b pos) (eSub ma mb) := dv_bin op_sub (ok_I0 fun _ _ _ => .int _) gI_ne ha hb
theorem dv_fdiv (ha : DV X a ma) (hb : DV X b mb) : DV X (.BinOp a .FloorDiv b pos) (eFdiv ma mb) := dv_bin op_fdiv (ok_I (fun i j h => by have h' := h; simp only [cDiv, pr_eq] at h'; exact h') fun _ _ _ => .int _) gI_ne ha hb
theorem dv_mod (ha : DV X a ma) (hb : DV X b mb) : DV X (.BinOp a .Mod b pos) (eMod ma mb) := dv_bin op_mod (ok_I (fun i j h => by have h' := h; simp only [cMod, pr_eq] at h'; exact h') fun _ _ _ => .int _) gI_ne ha hb
def listAdd : R2 := fun x y H Q => ∃ l b xs zs, x = .ref l ∧ y = .ref b ∧ Rd H l (.lst xs) ∧ Rd H b (.lst zs) ∧ xs.length + zs.length ≤ sizeLine ∧ ∀ p, H p = none → Q (.ref p) (upd H p (.lst (xs ++ zs)))
theorem lst_rd {pins : List (Addr × Obj)} {σ : L2.St} {H : Hp} {s : Shared} {l : Addr} {xs : List V} (I : Inv X pins σ H s) (hH : Rd H l (.lst xs)) :
    xs.length ≤ sizeLine ∧ ∃ (its : List Value) (n : Nat), Vals xs its ∧ xs.length = its.length ∧ s.heap.get? l = some { cls := .type "list", data := .seq its.toArray n } := by
  obtain ⟨z, its, n, r, e⟩ := hH.ok I.hok
  exact ⟨z, its, n, r, r.length, e⟩
theorem op_listAdd : OpR X (binaryOp .Add) listAdd := by
  intro pins s σ H x y v u Q I rx ry h
  obtain ⟨l, b, xs, zs, rfl, rfl, hH, hB, hz, q⟩ := h
  cases rx
  cases ry
  obtain ⟨z, its, n, r, hl, e⟩ := lst_rd I hH
  obtain ⟨z2, its2, n2, r2, hl2, e2⟩ := lst_rd I hB
  refine PySem.P.add_list e e2 ?_ (by rw [List.size_toArray, List.size_toArray]; omega)
  have ea : its.toArray ++ its2.toArray = (its ++ its2).toArray := by simp
  rw [ea]
  exact ⟨.ref _, _, I.lnew (t' := s.toks) (r.append r2) (by rw [List.length_append]; omega), rfl, q _ I.fresh⟩
theorem same_upd {H : Hp} {p : Addr} {o : HO} (h : H p = none) : Same H (upd H p o) := fun b x e => by
  rw [upd_ne (ne_of_none e h)]
  exact e
theorem RVs.len {K : PySem.W.Frag} {H : Hp} : ∀ {v : List V} {d : List D}, RVs K H v d → v.length = d.length
  | _, _, .nil => rfl
  | _, _, .cons _ b => by rw [List.length_cons, List.length_cons, RVs.len b]
theorem RVs.app {K : PySem.W.Frag} {H : Hp} : ∀ {v w : List V} {d e : List D}, RVs K H v d → RVs K H w e → RVs K H (v ++ w) (d ++ e)
  | _, _, _, _, .nil, s => s
  | _, _, _, _, .cons a b, s => .cons a (RVs.app b s)
theorem RVs.get {K : PySem.W.Frag} {H : Hp} : ∀ {v : List V} {d : List D} {i : Nat} {x : D}, RVs K H v d → d[i]? = some x → ∃ u, v[i]? = some u ∧ RV K H u x
  | _, _, _, _, .nil, e => by simp at e
  | _, _, 0, _, .cons a _, e => by simp at e; subst e; exact ⟨_, rfl, a⟩
  | _, _, i + 1, x, .cons _ b, e => by
    obtain ⟨u, h1, h2⟩ := RVs.get (i := i) (x := x) b (by simpa using e)
    exact ⟨u, by simpa using h1, h2⟩
theorem RVs.take {K : PySem.W.Frag} {H : Hp} : ∀ {v : List V} {d : List D} (n : Nat), RVs K H v d → RVs K H (v.take n) (d.take n)
  | _, _, 0, _ => .nil
  | _, _, _ + 1, .nil => .nil
  | _, _, n + 1, .cons a b => .cons a (RVs.take n b)
theorem RVs.drop {K : PySem.W.Frag} {H : Hp} : ∀ {v : List V} {d : List D} (n : Nat), RVs K H v d → RVs K H (v.drop n) (d.drop n)
  | _, _, 0, r => r
  | _, _, _ + 1, .nil => .nil
  | _, _, n + 1, .cons _ b => RVs.drop n b
theorem RVs.rep {K : PySem.W.Frag} {H : Hp} {v : List V} {d : List D} (r : RVs K H v d) : ∀ n : Nat, RVs K H (List.replicate n v).flatten (List.replicate n d).flatten
  | 0 => .nil
  | n + 1 => by rw [List.replicate_succ, List.replicate_succ, List.flatten_cons, List.flatten_cons]; exact r.app (RVs.rep r n)
def gAdd : D → D → Res D
  | .int i, .int j => .ok (.int (i + j))
  | .str s, .str t => if s.length + t.length ≤ sizeLine then .ok (.str (s ++ t)) else .bad
  | .lst s, .lst t => if s.length + t.length ≤ sizeLine then .ok (.lst (s ++ t)) else .bad
  | .tup s, .tup t => if s.length + t.length ≤ sizeLine then .ok (.tup (s ++ t)) else .bad
  | _, _ => .bad
end
end G9

namespace G9
open PySem PySem.Spec PyProof.Rows L2
section
variable {X : Cx} {a b : Expr} {ma mb : Env → Res D} {pos : Pos}
def rAddA (K : PySem.W.Frag) : R2 := fun x y H Q => ((rI0 fun i j => .int (i + j)) x y H Q ∨ (∃ i j, x = .str i ∧ y = .str j ∧ i.length + j.length ≤ sizeLine ∧ Q (.str (i ++ j)) H)) ∨ (listAdd x y H Q ∨ rCatA K x y H Q)
theorem gAdd_ne : ∀ x y e, gAdd x y ≠ .er e := by
  intro x y e
  unfold gAdd
  split <;> (repeat' split) <;> intro z <;> cases z
theorem str_app (s t : List Nat) : (⟨s.toArray⟩ : Str) ++ ⟨t.toArray⟩ = ⟨(s ++ t).toArray⟩ := by
  show (⟨s.toArray ++ t.toArray⟩ : Str) = _
  simp
theorem RVs.nil_iff {K : PySem.W.Frag} {H : Hp} {v : List V} {d : List D} (r : RVs K H v d) : v = [] ↔ d = [] := by
  cases r <;> simp
theorem ok_add {K : PySem.W.Frag} : R2ok K gAdd (rAddA K) := by
  intro H x y dx dy d Q hx hy eg h
  cases hx with
  | int i =>
    cases hy <;> simp only [gAdd, reduceCtorEq, Res.ok.injEq] at eg
    subst eg
    exact .inl (.inl ⟨_, _, rfl, rfl, h _ H (Same.refl H) (.int _)⟩)
  | str s =>
    cases hy <;> simp only [gAdd, reduceCtorEq] at eg
    rename_i t
    split at eg
    · rename_i hl
      cases eg
      refine .inl (.inr ⟨_, _, rfl, rfl, by show s.toArray.size + t.toArray.size ≤ _; simpa using hl, ?_⟩)
      rw [str_app]
      exact h _ H (Same.refl H) (.str _)
    · cases eg
  | lst hr rr =>
    cases hy with
    | lst hr' rr' =>
      simp only [gAdd] at eg
      split at eg
      · rename_i hl
        cases eg
        refine .inr (.inl ⟨_, _, _, _, rfl, rfl, hr, hr', by rw [rr.len, rr'.len]; exact hl, fun p hp => ?_⟩)
        exact h _ _ (same_upd hp) (.lst (.inl upd_same) ((rr.mono (same_upd hp)).app (rr'.mono (same_upd hp))))
      · cases eg
    | _ => simp only [gAdd, reduceCtorEq] at eg
  | tup hr rr =>
    cases hy with
    | tup hr' rr' =>
      simp only [gAdd] at eg
      skip
      split at eg
      · rename_i hl
        cases eg
        refine .inr (.inr ⟨_, _, _, _, rfl, rfl, hr, hr', by rw [rr.len, rr'.len]; exact hl, fun z => ?_, fun z1 z2 => ?_, fun z1 z2 p hp => ?_⟩)
        · have e2 := rr.nil_iff.mp z
          rw [e2, List.nil_append] at h
          exact h _ H (Same.refl H) (.tup hr' rr')
        · have e2 := rr'.nil_iff.mp z2
          rw [e2, List.append_nil] at h
          exact h _ H (Same.refl H) (.tup hr rr)
        · exact h _ _ (same_upd hp) (.tup (.inl (.inl upd_same)) ((rr.mono (same_upd hp)).app (rr'.mono (same_upd hp))))
      · cases eg
    | _ => simp only [gAdd, reduceCtorEq] at eg
  | _ => simp only [gAdd, reduceCtorEq] at eg

def eAdd := m2 gAdd
theorem op_addA : OpR X (binaryOp .Add) (rAddA X.K) := (OpR.or op_add op_add_str).or (op_listAdd.or op_catA)
theorem dv_add (ha : DV X a ma) (hb : DV X b mb) : DV X (.BinOp a .Add b pos) (eAdd ma mb) := dv_bin op_addA ok_add gAdd_ne ha hb

def strRep : R2 := fun x y H Q => ∃ z k, x = .str z ∧ y = .int k ∧ -(2 ^ 63) ≤ k ∧ k < 2 ^ 63 ∧ z.length * k.toNat ≤ sizeLine ∧ Q (.str ⟨(List.replicate k.toNat z.cps.toList).flatten.toArray⟩) H
theorem rep_foldl {α : Type} (c : Array α) : ∀ n : Nat, (List.replicate n c).foldl (· ++ ·) #[] = (List.replicate n c.toList).flatten.toArray := fun n => by
  have h : ∀ (n : Nat) (acc : Array α), (List.replicate n c).foldl (· ++ ·) acc = acc ++ (List.replicate n c.toList).flatten.toArray := by
    intro n
    induction n with
    | zero => intro acc; simp
    | succ n ih =>
      intro acc
      rw [List.replicate_succ, List.foldl_cons, ih, List.replicate_succ, List.flatten_cons]
      rw [Array.append_assoc]
      congr 1
      apply Array.toList_inj.mp
      simp
  rw [h]
  simp
theorem op_strRep : OpR X (binaryOp .Mult) strRep := by
  intro pins s σ H x y v u Q I rx ry h
  obtain ⟨z, k, rfl, rfl, h1, h2, hz, q⟩ := h
  obtain ⟨t, rfl⟩ := rx
  obtain ⟨t', rfl⟩ := ry
  have hs : (sizeLine : Nat) = 16777216 := sizeLine_eq
  refine PySem.P.mul_str (by rw [decide_eq_false (show ¬ k < -(2 ^ 63) by omega), decide_eq_false (show ¬ k ≥ 2 ^ 63 by omega)]; rfl) (fun hk hc hb => ?_) (fun hk hc => ?_) ?_
  · have hk0 : (0 : Int) < k := by omega
    have h3 : (z.length : Int) * k ≤ 16777216 := by
      have : ((z.length * k.toNat : Nat) : Int) ≤ ((16777216 : Nat) : Int) := by rw [← hs]; exact Int.ofNat_le.mpr hz
      rw [Int.natCast_mul, Int.toNat_of_nonneg (by omega)] at this
      exact this
    have h4 : (z.length : Int) ≤ (2 ^ 63 - 1) / k := by
      refine (Int.le_ediv_iff_mul_le hk0).mpr ?_
      omega
    omega
  · have : ¬ (z.length * k.toNat > sizeLine) := by omega
    first
      | exact decide_eq_false this
      | (unfold tooLong; exact decide_eq_false this)
      | (unfold tooLong; simp; omega)
  · by_cases hk : k < 1
    · rw [if_pos hk]
      have e0 : k.toNat = 0 := by omega
      rw [e0] at q
      exact ⟨by decide, ⟨.str Str.empty, H, I.tok _, ⟨_, rfl⟩, q⟩⟩
    · rw [if_neg hk]
      by_cases hc : (k == 1 || z.length == 0) = true
      · rw [if_pos hc]
        have e0 : (List.replicate k.toNat z.cps.toList).flatten.toArray = z.cps := by
          rcases Bool.or_eq_true _ _ |>.mp hc with e | e
          · have : k = 1 := by simpa using e
            subst this
            simp
          · have e' : z.cps.size = 0 := by simpa [Str.length] using e
            have e2 : z.cps = #[] := Array.eq_empty_of_size_eq_zero e'
            rw [e2]
            simp
        rw [e0] at q
        exact ⟨.str z, H, I, ⟨t, rfl⟩, q⟩
      · rw [if_neg hc, rep_foldl]
        refine ⟨?_, ⟨.str _, H, I.tok _, ⟨_, rfl⟩, q⟩⟩
        show (List.replicate k.toNat z.cps.toList).flatten.toArray.size ≤ _
        rw [List.size_toArray, PyProof.Rows.lm_len_rep_flat, Nat.mul_comm, Array.length_toList]
        exact hz
def lstRep : R2 := fun x y H Q => ∃ l k xs, x = .ref l ∧ y = .int k ∧ Rd H l (.lst xs) ∧ -(2 ^ 63) ≤ k ∧ k < 2 ^ 63 ∧ xs.length * k.toNat ≤ sizeLine ∧
  ∀ p, H p = none → Q (.ref p) (upd H p (.lst (List.replicate k.toNat xs).flatten))
theorem op_lstRep : OpR X (binaryOp .Mult) lstRep := by
  intro pins s σ H x y v u Q I rx ry h
  obtain ⟨l, k, xs, rfl, rfl, hH, h1, h2, hz, q⟩ := h
  cases rx
  obtain ⟨t, rfl⟩ := ry
  obtain ⟨z, its, n, r, hl, e⟩ := lst_rd I hH
  have hlen : its.toArray.size * k.toNat ≤ sizeLine := by rw [List.size_toArray, ← hl]; exact hz
  have hcap : ¬ its.toArray.size * k.toNat > (2 ^ 63 - 1) / 8 := by
    have : (sizeLine : Nat) ≤ (2 ^ 63 - 1) / 8 := by decide
    omega
  have hfit : ¬ (!Builtin.List.listFitsIndex k) = true := by
    rw [fitsIndex_both h1 h2]
    exact Bool.false_ne_true
  have hlong : ¬ Builtin.List.listTooLong (its.toArray.size * k.toNat) = true := by
    rw [notLongL hlen]
    exact Bool.false_ne_true
  have hnew : List.foldl (fun x1 x2 => x1 ++ x2) #[] (List.replicate (if its.toArray.isEmpty = true then 0 else k.toNat) its.toArray) = (List.replicate k.toNat its).flatten.toArray := by
    have f0 : ∀ m : Nat, List.foldl (fun x1 x2 => x1 ++ x2) #[] (List.replicate m its.toArray) = (List.replicate m its).flatten.toArray := fun m => rep_foldl its.toArray m
    rw [f0]
    cases its with
    | nil => simp
    | cons a r' => rw [if_neg (by simp)]
  refine wpAny_binaryOp_repeat_ref (T := "list") (U := "int") (by decide) ⟨_, e, rfl⟩ (fun s' => typeIs_int s' k t) noFill_list_mul F.fills_int_mul F.slot_int_rmul repeat_list F.slot_int_index.lookup
    (call_meets F.slot_int_rmul (typeIs_int s k t) F.entry_int_rmul (F.args_int_rmul_2 _ _) (int___rmul___int_list k t l its.toArray n)
      ⟨e, rfl, ⟨_, e, rfl⟩, call_meets F.slot_list_mul ⟨_, e, rfl⟩ F.entry_list_mul (F.args_list_mul_2 _ _) (AutoListH.list___mul___list_int_3 l its.toArray n k t hfit hcap hlong) ⟨e, ?_⟩⟩)
  rw [hnew]
  exact ⟨.ref _, _, I.lnew (t' := s.toks) (r.rep k.toNat) (by rw [PyProof.Rows.lm_len_rep_flat, Nat.mul_comm]; exact hz), rfl, q _ I.fresh⟩
noncomputable def gMul : D → D → Res D
  | .int i, .int j => if cMul i j = true then .ok (.int (i * j)) else .bad
  | .str s, .int k => @ite _ (-(2 ^ 63) ≤ k ∧ k < 2 ^ 63 ∧ s.length * k.toNat ≤ sizeLine) (Classical.propDecidable _) (.ok (.str (List.replicate k.toNat s).flatten)) .bad
  | .lst s, .int k => @ite _ (-(2 ^ 63) ≤ k ∧ k < 2 ^ 63 ∧ s.length * k.toNat ≤ sizeLine) (Classical.propDecidable _) (.ok (.lst (List.replicate k.toNat s).flatten)) .bad
  | _, _ => .bad
theorem gMul_ne : ∀ x y e, gMul x y ≠ .er e := by
  intro x y e
  unfold gMul
  split <;> (repeat' split) <;> intro z <;> cases z
def rMulA : R2 := fun x y H Q => (rI CMul fun i j => .int (i * j)) x y H Q ∨ (strRep x y H Q ∨ lstRep x y H Q)
theorem ok_mul {K : PySem.W.Frag} : R2ok K gMul rMulA := by
  intro H x y dx dy d Q hx hy eg h
  cases hx with
  | int i =>
    cases hy <;> simp only [gMul, reduceCtorEq] at eg
    split at eg
    · rename_i hc
      cases eg
      refine .inl ⟨_, _, rfl, rfl, ?_, h _ H (Same.refl H) (.int _)⟩
      have h' := hc
      simp only [cMul, Bool.or_eq_true, pr_eq] at h'
      exact h'
    · cases eg
  | str s =>
    cases hy <;> simp only [gMul, reduceCtorEq] at eg
    split at eg
    · rename_i hc
      cases eg
      exact .inr (.inl ⟨_, _, rfl, rfl, hc.1, hc.2.1, by show s.toArray.size * _ ≤ _; rw [List.size_toArray]; exact hc.2.2, h _ H (Same.refl H) (.str _)⟩)
    · cases eg
  | lst hr rr =>
    cases hy <;> simp only [gMul, reduceCtorEq] at eg
    split at eg
    · rename_i hc
      cases eg
      refine .inr (.inr ⟨_, _, _, rfl, rfl, hr, hc.1, hc.2.1, by rw [rr.len]; exact hc.2.2, fun p hp => ?_⟩)
      exact h _ _ (same_upd hp) (.lst (.inl upd_same) ((rr.mono (same_upd hp)).rep _))
    · cases eg
  | _ => simp only [gMul, reduceCtorEq] at eg
noncomputable def eMul := m2 gMul
theorem op_mulA : OpR X (binaryOp .Mult) rMulA := op_mul.or (op_strRep.or op_lstRep)
theorem dv_mul (ha : DV X a ma) (hb : DV X b mb) : DV X (.BinOp a .Mult b pos) (eMul ma mb) := dv_bin op_mulA ok_mul gMul_ne ha hb

def gLt := gI (fun _ _ => true) fun i j => .bl (decide (i < j))
def gGt := gI (fun _ _ => true) fun i j => .bl (decide (j < i))
theorem ok_lt {K : PySem.W.Frag} : R2ok K gLt (rI0 fun i j => .bl (decide (i < j))) := ok_I0 fun _ _ _ => .bl _
theorem ok_gt {K : PySem.W.Frag} : R2ok K gGt (rI0 fun i j => .bl (decide (j < i))) := ok_I0 fun _ _ _ => .bl _
def eLt := m2 gLt
def eGt := m2 gGt
theorem dv_gt (ha : DV X a ma) (hb : DV X b mb) : DV X (.Compare a [.Gt] [b] pos) (eGt ma mb) := dv_cmp op_gt ok_gt gI_ne (nomark _) ha hb
theorem dt_lt (ha : DV X a ma) (hb : DV X b mb) : DT X (.Compare a [.Lt] [b] pos) (mB (eLt ma mb)) := dt_cmp op_lt ok_lt gI_ne (nomark _) ha hb
theorem dt_gt (ha : DV X a ma) (hb : DV X b mb) : DT X (.Compare a [.Gt] [b] pos) (mB (eGt ma mb)) := dt_cmp op_gt ok_gt gI_ne (nomark _) ha hb
end
end G9

namespace G9
open PySem PySem.Spec PyProof.Rows L2
section
variable {X : Cx} {a b c : Expr} {ma mb mc : Env → Res D} {pos : Pos} {es : List Expr} {ms : Env → Res (List D)}
def bAnd (x y : Env → Res Bool) : Env → Res Bool := fun env => (x env).bind fun c => if c = true then y env else .ok false
def bOr (x y : Env → Res Bool) : Env → Res Bool := fun env => (x env).bind fun c => if c = true then .ok true else y env
def bNot (x : Env → Res Bool) : Env → Res Bool := fun env => (x env).bind fun c => .ok (!c)
variable {xa xb : Env → Res Bool} {rest : List Expr}
theorem dw_and1 (ha : DT X a xa) : DW X (.BoolOp .And [a] pos) xa := fun W tk => pw_and1 (ha W tk)
theorem dw_or1 (ha : DT X a xa) : DW X (.BoolOp .Or [a] pos) xa := fun W tk => pw_or1 (ha W tk)
theorem tTm_re {W : WX} {K : PySem.W.Frag} {mg : Str → Option Value} {L : Nat → V} {F H H' : Hp} {fr : Addr → Prop} {σ : L2.St} {env : Env} {fps : Nat → List Addr} {m : Env → Res Bool} {Q : Bool → Hp → Prop} (R : RE K L F H fr σ env fps) (e : Same H H')
    (h : match m env with | .bad => False | .er x => ∀ cls d H2, Same H H2 → ExR K mg x cls d H2 → W cls d σ H2 | .ok d => ∀ H2, Same H H2 → Q d H2) : tTm K mg W m σ H' Q := by
  refine ⟨L, _, fr, env, fps, R.grow e, ?_⟩
  cases q : m env with
  | bad => rw [q] at h; exact h
  | er x => rw [q] at h; exact fun cls d H2 s z => h cls d H2 (e.trans s) z
  | ok d => rw [q] at h; exact fun H2 s => h H2 (e.trans s)
theorem tV_re' {W : WX} {K : PySem.W.Frag} {mg : Str → Option Value} {L : Nat → V} {F H H' : Hp} {fr : Addr → Prop} {σ : L2.St} {env : Env} {fps : Nat → List Addr} {m : Env → Res D} {Q : VK} (R : RE K L F H fr σ env fps) (e : Same H H')
    (h : match m env with | .bad => False | .er x => ∀ cls d H2, Same H H2 → ExR K mg x cls d H2 → W cls d σ H2 | .ok d => ∀ v H2, Same H H2 → RV K H2 v d → Q v H2) : tV K mg W m σ H' Q := by
  refine ⟨L, _, fr, env, fps, R.grow e, ?_⟩
  cases q : m env with
  | bad => rw [q] at h; exact h
  | er x => rw [q] at h; exact fun cls d H2 s z => h cls d H2 (e.trans s) z
  | ok d => rw [q] at h; exact fun v H2 s => h v H2 (e.trans s)
theorem dw_and (ha : DT X a xa) (hb : DW X (.BoolOp .And (b :: rest) pos) xb) : DW X (.BoolOp .And (a :: b :: rest) pos) (bAnd xa xb) := fun W tk => PWw (pw_and (ha W tk) (hb W tk)) fun σ H Q ⟨L, F, fr, env, fps, R, q⟩ => by
  refine ⟨L, F, fr, env, fps, R, ?_⟩
  unfold bAnd at q
  cases e : xa env with
  | bad => rw [e] at q; exact q
  | er x => rw [e] at q; exact q
  | ok k =>
    rw [e] at q
    intro H1 s
    cases k with
    | true => rw [if_pos rfl]; exact tTm_re R s q
    | false => rw [if_neg Bool.false_ne_true]; exact q H1 s
theorem dw_or (ha : DT X a xa) (hb : DW X (.BoolOp .Or (b :: rest) pos) xb) : DW X (.BoolOp .Or (a :: b :: rest) pos) (bOr xa xb) := fun W tk => PWw (pw_or (ha W tk) (hb W tk)) fun σ H Q ⟨L, F, fr, env, fps, R, q⟩ => by
  refine ⟨L, F, fr, env, fps, R, ?_⟩
  unfold bOr at q
  cases e : xa env with
  | bad => rw [e] at q; exact q
  | er x => rw [e] at q; exact q
  | ok k =>
    rw [e] at q
    intro H1 s
    cases k with
    | true => rw [if_pos rfl]; exact q H1 s
    | false => rw [if_neg Bool.false_ne_true]; exact tTm_re R s q
theorem dt_bool {e : Expr} (h : DW X e xa) : DT X e xa := fun W tk => (h W tk).pt
theorem dt_not (ha : DT X a xa) : DT X (.UnaryOp .Not a pos) (bNot xa) := fun W tk => PTw (pt_not (ha W tk)) fun σ H Q ⟨L, F, fr, env, fps, R, q⟩ => by
  refine ⟨L, F, fr, env, fps, R, ?_⟩
  unfold bNot at q
  cases e : xa env with
  | bad => rw [e] at q; exact q
  | er x => rw [e] at q; exact q
  | ok k => rw [e] at q; exact q
def eAnd (x y : Env → Res D) : Env → Res D := fun env => (x env).bind fun c => match c with | .bl true => y env | .bl false => .ok (.bl false) | _ => .bad
def eNot (x : Env → Res D) : Env → Res D := fun env => (x env).bind fun c => match c with | .bl k => .ok (.bl (!k)) | _ => .bad
theorem dv_one {op} (h : DV X a ma) : DV X (.BoolOp op [a] pos) ma := fun W tk => pe_one (h W tk)
theorem dv_and (ha : DV X a ma) (hb : DV X (.BoolOp .And (b :: rest) pos) mb) : DV X (.BoolOp .And (a :: b :: rest) pos) (eAnd ma mb) := fun W tk => PEw (pe_and (ha W tk) (hb W tk)) fun σ H Q ⟨L, F, fr, env, fps, R, q⟩ => by
  refine ⟨L, F, fr, env, fps, R, ?_⟩
  unfold eAnd at q
  cases e : ma env with
  | bad => rw [e] at q; exact q
  | er x => rw [e] at q; exact q
  | ok k =>
    rw [e] at q
    intro v H1 s r
    cases r with
    | bl k =>
      refine ⟨k, rfl, ?_⟩
      cases k with
      | true => rw [if_pos rfl]; exact tV_re' R s q
      | false => rw [if_neg Bool.false_ne_true]; exact q _ H1 s (.bl _)
    | _ => exact q.elim
theorem dv_not (ha : DV X a ma) : DV X (.UnaryOp .Not a pos) (eNot ma) := fun W tk => PEw (pe_not (ha W tk)) fun σ H Q ⟨L, F, fr, env, fps, R, q⟩ => by
  refine ⟨L, F, fr, env, fps, R, ?_⟩
  unfold eNot at q
  cases e : ma env with
  | bad => rw [e] at q; exact q
  | er x => rw [e] at q; exact q
  | ok k =>
    rw [e] at q
    intro v H1 s r
    cases r with
    | bl k => exact ⟨k, rfl, q _ H1 s (.bl _)⟩
    | _ => exact q.elim
def g1 (f : Int → D) : D → Res D
  | .int i => .ok (f i)
  | _ => .bad
def aNil : Env → Res (List D) := fun _ => .ok []
def aCons (x : Env → Res D) (r : Env → Res (List D)) : Env → Res (List D) := fun env => (x env).bind fun d => (r env).bind fun ds => .ok (d :: ds)
theorem da_nil : DA X [] aNil := fun W _ => PAw pa_nil fun σ H Q ⟨L, F, fr, env, fps, R, q⟩ => q [] H (Same.refl H) .nil
theorem da_cons (ha : DV X a ma) (hr : DA X es ms) (hs : starEach (a :: es) X.env = (false, eval a X.env) :: starEach es X.env := by rfl) : DA X (a :: es) (aCons ma ms) := fun W tk => PAw (pa_cons (ha W tk) (hr W tk) hs) fun σ H Q ⟨L, F, fr, env, fps, R, q⟩ => by
  refine ⟨L, F, fr, env, fps, R, ?_⟩
  unfold aCons at q
  cases ea : ma env with
  | bad => rw [ea] at q; exact q
  | er x => rw [ea] at q; exact q
  | ok da =>
    rw [ea] at q
    intro x H1 s1 rx
    refine ⟨L, _, fr, env, fps, R.grow s1, ?_⟩
    simp only [Res.bind] at q
    cases eb : ms env with
    | bad => rw [eb] at q; exact q
    | er e => rw [eb] at q; exact fun cls d H2 s2 z => q cls d H2 (s1.trans s2) z
    | ok db =>
      rw [eb] at q
      intro xs H2 s2 rxs
      exact q _ H2 (s1.trans s2) (.cons (rx.mono s2) rxs)

def C1ok (K : PySem.W.Frag) (g : List D → Res D) (r : List V → Hp → VK → Prop) : Prop := ∀ (H : Hp) (vs : List V) (ds : List D) (d : D) (Q : VK), RVs K H vs ds → g ds = .ok d → (∀ v H', Same H H' → RV K H' v d → Q v H') → r vs H Q
def eCall (g : List D → Res D) (m : Env → Res (List D)) : Env → Res D := fun env => (m env).bind g
theorem call_of {K : PySem.W.Frag} {mg : Str → Option Value} {W : WX} {g : List D → Res D} {r : List V → Hp → VK → Prop} (ok : C1ok K g r) (ne : ∀ x e, g x ≠ .er e) {σ : L2.St} {H : Hp} {Q : VK} (h : tV K mg W (eCall g ms) σ H Q) :
    tCB r (tAv K mg W ms) σ H Q := by
  obtain ⟨L, F, fr, env, fps, R, q⟩ := h
  refine ⟨L, F, fr, env, fps, R, ?_⟩
  unfold eCall at q
  cases ea : ms env with
  | bad => rw [ea] at q; exact q
  | er x => rw [ea] at q; exact q
  | ok ds =>
    rw [ea] at q
    intro vs H1 s1 rvs
    simp only [Res.bind] at q
    cases eg : g ds with
    | bad => rw [eg] at q; exact q.elim
    | er e => exact absurd eg (ne _ _)
    | ok d =>
      rw [eg] at q
      exact ok H1 vs ds d Q rvs eg fun v H2 s2 rv => q v H2 (s1.trans s2) rv
theorem dv_callB {x : Str} {id : String} {p : Pos} {e : Expr} {r : List V → Hp → VK → Prop} {g : List D → Res D} (hc : CallR X (.builtin id) r) (ok : C1ok X.K g r) (ne : ∀ x e, g x ≠ .er e) (hg : Gl X x) (hm : X.mg x = none) (hv : bootBuiltins x = some (.builtin id)) (ha : DA X (e :: es) ms)
    (hn : x ≠ "__name__" := by decide) (hdb : (x == ("__debug__" : Str)) = false := by decide) (he : starEach (e :: es) X.env = (false, eval e X.env) :: starEach es X.env := by rfl) (hpl : (backTo pos (starEach es X.env)).any (·.1) = false := by rfl) : DV X (.Call (.Name x p) (e :: es) [] pos) (eCall g ms) := fun W tk =>
  PEw (pe_callB hc hg hm hv (ha W tk) hn hdb he hpl) fun σ H Q h => call_of ok ne h
theorem dv_callTy {x : Str} {T : String} {p : Pos} {e : Expr} {r : List V → Hp → VK → Prop} {g : List D → Res D} (hc : CallR X (.type T) r) (ok : C1ok X.K g r) (ne : ∀ x e, g x ≠ .er e) (hg : Gl X x) (hm : X.mg x = none) (hv : bootBuiltins x = some (.type T)) (ha : DA X (e :: es) ms)
    (hn : x ≠ "__name__" := by decide) (hdb : (x == ("__debug__" : Str)) = false := by decide) (he : starEach (e :: es) X.env = (false, eval e X.env) :: starEach es X.env := by rfl) (hpl : (backTo pos (starEach es X.env)).any (·.1) = false := by rfl) : DV X (.Call (.Name x p) (e :: es) [] pos) (eCall g ms) := fun W tk =>
  PEw (pe_callTy hc hg hm hv (ha W tk) hn hdb he hpl) fun σ H Q h => call_of ok ne h
end
end G9

namespace G9
open PySem PySem.Spec PyProof.Rows L2
section
variable {K : PySem.W.Frag} {mg : Str → Option Value} {H H' F F' : Hp} {L : Nat → V} {fr : Addr → Prop} {σ : L2.St} {env : Env} {fps : Nat → List Addr} {W : WX}
theorem RE.fresh {fp : List Addr} (R : RE K L F H fr σ env fps) (e : Same H H') (h1 : ∀ p ∈ fp, H p = none) (h2 : ∀ p ∈ fp, Nt (H' p)) : RE K L (tkF F H') H' (fun q => fr q ∨ q ∈ fp) σ env fps := by
  have G := R.grow e
  refine ⟨G.len, G.at', G.dis, fun i p hp => ?_, G.sF, G.tk, fun p hp => ?_⟩
  · obtain ⟨a, b, c⟩ := G.off i p hp
    refine ⟨a, fun z => z.elim b fun z => ?_, c⟩
    exact (R.off i p hp).2.2.some (h1 p z)
  · rcases hp with hp | hp
    · exact G.frd p hp
    · exact ⟨by rw [tkF_nt (h2 p hp)]; exact R.sF.free (h1 p hp), h2 p hp⟩
theorem RE.nofr (R : RE K L F H fr σ env fps) {fp : List Addr} (h1 : ∀ p ∈ fp, H p = none) : ∀ p ∈ fp, ¬ fr p := fun p hp z => (R.frd p z).2.some (h1 p hp)
theorem ROs.of_imm : ∀ {v : List V} {d : List D}, RVs K F v d → D.imms d = true → ROs K F H v d []
  | _, _, .nil, _ => .nil
  | _, _, .cons a b, e => by
    rw [imms_cons, Bool.and_eq_true] at e
    exact .cons (.imm e.1 a) (ROs.of_imm b e.2)
theorem RE.nil (R : RE K L F H fr σ env fps) : RE K L F H (fun p => fr p ∨ p ∈ ([] : List Addr)) σ env fps :=
  R.frw fun p hp => hp.elim id fun z => by cases z
def tF (K : PySem.W.Frag) (mg : Str → Option Value) (W : WX) (m : Env → Res (List D)) : TE := fun σ H Q => ∃ L F fr env fps, RE K L F H fr σ env fps ∧
  match m env with
  | .bad => False
  | .er x => ∀ cls d H', Same H H' → ExR K mg x cls d H' → W cls d σ H'
  | .ok ds => ∀ p vs H1, Same H H1 → H1 p = none → RVs K H1 vs ds → Q (.ref p) (upd H1 p (.lst vs))
end
section
variable {X : Cx} {a b c : Expr} {ma mb mc : Env → Res D} {pos : Pos} {es : List Expr} {ms : Env → Res (List D)}
def DF (X : Cx) (e : Expr) (m : Env → Res (List D)) : Prop := ∀ W, Takes X W → PE X e (tF X.K X.mg W m)
def vL (m : Env → Res (List D)) : Env → Res D := fun env => (m env).bind fun ds => .ok (.lst ds)
theorem dv_df (h : DF X a ms) : DV X a (vL ms) := fun W tk => PEw (h W tk) fun σ H Q ⟨L, F, fr, env, fps, R, q⟩ => by
  refine ⟨L, F, fr, env, fps, R, ?_⟩
  unfold vL at q
  cases e : ms env with
  | bad => rw [e] at q; exact q
  | er x => rw [e] at q; exact q
  | ok ds =>
    rw [e] at q
    intro p vs H1 s n r
    exact q _ _ (s.trans (same_upd n)) (.lst (.inl upd_same) (r.mono (same_upd n)))
def oL (m : Env → Res (List D)) : Env → ORes := fun env => match m env with
  | .ok ds => if D.imms ds = true then .ok (.own (.lst ds)) env else .bad
  | .er x => .er x env
  | .bad => .bad
theorem do_df (h : DF X a ms) : DO X a (oL ms) := fun W tk => PEw (h W tk) fun σ H Q ⟨L, F, fr, env, fps, R, q⟩ => by
  refine ⟨L, F, fr, env, fps, R, ?_⟩
  unfold oL at q
  cases e : ms env with
  | bad => rw [e] at q; exact q
  | er x =>
    rw [e] at q
    exact fun cls d H' s z => q cls d _ H' fps (R.grow s) (Ev.grow R s) z
  | ok ds =>
    rw [e] at q
    intro p vs H1 s n r
    simp only at q
    by_cases hi : D.imms ds = true
    · rw [if_pos hi] at q
      have s' := s.trans (same_upd (o := .lst vs) n)
      have f1 : ∀ q ∈ [p], H q = none := fun q hq => by rw [List.mem_singleton.mp hq]; exact s.free n
      have f2 : ∀ q ∈ [p], Nt (upd H1 p (.lst vs) q) := fun q hq => by rw [List.mem_singleton.mp hq]; exact nt_lst upd_same
      refine q _ _ _ [p] fps (R.fresh s' f1 f2) (Ev.grow R s') ⟨?_, by simp⟩ (R.nofr f1)
      exact .lst upd_same (ROs.of_imm ((r.mono (same_upd n)).chg tkF_tk hi) hi)
    · rw [if_neg hi] at q; exact q.elim
def oV (m : Env → Res D) : Env → ORes := fun env => match m env with
  | .ok d => if d.imm = true then .ok (.frz d) env else .bad
  | .er x => .er x env
  | .bad => .bad
theorem do_v (h : DV X a ma) : DO X a (oV ma) := fun W tk => PEw (h W tk) fun σ H Q ⟨L, F, fr, env, fps, R, q⟩ => by
  refine ⟨L, F, fr, env, fps, R, ?_⟩
  unfold oV at q
  cases e : ma env with
  | bad => rw [e] at q; exact q
  | er x =>
    rw [e] at q
    exact fun cls d H' s z => q cls d _ H' fps (R.grow s) (Ev.grow R s) z
  | ok d =>
    rw [e] at q
    intro v H1 s r
    simp only at q
    by_cases hi : d.imm = true
    · rw [if_pos hi] at q
      exact q v _ H1 [] fps (R.grow s).nil (Ev.grow R s) ⟨r.chg tkF_tk hi, rfl⟩ (fun p hp => by cases hp)
    · rw [if_neg hi] at q; exact q.elim
def oVar (i : Nat) : Env → ORes := fun env => match env[i]? with
  | some (.frz d) => .ok (.frz d) env
  | some (.own d) => .ok (.own d) (env.set i .dead)
  | _ => .bad
theorem do_var (i : Nat) {x : Str} {pos : Pos} (hN : X.N[i]? = some x := by rfl) (hv : Vis X.env.scope x := by first | exact Or.inl rfl | exact Or.inr (Or.inl rfl) | exact Or.inr (Or.inr rfl)) (hd : (x == ("__debug__" : Str)) = false := by decide)
    (hcd : (x == ("__classdict__" : Str)) = false := by decide) : DO X (.Name x pos) (oVar i) := fun W _ => PEw (pe_var hN hv hd hcd) fun σ H Q ⟨L, F, fr, env, fps, R, q⟩ => by
  cases e : env[i]? with
  | none => unfold oVar at q; rw [e] at q; exact q.elim
  | some sl =>
    unfold oVar at q
    rw [e] at q
    cases sl with
    | dead => exact q.elim
    | lck => exact q.elim
    | pin _ => exact q.elim
    | frz d =>
      obtain ⟨v, a, b⟩ := R.get e (.inl ⟨d, rfl⟩)
      have b' : SlotV X.K F H v (.frz d) [] := ⟨b.1, rfl⟩
      exact ⟨v, a, q v F H [] fps R.nil Ev.refl b' (fun p hp => by cases hp)⟩
    | own d =>
      obtain ⟨v, a, b⟩ := R.get e (.inr ⟨d, rfl⟩)
      exact ⟨v, a, q v F H (fps i) _ (R.take e (.inl rfl)) Ev.refl b fun p hp => (R.off i p hp).2.1⟩
end

section
variable {X : Cx} {a : Expr} {mo : Env → ORes} {pos : Pos} {st : Stmt} {rest sa sb : List Stmt} {n1 n2 : Env → Out} {xa : Env → Res Bool}
def sSeq (x y : Env → Out) : Env → Out := fun env => match x env with
  | .nx e => y e
  | r => r
def sNext : Env → Out := fun env => .nx env
theorem tS_re {K : PySem.W.Frag} {mg : Str → Option Value} {W : WX} {L : Nat → V} {F H F' H' : Hp} {fr : Addr → Prop} {σ' : L2.St} {env' : Env} {fps' : Nat → List Addr} {m : Env → Out} {E : Ends} (R : RE K L F' H' fr σ' env' fps') (ev : Ev F H fr F' H')
    (h : match m env' with
      | .bad => False
      | .er x env2 => ∀ cls d σ2 F2 H2 fps2, RE K L F2 H2 fr σ2 env2 fps2 → Ev F H fr F2 H2 → ExR K mg x cls d H2 → W cls d σ2 H2
      | .nx env2 => ∀ σ2 F2 H2 fps2, RE K L F2 H2 fr σ2 env2 fps2 → Ev F H fr F2 H2 → E.nx σ2 H2
      | .bk env2 => ∀ σ2 F2 H2 fps2, RE K L F2 H2 fr σ2 env2 fps2 → Ev F H fr F2 H2 → E.bk σ2 H2
      | .ct env2 => ∀ σ2 F2 H2 fps2, RE K L F2 H2 fr σ2 env2 fps2 → Ev F H fr F2 H2 → E.ct σ2 H2
      | .rt s env2 => ∀ v σ2 F2 H2 fp fps2, RE K L F2 H2 (fun p => fr p ∨ p ∈ fp) σ2 env2 fps2 → Ev F H fr F2 H2 → SlotV K F2 H2 v s fp → (∀ p ∈ fp, ¬ fr p) → E.rt v H2) : tSm K mg W m E σ' H' := by
  refine ⟨L, F', fr, env', fps', R, ?_⟩
  cases q : m env' with
  | bad => rw [q] at h; exact h
  | er x e => rw [q] at h; exact fun cls d σ2 F2 H2 fps2 R2 e2 z => h cls d σ2 F2 H2 fps2 R2 (ev.trans e2) z
  | nx e => rw [q] at h; exact fun σ2 F2 H2 fps2 R2 e2 => h σ2 F2 H2 fps2 R2 (ev.trans e2)
  | bk e => rw [q] at h; exact fun σ2 F2 H2 fps2 R2 e2 => h σ2 F2 H2 fps2 R2 (ev.trans e2)
  | ct e => rw [q] at h; exact fun σ2 F2 H2 fps2 R2 e2 => h σ2 F2 H2 fps2 R2 (ev.trans e2)
  | rt s e => rw [q] at h; exact fun v σ2 F2 H2 fp fps2 R2 e2 z w => h v σ2 F2 H2 fp fps2 R2 (ev.trans e2) z w
theorem dss_nil : DSs X [] sNext := fun W _ _ => PSsw pss_nil fun D σ H ⟨L, F, fr, env, fps, R, q⟩ => q σ F H fps R Ev.refl
theorem dss_cons (h1 : DS X st n1) (h2 : DSs X rest n2) : DSs X (st :: rest) (sSeq n1 n2) := fun W tk pa => PSsw (pss_cons (h1 W tk pa) (h2 W tk pa)) fun D σ H ⟨L, F, fr, env, fps, R, q⟩ => by
  refine ⟨L, F, fr, env, fps, R, ?_⟩
  unfold sSeq at q
  cases e : n1 env with
  | bad => rw [e] at q; exact q
  | er x e' => rw [e] at q; exact q
  | nx e' => rw [e] at q; exact fun σ' F' H' fps' R' ev => tS_re R' ev q
  | bk e' => rw [e] at q; exact q
  | ct e' => rw [e] at q; exact q
  | rt s e' => rw [e] at q; exact q
theorem dss_one (h1 : DS X st n1) : DSs X [st] n1 := fun W tk pa => pss_one (h1 W tk pa)
def sRet (m : Env → ORes) : Env → Out := fun env => match m env with
  | .ok s e => .rt s e
  | .er x e => .er x e
  | .bad => .bad
theorem ds_ret (h : DO X a mo) : DS X (.Return (some a) pos) (sRet mo) := fun W tk _ => PSw (ps_ret (h W tk)) fun D σ H ⟨L, F, fr, env, fps, R, q⟩ => by
  refine ⟨L, F, fr, env, fps, R, ?_⟩
  unfold sRet at q
  cases e : mo env with
  | bad => rw [e] at q; exact q
  | er x e' => rw [e] at q; exact fun cls d F' H' fps' R' ev z => q cls d σ F' H' fps' R' ev z
  | ok s e' => rw [e] at q; exact fun v F' H' fp fps' R' ev z w => q v σ F' H' fp fps' R' ev z w
def sExpr (m : Env → ORes) : Env → Out := fun env => match m env with
  | .ok _ e => .nx e
  | .er x e => .er x e
  | .bad => .bad
theorem ds_expr (h : DO X a mo) (hs : swapsWith a none pos.line X.env = pure false := by rfl) : DS X (.Expr a pos) (sExpr mo) := fun W tk _ => PSw (ps_expr (h W tk) hs) fun D σ H ⟨L, F, fr, env, fps, R, q⟩ => by
  refine ⟨L, F, fr, env, fps, R, ?_⟩
  unfold sExpr at q
  cases e : mo env with
  | bad => rw [e] at q; exact q
  | er x e' => rw [e] at q; exact fun cls d F' H' fps' R' ev z => q cls d σ F' H' fps' R' ev z
  | ok s e' => rw [e] at q; exact fun v F' H' fp fps' R' ev z w => q σ F' H' fps' (R'.frw fun p hp => .inl hp) ev
def sSet (i : Nat) (m : Env → ORes) : Env → Out := fun env => match m env with
  | .ok s e => if i < e.length then .nx (e.set i s) else .bad
  | .er x e => .er x e
  | .bad => .bad
theorem ds_set {i : Nat} {x : Str} {pos' : Pos} (hN : X.N.Nodup) (h : DO X a mo) (hi : X.N[i]? = some x := by rfl) (hx : Loc X.env.scope x := by first | exact Or.inl rfl | exact Or.inr rfl) (hs : swapsWith a (some (.Name x pos')) pos.line X.env = pure false := by rfl)
    (hf : X.fn x = true ∨ X.env.scope.names.lookup x = some .local := by first | exact .inl rfl | exact .inr rfl | assumption) : DS X (.Assign [.Name x pos'] a pos) (sSet i mo) := fun W tk _ => PSw (ps_set hN hi hx (h W tk) hs hf) fun D σ H ⟨L, F, fr, env, fps, R, q⟩ => by
  refine ⟨L, F, fr, env, fps, R, ?_⟩
  unfold sSet at q
  cases e : mo env with
  | bad => rw [e] at q; exact q
  | er x e' => rw [e] at q; exact fun cls d F' H' fps' R' ev z => q cls d σ F' H' fps' R' ev z
  | ok s e' =>
    rw [e] at q
    simp only at q
    by_cases hl : i < e'.length
    · rw [if_pos hl] at q
      exact fun v F' H' fp fps' R' ev z w => q _ F' H' _ (R'.set z w hl) ev
    · rw [if_neg hl] at q; exact q.elim
def sIf (c : Env → Res Bool) (x y : Env → Out) : Env → Out := fun env => match c env with
  | .ok true => x env
  | .ok false => y env
  | .er e => .er e env
  | .bad => .bad
theorem ds_if {c : Expr} (hc : DT X c xa) (ha : DSs X sa n1) (hb : DSs X sb n2) : DS X (.If c sa sb pos) (sIf xa n1 n2) := fun W tk pa => PSw (ps_if (hc W tk) (ha W tk pa) (hb W tk pa)) fun D σ H ⟨L, F, fr, env, fps, R, q⟩ => by
  refine ⟨L, F, fr, env, fps, R, ?_⟩
  unfold sIf at q
  cases e : xa env with
  | bad => rw [e] at q; exact q
  | er x => rw [e] at q; exact fun cls d H' s z => q cls d σ _ H' fps (R.grow s) (Ev.grow R s) z
  | ok k =>
    rw [e] at q
    intro H1 s
    cases k with
    | true => rw [if_pos rfl]; exact tS_re (R.grow s) (Ev.grow R s) q
    | false => rw [if_neg Bool.false_ne_true]; exact tS_re (R.grow s) (Ev.grow R s) q
end
end G9

namespace G9
open PySem PySem.Spec PyProof.Rows L2
section
variable {X : Cx} {a b c : Expr} {ma mb mc : Env → Res D} {pos : Pos} {es : List Expr} {ms : Env → Res (List D)}
theorem tkF_mono {F H1 H2 : Hp} (s1 : Same F H1) (s : Same H1 H2) : Same (tkF F H1) (tkF F H2) := fun p o h => by
  have q : H2 p = some o := s _ _ (tkF_le s1 _ _ h)
  unfold tkF at h
  unfold tkF
  rw [q]
  cases o <;> first | rfl | skip
  all_goals
    cases e : H1 p with
    | none => rw [e] at h; exact h
    | some u =>
      have z := s _ _ e
      rw [q] at z
      cases z
      rw [e] at h
      exact h
def sel (fl : Bool) (F H : Hp) : Hp := if fl = true then tkF F H else H
theorem sel_le {fl : Bool} {F H : Hp} (s : Same F H) : Same (sel fl F H) H := by
  unfold sel
  cases fl with
  | true => rw [if_pos rfl]; exact tkF_le s
  | false => rw [if_neg Bool.false_ne_true]; exact Same.refl H
theorem sel_mono {fl : Bool} {F H1 H2 : Hp} (s1 : Same F H1) (s : Same H1 H2) : Same (sel fl F H1) (sel fl F H2) := by
  unfold sel
  cases fl with
  | true => rw [if_pos rfl, if_pos rfl]; exact tkF_mono s1 s
  | false => rw [if_neg Bool.false_ne_true, if_neg Bool.false_ne_true]; exact s
def tP (K : PySem.W.Frag) (mg : Str → Option Value) (W : WX) (m : Env → Res (Bool × D)) : TE := fun σ H Q => ∃ L F fr env fps, RE K L F H fr σ env fps ∧
  match m env with
  | .bad => False
  | .er x => ∀ cls d H', Same H H' → ExR K mg x cls d H' → W cls d σ H'
  | .ok d => ∀ v H', Same H H' → RV K (sel d.1 F H') v d.2 → Q v H'
def DP (X : Cx) (e : Expr) (m : Env → Res (Bool × D)) : Prop := ∀ W, Takes X W → PE X e (tP X.K X.mg W m)
def vP (m : Env → Res (Bool × D)) : Env → Res D := fun env => (m env).bind fun d => .ok d.2
def oP (m : Env → Res (Bool × D)) : Env → ORes := fun env => match m env with
  | .ok d => if d.1 = true ∨ d.2.imm = true then .ok (.frz d.2) env else .bad
  | .er x => .er x env
  | .bad => .bad
variable {mp : Env → Res (Bool × D)}
theorem dv_p (h : DP X a mp) : DV X a (vP mp) := fun W tk => PEw (h W tk) fun σ H Q ⟨L, F, fr, env, fps, R, q⟩ => by
  refine ⟨L, F, fr, env, fps, R, ?_⟩
  unfold vP at q
  cases e : mp env with
  | bad => rw [e] at q; exact q
  | er x => rw [e] at q; exact q
  | ok d => rw [e] at q; exact fun v H' s r => q v H' s (r.mono (sel_le (R.sF.trans s)))
theorem do_p (h : DP X a mp) : DO X a (oP mp) := fun W tk => PEw (h W tk) fun σ H Q ⟨L, F, fr, env, fps, R, q⟩ => by
  refine ⟨L, F, fr, env, fps, R, ?_⟩
  unfold oP at q
  cases e : mp env with
  | bad => rw [e] at q; exact q
  | er x =>
    rw [e] at q
    exact fun cls d H' s z => q cls d _ H' fps (R.grow s) (Ev.grow R s) z
  | ok d =>
    rw [e] at q
    intro v H1 s r
    simp only at q
    by_cases hi : d.1 = true ∨ d.2.imm = true
    · rw [if_pos hi] at q
      have r2 : RV X.K (tkF F H1) v d.2 := by
        rcases hi with z | z
        · unfold sel at r; rw [if_pos z] at r; exact r
        · exact (r.mono (sel_le (R.sF.trans s))).chg tkF_tk z
      exact q v _ H1 [] fps (R.grow s).nil (Ev.grow R s) ⟨r2, rfl⟩ (fun p hp => by cases hp)
    · rw [if_neg hi] at q; exact q.elim
def pVar (i : Nat) : Env → Res (Bool × D) := fun env => match env[i]? with
  | some (.frz d) => .ok (true, d)
  | some (.own d) => .ok (false, d)
  | some (.pin d) => .ok (false, d)
  | _ => .bad
theorem dp_var (i : Nat) {x : Str} {pos : Pos} (hN : X.N[i]? = some x := by rfl) (hv : Vis X.env.scope x := by first | exact Or.inl rfl | exact Or.inr (Or.inl rfl) | exact Or.inr (Or.inr rfl)) (hd : (x == ("__debug__" : Str)) = false := by decide)
    (hcd : (x == ("__classdict__" : Str)) = false := by decide) : DP X (.Name x pos) (pVar i) := fun W _ => PEw (pe_var hN hv hd hcd) fun σ H Q ⟨L, F, fr, env, fps, R, q⟩ => by
  cases e : env[i]? with
  | none => unfold pVar at q; rw [e] at q; exact q.elim
  | some sl =>
    unfold pVar at q
    rw [e] at q
    cases sl with
    | dead => exact q.elim
    | lck => exact q.elim
    | frz d =>
      obtain ⟨v, a, b⟩ := R.get e (.inl ⟨d, rfl⟩)
      exact ⟨v, a, q v H (Same.refl H) (by unfold sel; rw [if_pos rfl]; exact b.1.mono (tkF_ge R.sF))⟩
    | own d =>
      obtain ⟨v, a, b⟩ := R.get e (.inr ⟨d, rfl⟩)
      exact ⟨v, a, q v H (Same.refl H) (by unfold sel; rw [if_neg Bool.false_ne_true]; exact b.1.view R.sF)⟩
    | pin d =>
      obtain ⟨a, b⟩ := R.getP e
      exact ⟨_, a, q _ H (Same.refl H) (by unfold sel; rw [if_neg Bool.false_ne_true]; exact b.1.view R.sF)⟩
def atD (xs : List D) (i : Int) : Option D := atI xs i
def itemD : D → Int → Option D
  | .tup xs, i => atD xs i
  | .lst xs, i => atD xs i
  | .scr xs, i => atD xs i
  | .kt xs, i => atD xs i
  | .str s, i => if s.length ≤ sizeLine then (atI s i).map fun c => .str [c] else none
  | _, _ => none
def pIx (m : Env → Res (Bool × D)) (x : Env → Res D) : Env → Res (Bool × D) := fun env => (m env).bind fun d => (x env).bind fun k => match k with
  | .int i => match itemD d.2 i with
    | some e => .ok (d.1, e)
    | none => .bad
  | _ => .bad
theorem RVs.atD {K : PySem.W.Frag} {H : Hp} {v : List V} {ds : List D} {i : Int} {d : D} (r : RVs K H v ds) (h : G9.atD ds i = some d) : ∃ u, atI v i = some u ∧ RV K H u d := by
  unfold G9.atD atI at h
  unfold atI
  rw [r.len]
  cases e : ixN ds.length i with
  | none => rw [e] at h; cases h
  | some j =>
    rw [e] at h
    exact r.get h
theorem dp_ix (ha : DP X a mp) (hb : DV X b mb) (hs : PlainIx b := by exact fun _ _ => rfl) : DP X (.Subscript a b pos) (pIx mp mb) := fun W tk => PEw (pe_ix ix_seq (ha W tk) (hb W tk) hs) fun σ H Q ⟨L, F, fr, env, fps, R, q⟩ => by
  refine ⟨L, F, fr, env, fps, R, ?_⟩
  unfold pIx at q
  cases ea : mp env with
  | bad => rw [ea] at q; exact q
  | er x => rw [ea] at q; exact q
  | ok d =>
    rw [ea] at q
    intro x H1 s1 rx
    refine tV_re R s1 ?_
    simp only [Res.bind] at q
    cases eb : mb env with
    | bad => rw [eb] at q; exact q
    | er e => rw [eb] at q; exact fun cls d H2 s2 z => q cls d H2 (s1.trans s2) z
    | ok k =>
      rw [eb] at q
      intro y H2 s2 ry
      cases ry with
      | int i =>
        simp only at q
        cases ei : itemD d.2 i with
        | none => rw [ei] at q; exact q.elim
        | some e =>
          rw [ei] at q
          simp only at q
          have sFH1 : Same F H1 := R.sF.trans s1
          have le := sel_le (fl := d.1) (sFH1.trans s2)
          have rx2 := rx.mono (sel_mono (fl := d.1) sFH1 s2)
          obtain ⟨fl, dd⟩ := d
          simp only at *
          cases rx2 with
          | tup h r =>
            obtain ⟨u, hu, ru⟩ := r.atD ei
            exact .inr (.inl ⟨_, _, i, u, rfl, rfl, sqt_mono le h, hu, q u H2 (s1.trans s2) ru⟩)
          | lst h r =>
            obtain ⟨u, hu, ru⟩ := r.atD ei
            exact .inl ⟨_, _, i, u, rfl, rfl, .inl (rd_mono le h), hu, q u H2 (s1.trans s2) ru⟩
          | scr h r =>
            obtain ⟨u, hu, ru⟩ := r.atD ei
            exact .inl ⟨_, _, i, u, rfl, rfl, (scl_mono le h).sq, hu, q u H2 (s1.trans s2) ru⟩
          | kt h r =>
            obtain ⟨u, hu, ru⟩ := r.atD ei
            exact .inr (.inl ⟨_, _, i, u, rfl, rfl, .inl (.inl (le _ _ h)), hu, q u H2 (s1.trans s2) ru⟩)
          | str s =>
            simp only [itemD] at ei
            split at ei
            · rename_i hl
              cases ec : atI s i with
              | none => rw [ec] at ei; cases ei
              | some c =>
                rw [ec] at ei
                cases ei
                refine .inr (.inr ⟨_, i, c, rfl, rfl, by show s.toArray.size ≤ _; rw [List.size_toArray]; exact hl, ec, q _ H2 (s1.trans s2) (.str [c])⟩)
            · cases ei
          | _ => simp [itemD] at ei
      | _ => exact q.elim
def cutD {α : Type} (xs : List α) (lo hi : Option Int) : List α := (xs.drop (HT.sIx xs.length 0 lo)).take (HT.sIx xs.length xs.length hi - HT.sIx xs.length 0 lo)
theorem RVs.cut {K : PySem.W.Frag} {H : Hp} {v : List V} {ds : List D} (r : RVs K H v ds) (lo hi : Option Int) : RVs K H (cutV v lo hi) (cutD ds lo hi) := by
  unfold cutV cutD
  rw [r.len]
  exact (r.drop _).take _
variable {lo hi : Option Expr} {ml mh : Env → Res (Option Int)} {p2 : Pos}
end
end G9

namespace G9
open PySem PySem.Spec PyProof.Rows L2

def fnOf (n : Nat) (body : Env → Out) : List D → FRes := fun ds => match body (ds.map .frz ++ List.replicate (n - ds.length) .dead) with
  | .rt s _ => .ok s
  | .nx _ => .ok (.frz .non)
  | .er x _ => .er x
  | _ => .bad
def spD (K : PySem.W.Frag) (mg : Str → Option Value) (np : Nat) (m : List D → FRes) : Sp := fun vs H Q E => vs.length = np ∧ ∃ F ds, Same F H ∧ Tk H F ∧ RVs K F vs ds ∧
  match m ds with
  | .bad => False
  | .er x => ∀ cls d H', Same H H' → ExR K mg x cls d H' → E cls d H'
  | .ok s => ∀ v F' H' fp, Same F F' → Same F' H' → Tk H' F' → Same H H' → SlotV K F' H' v s fp → (∀ p ∈ fp, H p = none ∧ F' p = none) → (∀ p, F p = none → F' p ≠ none → H p = none) → Q v H'
theorem RE.start {K : PySem.W.Frag} {F H : Hp} {vs : List V} {ds : List D} (N : List Str) (sF : Same F H) (tk : Tk H F) (r : RVs K F vs ds) :
    RE K (fun _ => .non) F H (fun p => H p ≠ none ∧ F p = none) (L2.start N vs) (ds.map .frz ++ List.replicate (N.length - ds.length) .dead) (fun _ => []) where
  len := by
    unfold L2.start
    rw [List.length_append, List.length_append, List.length_map, List.length_map, List.length_replicate, List.length_replicate, r.len]
  at' := fun i s h => by
    by_cases hi : i < ds.length
    · rw [List.getElem?_append_left (by rw [List.length_map]; exact hi), List.getElem?_map] at h
      cases e : ds[i]? with
      | none => rw [e] at h; cases h
      | some d =>
        rw [e] at h
        cases h
        obtain ⟨u, hu, ru⟩ := r.get e
        refine ⟨u, ?_, ru, rfl⟩
        unfold L2.start
        rw [List.getElem?_append_left (by rw [List.length_map, r.len]; exact hi), List.getElem?_map, hu]
        rfl
    · rw [List.getElem?_append_right (by rw [List.length_map]; omega), List.getElem?_replicate] at h
      split at h
      · cases h; rfl
      · cases h
  dis := fun i j p h _ => by cases h
  off := fun i p h => by cases h
  sF := sF
  tk := tk
  frd := fun p hp => ⟨hp.2, by
    obtain ⟨h1, h2⟩ := hp
    cases e : H p with
    | none => exact absurd e h1
    | some u => exact ⟨u, rfl, (by intro xs z; rw [z] at e; rw [tk.tup _ _ e] at h2; cases h2), (by intro o w z; rw [z] at e; rw [tk.frz _ _ _ e] at h2; cases h2)⟩⟩
theorem ev_same {F H F' H' : Hp} (sF : Same F H) (ev : Ev F H (fun p => H p ≠ none ∧ F p = none) F' H') (sF' : Same F' H') : Same H H' := fun p o e => by
  cases q : F p with
  | none => rw [ev.fr p ⟨by rw [e]; simp, q⟩]; exact e
  | some u =>
    have := sF p u q
    rw [e] at this
    cases this
    exact sF' _ _ (ev.sF _ _ q)
section
variable {P : Program} {w : World} {K : PySem.W.Frag} {mg : Str → Option Value} {base : Heap}
theorem fnD_ok {x qual : Str} {st : Stmt} {f : Addr} {fd : FuncData} {N ps : List Str} {k : Nat} {m : Env → Out} (F : Fun K x qual st f fd) (S : FnScope N ps (defScope st))
    (h : ∀ (cdv : Value) (A : Around) (outer : List PySem.Env) (s : Shared) (H : Hp) (E : XK), Room k (A.deeper (envOfC qual (defScope st) s.heap.objs.size f cdv)) →
      DSs (cxOf (L2.CX P w) P w K mg base N qual (defScope st) f cdv A outer s H E) (defBody st) m) :
    FnOk P w K mg base (L2.CX P w) (k + 1) f fd ps (spD K mg ps.length (fnOf N.length m)) := by
  refine F.okX S (fun vs H Q E h => h.1) fun cdv A outer s H vs Q E hr hsp => ?_
  obtain ⟨hl, G, ds, sF, tk, r, q⟩ := hsp
  refine ⟨_, h cdv A outer s H E hr _ (takes_of rfl rfl rfl rfl) (passes_of rfl), ?_⟩
  refine ⟨_, _, _, _, _, RE.start N sF tk r, ?_⟩
  unfold fnOf at q
  cases e : m (ds.map .frz ++ List.replicate (N.length - ds.length) .dead) with
  | bad => rw [e] at q; exact q
  | bk e' => rw [e] at q; exact q.elim
  | ct e' => rw [e] at q; exact q.elim
  | er x e' =>
    rw [e] at q
    exact fun cls d σ' F' H' fps' R' ev z => q cls d H' (ev_same sF ev R'.sF) z
  | nx e' =>
    rw [e] at q
    exact fun σ' F' H' fps' R' ev => q .non F' H' [] ev.sF R'.sF R'.tk (ev_same sF ev R'.sF) ⟨.non, rfl⟩ (fun p hp => by cases hp) fun p h1 h2 => by
      cases e : H p with
      | none => rfl
      | some u => exact absurd (R'.frd p ⟨by rw [e]; simp, h1⟩).1 h2
  | rt s' e' =>
    rw [e] at q
    exact fun v σ' F' H' fp fps' R' ev z nf => q v F' H' fp ev.sF R'.sF R'.tk (ev_same sF ev R'.sF) z (fun p hp => by
      refine ⟨?_, (R'.frd p (.inr hp)).1⟩
      cases e : H p with
      | none => rfl
      | some u =>
        have h0 : H p ≠ none := by rw [e]; simp
        cases e2 : G p with
        | none => exact absurd ⟨h0, e2⟩ (nf p hp)
        | some t =>
          have := (R'.frd p (.inr hp)).1
          rw [ev.sF _ _ e2] at this
          cases this) fun p h1 h2 => by
      cases e : H p with
      | none => rfl
      | some u => exact absurd (R'.frd p (.inl ⟨by rw [e]; simp, h1⟩)).1 h2
end

section
variable {X : Cx} {pos p : Pos} {es : List Expr} {e : Expr} {ms : Env → Res (List D)} {k : Nat} {f : Addr} {fd : FuncData} {ps : List Str} {fm : List D → FRes} {x : Str}
def vF (fm : List D → FRes) (m : Env → Res (List D)) : Env → Res D := fun env => (m env).bind fun ds => match fm ds with
  | .ok (.frz d) => .ok d
  | .ok (.own d) => .ok d
  | .er x => .er x
  | _ => .bad
def oF (fm : List D → FRes) (m : Env → Res (List D)) : Env → ORes := fun env => match m env with
  | .ok ds => match fm ds with
    | .ok (.frz d) => if d.imm = true then .ok (.frz d) env else .bad
    | .ok (.own d) => .ok (.own d) env
    | .er x => .er x env
    | _ => .bad
  | .er x => .er x env
  | .bad => .bad
theorem dv_call (G : FnOk X.prog X.w X.K X.mg X.base (L2.CX X.prog X.w) k f fd ps (spD X.K X.mg ps.length fm)) (hr : Room k X.A) (hg : Gl X x) (hm : X.mg x = some (.ref f)) (hk : PySem.W.keepIn X.K (.ref f) = true) (hb : Binds X.K fd ps []) (ha : DA X (e :: es) ms) (hl : (e :: es).length = ps.length := by rfl)
    (hdb : (x == ("__debug__" : Str)) = false := by decide) (he : starEach (e :: es) X.env = (false, eval e X.env) :: starEach es X.env := by rfl) (hpl : (backTo pos (starEach es X.env)).any (·.1) = false := by rfl)
    (hlen : ∀ env ds, ms env = .ok ds → ds.length = (e :: es).length) : DV X (.Call (.Name x p) (e :: es) [] pos) (vF fm ms) := fun W tk =>
  PEw (pe_callSD (E := fun σ cls d H => W cls d σ H) G hr hg hm hk hb .nil (fun σ => passAt tk σ) (ha W tk) hdb he hpl) fun σ H Q ⟨L, F, fr, env, fps, R, q⟩ => by
  refine ⟨L, F, fr, env, fps, R, ?_⟩
  unfold vF at q
  cases ea : ms env with
  | bad => rw [ea] at q; exact q
  | er x => rw [ea] at q; exact q
  | ok ds =>
    rw [ea] at q
    intro vs H1 s1 rvs
    rw [List.append_nil]
    simp only [Res.bind] at q
    refine ⟨by rw [rvs.len, hlen env ds ea, hl], H1, ds, Same.refl H1, .refl, rvs, ?_⟩
    cases ef : fm ds with
    | bad => rw [ef] at q; exact q.elim
    | er x => rw [ef] at q; exact fun cls d H' s z => q cls d H' (s1.trans s) z
    | ok s =>
      rw [ef] at q
      intro v F' H' fp h1 h2 h3 h4 hs _ _
      cases s with
      | dead => exact hs.elim
      | lck => exact hs.elim
      | pin _ => exact hs.elim
      | frz d => exact q v H' (s1.trans h4) (hs.1.mono h2)
      | own d => exact q v H' (s1.trans h4) (hs.1.view h2)
theorem do_call (G : FnOk X.prog X.w X.K X.mg X.base (L2.CX X.prog X.w) k f fd ps (spD X.K X.mg ps.length fm)) (hr : Room k X.A) (hg : Gl X x) (hm : X.mg x = some (.ref f)) (hk : PySem.W.keepIn X.K (.ref f) = true) (hb : Binds X.K fd ps []) (ha : DA X (e :: es) ms) (hl : (e :: es).length = ps.length := by rfl)
    (hdb : (x == ("__debug__" : Str)) = false := by decide) (he : starEach (e :: es) X.env = (false, eval e X.env) :: starEach es X.env := by rfl) (hpl : (backTo pos (starEach es X.env)).any (·.1) = false := by rfl)
    (hlen : ∀ env ds, ms env = .ok ds → ds.length = (e :: es).length) : DO X (.Call (.Name x p) (e :: es) [] pos) (oF fm ms) := fun W tk =>
  PEw (pe_callSD (E := fun σ cls d H => W cls d σ H) G hr hg hm hk hb .nil (fun σ => passAt tk σ) (ha W tk) hdb he hpl) fun σ H Q ⟨L, F, fr, env, fps, R, q⟩ => by
  refine ⟨L, F, fr, env, fps, R, ?_⟩
  unfold oF at q
  cases ea : ms env with
  | bad => rw [ea] at q; exact q
  | er x => rw [ea] at q; exact fun cls d H' s z => q cls d _ H' fps (R.grow s) (Ev.grow R s) z
  | ok ds =>
    rw [ea] at q
    intro vs H1 s1 rvs
    rw [List.append_nil]
    simp only at q
    refine ⟨by rw [rvs.len, hlen env ds ea, hl], H1, ds, Same.refl H1, .refl, rvs, ?_⟩
    cases ef : fm ds with
    | bad => rw [ef] at q; exact q.elim
    | er x => rw [ef] at q; exact fun cls d H' s z => q cls d _ H' fps (R.grow (s1.trans s)) (Ev.grow R (s1.trans s)) z
    | ok s =>
      rw [ef] at q
      intro v F' H' fp h1 h2 h3 h4 hs hn _
      have s' := s1.trans h4
      have tkk : Tk F' (tkF F H') := ⟨fun p xs z => tkF_tk.tup _ _ (h2 _ _ z), fun p o u z => tkF_tk.frz _ _ _ (h2 _ _ z)⟩
      cases s with
      | dead => exact hs.elim
      | lck => exact hs.elim
      | pin _ => exact hs.elim
      | frz d =>
        simp only at q
        by_cases hi : d.imm = true
        · rw [if_pos hi] at q
          exact q v _ H' [] fps (R.grow s').nil (Ev.grow R s') ⟨hs.1.chg tkk hi, rfl⟩ (fun p hp => by cases hp)
        · rw [if_neg hi] at q; exact q.elim
      | own d =>
        have f1 : ∀ p ∈ fp, H p = none := fun p hp => s1.free (hn p hp).1
        exact q v _ H' fp fps (R.fresh s' f1 hs.1.nt) (Ev.grow R s') ⟨RO.car tkk hs.1 fun _ _ => rfl, hs.2⟩ (R.nofr f1)
end
end G9

namespace G9
open PySem PySem.Spec PyProof.Rows L2

def tG (K : PySem.W.Frag) (g : D → Env → Option Env) : TG := fun v σ H Q => ∃ L F fr env fps d, RE K L F H fr σ env fps ∧ RV K F v d ∧
  match g d env with
  | none => False
  | some env' => ∀ σ' fps', RE K L F H fr σ' env' fps' → Q σ' H
def tGs (K : PySem.W.Frag) (g : List D → Env → Option Env) : TGs := fun v σ H Q => ∃ L F fr env fps d, RE K L F H fr σ env fps ∧ RVs K F v d ∧
  match g d env with
  | none => False
  | some env' => ∀ σ' fps', RE K L F H fr σ' env' fps' → Q σ' H
def DG (X : Cx) (e : Expr) (g : D → Env → Option Env) : Prop := PG X e (tG X.K g)
def DGs (X : Cx) (e : List Expr) (g : List D → Env → Option Env) : Prop := PGs X e (tGs X.K g)
section
variable {X : Cx} {e : Expr} {es : List Expr} {pos : Pos} {g : D → Env → Option Env} {gs : List D → Env → Option Env}
theorem PGw {t t' : TG} (h : PG X e t) (i : ∀ v σ H Q, t' v σ H Q → t v σ H Q) : PG X e t' := ⟨fun pins s σ H v u Q I r q => h.run pins s σ H v u Q I r (i v σ H Q q)⟩
theorem PGsw {t t' : TGs} (h : PGs X es t) (i : ∀ v σ H Q, t' v σ H Q → t v σ H Q) : PGs X es t' := ⟨fun pins s σ H v u Q I r q => h.run pins s σ H v u Q I r (i v σ H Q q)⟩
def gN (i : Nat) : D → Env → Option Env := fun d env => if i < env.length then some (env.set i (.frz d)) else none
theorem RE.setF {K : PySem.W.Frag} {L : Nat → V} {F H : Hp} {fr : Addr → Prop} {σ : L2.St} {env : Env} {fps : Nat → List Addr} {v : V} {d : D} {i : Nat} (R : RE K L F H fr σ env fps) (h : RV K F v d) (hi : i < env.length) :
    RE K L F H fr (σ.set i (some v)) (env.set i (.frz d)) (fun j => if j = i then [] else fps j) := (R.nil).set (fp := []) ⟨h, rfl⟩ (fun p hp => by cases hp) hi
theorem dg_name {i : Nat} {x : Str} (hN : X.N.Nodup) (hi : X.N[i]? = some x := by rfl) (hx : Loc X.env.scope x := by first | exact Or.inl rfl | exact Or.inr rfl) (hf : X.fn x = true ∨ X.env.scope.names.lookup x = some .local := by first | exact .inl rfl | exact .inr rfl | assumption) : DG X (.Name x pos) (gN i) :=
  PGw (pg_name hN hi hx hf) fun v σ H Q ⟨L, F, fr, env, fps, d, R, r, q⟩ => by
  unfold gN at q
  by_cases hl : i < env.length
  · rw [if_pos hl] at q
    exact q _ _ (R.setF r hl)
  · rw [if_neg hl] at q; exact q.elim
def gsN : List D → Env → Option Env := fun ds env => match ds with | [] => some env | _ => none
def gsC (g : D → Env → Option Env) (r : List D → Env → Option Env) : List D → Env → Option Env := fun ds env => match ds with
  | d :: ds => match g d env with
    | some e => r ds e
    | none => none
  | [] => none
theorem dgs_nil : DGs X [] gsN := PGsw pgs_nil fun v σ H Q ⟨L, F, fr, env, fps, d, R, r, q⟩ => by
  cases r with
  | nil => exact ⟨rfl, q σ fps R⟩
  | cons a b => exact q.elim
theorem dgs_cons (h1 : DG X e g) (h2 : DGs X es gs) (hs : (assignEach (e :: es) X.env).map (·.2) = assign e X.env :: (assignEach es X.env).map (·.2) := by rfl) : DGs X (e :: es) (gsC g gs) := PGsw (pgs_cons h1 h2 hs) fun v σ H Q ⟨L, F, fr, env, fps, d, R, r, q⟩ => by
  cases r with
  | nil => exact q.elim
  | @cons x xs d1 ds1 a b =>
    refine ⟨_, _, rfl, L, F, fr, env, fps, _, R, a, ?_⟩
    unfold gsC at q
    simp only at q
    cases eg : g d1 env with
    | none => rw [eg] at q; exact q
    | some e1 =>
      rw [eg] at q
      exact fun σ' fps' R' => ⟨L, F, fr, e1, fps', ds1, R', b, q⟩
def gT (n : Nat) (gs : List D → Env → Option Env) : D → Env → Option Env := fun d env => match d with
  | .tup ds => if ds.length = n then gs ds env else none
  | _ => none
theorem dg_tup {k n : Nat} (hc : X.calm = true) (h : DGs X es gs) (hn : (assignEach es X.env).length = n := by rfl) (hst : (assignEach es X.env).findIdx? (·.1) = none := by rfl) : DG X (.Tuple es k pos) (gT n gs) :=
  PGw (pg_tup hc h hn hst) fun v σ H Q ⟨L, F, fr, env, fps, d, R, r, q⟩ => by
  cases r with
  | @tup a1 xs1 ds1 h r =>
    simp only [gT] at q
    by_cases hl : ds1.length = n
    · rw [if_pos hl] at q
      exact ⟨_, _, rfl, sqt_mono R.sF h, by rw [r.len]; exact hl, L, F, fr, env, fps, _, R, r, q⟩
    · rw [if_neg hl] at q; exact q.elim
  | _ => exact q.elim
end

inductive IRes where
  | ok (ds : List D) (e : Env) | er (x : Exn) (e : Env) | bad
def IterOk (K : PySem.W.Frag) (J : It) (F1 H1 : Hp) (fp : List Addr) (ds : List D) : Prop :=
  ∀ F2 H2, Same F1 F2 → Same F2 H2 → (∀ p ∈ fp, H2 p = H1 p) →
    J.stop ds.length H2 ∧ ∀ i d, ds[i]? = some d → J.go i H2 ∧ ∀ x H', J.yld i H2 x H' → Same H2 H' ∧ RV K (tkF F2 H') x d
def tI (K : PySem.W.Frag) (mg : Str → Option Value) (W : WX) (m : Env → IRes) : TI := fun σ H R => ∃ L F fr env fps, RE K L F H fr σ env fps ∧
  match m env with
  | .bad => False
  | .er x env' => ∀ cls d F' H' fps', RE K L F' H' fr σ env' fps' → Ev F H fr F' H' → ExR K mg x cls d H' → W cls d σ H'
  | .ok ds env' => ∀ J F1 H1 fp fps1, RE K L F1 H1 (fun p => fr p ∨ p ∈ fp) σ env' fps1 → Ev F H fr F1 H1 → (∀ p ∈ fp, ¬ fr p) → IterOk K J F1 H1 fp ds → R J H1
def DI (X : Cx) (tg iter : Expr) (m : Env → IRes) : Prop := ∀ W, Takes X W → PI X tg iter (tI X.K X.mg W m)
theorem PIw {X : Cx} {tg iter : Expr} {t t' : TI} (h : PI X tg iter t) (i : ∀ σ H R, t' σ H R → t σ H R) : PI X tg iter t' := ⟨fun pins s σ H R I q => h.run pins s σ H R I (i σ H R q)⟩

def killS (ks : List Nat) (env : Env) : Env := ks.foldl (fun e i => e.set i .dead) env
theorem RE.kill1 {K : PySem.W.Frag} {L : Nat → V} {F H : Hp} {fr : Addr → Prop} {σ : L2.St} {env : Env} {fps : Nat → List Addr} (R : RE K L F H fr σ env fps) (i : Nat) : ∃ fps', RE K L F H fr σ (env.set i .dead) fps' := by
  cases e : env[i]? with
  | none =>
    have : env.set i .dead = env := List.set_eq_of_length_le (List.getElem?_eq_none_iff.mp e)
    rw [this]
    exact ⟨fps, R⟩
  | some s => exact ⟨_, (R.take e (.inl rfl)).frw fun p hp => .inl hp⟩
theorem RE.kill {K : PySem.W.Frag} {L : Nat → V} {F H : Hp} {fr : Addr → Prop} {σ : L2.St} : ∀ (ks : List Nat) {env : Env} {fps : Nat → List Addr}, RE K L F H fr σ env fps → ∃ fps', RE K L F H fr σ (killS ks env) fps'
  | [], _, fps, R => ⟨fps, R⟩
  | k :: ks, env, fps, R => by
    obtain ⟨f1, R1⟩ := R.kill1 k
    exact RE.kill ks R1
def runFor (g : D → Env → Option Env) (body : Env → Out) (ks : List Nat) : List D → Env → Out
  | [], env => .nx env
  | d :: ds, env => match g d env with
    | none => .bad
    | some e1 => match body e1 with
      | .nx e2 => runFor g body ks ds (killS ks e2)
      | .ct e2 => runFor g body ks ds (killS ks e2)
      | .bk e2 => .nx (killS ks e2)
      | .rt s e => .rt s e
      | .er x e => .er x e
      | .bad => .bad
def sFor (m : Env → IRes) (g : D → Env → Option Env) (body : Env → Out) (ks : List Nat) : Env → Out := fun env => match m env with
  | .ok ds e => runFor g body ks ds e
  | .er x e => .er x e
  | .bad => .bad
section
variable {X : Cx} {tg iter e : Expr} {body : List Stmt} {pos : Pos} {g : D → Env → Option Env} {mb : Env → Out} {mi : Env → IRes}
theorem for_core {K : PySem.W.Frag} {mg : Str → Option Value} {W : WX} {L : Nat → V} {F1 H1 : Hp} {fr : Addr → Prop} {fp : List Addr} {σ : L2.St} {env1 : Env} {fps1 : Nat → List Addr} {J : It} {ds : List D} {ks : List Nat} {E : Ends}
    (R1 : RE K L F1 H1 (fun p => fr p ∨ p ∈ fp) σ env1 fps1) (ok : IterOk K J F1 H1 fp ds)
    (h : match runFor g mb ks ds env1 with
      | .bad => False
      | .er x env2 => ∀ cls d σ2 F2 H2 fps2, RE K L F2 H2 (fun p => fr p ∨ p ∈ fp) σ2 env2 fps2 → Ev F1 H1 (fun p => fr p ∨ p ∈ fp) F2 H2 → ExR K mg x cls d H2 → W cls d σ2 H2
      | .nx env2 => ∀ σ2 F2 H2 fps2, RE K L F2 H2 (fun p => fr p ∨ p ∈ fp) σ2 env2 fps2 → Ev F1 H1 (fun p => fr p ∨ p ∈ fp) F2 H2 → E.nx σ2 H2
      | .bk env2 => False
      | .ct env2 => False
      | .rt s env2 => ∀ v σ2 F2 H2 fp2 fps2, RE K L F2 H2 (fun p => (fr p ∨ p ∈ fp) ∨ p ∈ fp2) σ2 env2 fps2 → Ev F1 H1 (fun p => fr p ∨ p ∈ fp) F2 H2 → SlotV K F2 H2 v s fp2 → (∀ p ∈ fp2, ¬ (fr p ∨ p ∈ fp)) → E.rt v H2) :
    ∃ Wn : Nat → Nat → L2.St → Hp → Prop, (∃ m, Wn 0 m σ H1) ∧ ∀ i m σ H, Wn i m σ H →
      (J.stop i H ∧ E.nx σ H) ∨ (J.go i H ∧ ∃ N : L2.St → Hp → Prop, (∀ σ' H', N σ' H' → ∃ m', m' < m ∧ Wn (i + 1) m' σ' H') ∧ ∀ x H', J.yld i H x H' → tG K g x σ H' fun σ2 H2 => tSm K mg W mb { E with nx := N, ct := N, bk := E.nx } σ2 H2) := by
  let Pv : Nat → L2.St → Hp → Prop := fun i σ H => ∃ F env fps, RE K L F H (fun p => fr p ∨ p ∈ fp) σ env fps ∧ Ev F1 H1 (fun p => fr p ∨ p ∈ fp) F H ∧ runFor g mb ks (ds.drop i) env = runFor g mb ks ds env1
  refine ⟨fun i m σ H => m = ds.length - i ∧ i ≤ ds.length ∧ Pv i σ H, ⟨ds.length, by simp, Nat.zero_le _, F1, env1, fps1, R1, Ev.refl, by simp⟩, ?_⟩
  rintro i m σ H ⟨rfl, hi, F, env, fps, R, ev, eq⟩
  obtain ⟨hstop, hgo⟩ := ok F H ev.sF R.sF fun p hp => ev.fr p (.inr hp)
  by_cases hlt : i < ds.length
  · have ed : ds[i]? = some ds[i] := List.getElem?_eq_getElem hlt
    obtain ⟨go, yl⟩ := hgo i _ ed
    refine .inr ⟨go, Pv (i + 1), fun σ' H' p' => ⟨ds.length - (i + 1), by omega, rfl, hlt, p'⟩, fun x H' y => ?_⟩
    obtain ⟨sm, rx⟩ := yl x H' y
    have Rg := R.grow sm
    have evg := ev.trans (Ev.grow R sm)
    refine ⟨L, _, _, env, fps, _, Rg, rx, ?_⟩
    rw [List.drop_eq_getElem_cons hlt] at eq
    simp only [runFor] at eq
    cases eg : g ds[i] env with
    | none =>
      rw [eg] at eq
      rw [← eq] at h
      exact h
    | some e1 =>
      rw [eg] at eq
      intro σ' fps' R'
      refine ⟨L, _, _, e1, fps', R', ?_⟩
      simp only at eq
      cases eb : mb e1 with
      | bad => rw [eb] at eq; rw [← eq] at h; exact h
      | er x e2 =>
        rw [eb] at eq
        rw [← eq] at h
        exact fun cls d σ2 F2 H2 fps2 R2 e2 z => h cls d σ2 F2 H2 fps2 R2 (evg.trans e2) z
      | nx e2 =>
        rw [eb] at eq
        intro σ2 F2 H2 fps2 R2 ev2
        obtain ⟨f3, R3⟩ := R2.kill ks
        exact ⟨F2, _, f3, R3, evg.trans ev2, eq⟩
      | ct e2 =>
        rw [eb] at eq
        intro σ2 F2 H2 fps2 R2 ev2
        obtain ⟨f3, R3⟩ := R2.kill ks
        exact ⟨F2, _, f3, R3, evg.trans ev2, eq⟩
      | bk e2 =>
        rw [eb] at eq
        rw [← eq] at h
        intro σ2 F2 H2 fps2 R2 ev2
        obtain ⟨f3, R3⟩ := R2.kill ks
        exact h σ2 F2 H2 f3 R3 (evg.trans ev2)
      | rt s e2 =>
        rw [eb] at eq
        rw [← eq] at h
        exact fun v σ2 F2 H2 fp2 fps2 R2 e2 z nf => h v σ2 F2 H2 fp2 fps2 R2 (evg.trans e2) z nf
  · have e : i = ds.length := by omega
    subst e
    refine .inl ⟨hstop, ?_⟩
    rw [List.drop_length] at eq
    simp only [runFor] at eq
    rw [← eq] at h
    exact h σ F H fps R ev
theorem runFor_no {g : D → Env → Option Env} {mb : Env → Out} {ks : List Nat} : ∀ (ds : List D) (env e : Env), runFor g mb ks ds env ≠ .bk e ∧ runFor g mb ks ds env ≠ .ct e
  | [], env, e => by simp [runFor]
  | d :: ds, env, e => by
    simp only [runFor]
    cases g d env with
    | none => simp
    | some e1 =>
      simp only
      cases mb e1 with
      | nx e2 => exact runFor_no ds _ e
      | ct e2 => exact runFor_no ds _ e
      | _ => simp
theorem ds_for {ks : List Nat} (hc : X.calm = true) (hi : DI X tg iter mi) (hg : DG X tg g) (hb : DSs X body mb) (hs : ∀ x, foldedSetIterable iter X.env x = pure x := by intro _; rfl) : DS X (.For tg iter body [] pos) (sFor mi g mb ks) := fun W tk pa =>
  PSw (ps_for pa hc (hi W tk) hg (hb W tk pa) hs) fun D σ H ⟨L, F, fr, env, fps, R, q⟩ => by
  refine ⟨L, F, fr, env, fps, R, ?_⟩
  unfold sFor at q
  cases e : mi env with
  | bad => rw [e] at q; exact q
  | er x e' => rw [e] at q; exact fun cls d F' H' fps' R' ev z => q cls d σ F' H' fps' R' ev z
  | ok ds e1 =>
    rw [e] at q
    intro J F1 H1 fp fps1 R1 ev nf ok
    refine for_core (ks := ks) R1 ok ?_
    simp only at q
    cases er : runFor g mb ks ds e1 with
    | bad => rw [er] at q; exact q
    | er x e2 => rw [er] at q; exact fun cls d σ2 F2 H2 fps2 R2 e2 z => q cls d σ2 F2 H2 fps2 (R2.frw fun p hp => .inl hp) (ev.trans (e2.weak fun p hp => .inl hp)) z
    | nx e2 => rw [er] at q; exact fun σ2 F2 H2 fps2 R2 e2 => q σ2 F2 H2 fps2 (R2.frw fun p hp => .inl hp) (ev.trans (e2.weak fun p hp => .inl hp))
    | bk e2 => exact absurd er (runFor_no ds e1 e2).1
    | ct e2 => exact absurd er (runFor_no ds e1 e2).2
    | rt s e2 =>
      rw [er] at q
      exact fun v σ2 F2 H2 fp2 fps2 R2 e2 z nf2 => q v σ2 F2 H2 fp2 fps2 (R2.frw fun p hp => hp.elim (fun h => .inl (.inl h)) .inr) (ev.trans (e2.weak fun p hp => .inl hp)) z fun p hp h => nf2 p hp (.inl h)
end
end G9

namespace G9
open PySem PySem.Spec PyProof.Rows L2
section
variable {X : Cx} {tg iter e a b : Expr} {body : List Stmt} {pos p : Pos} {ma mb : Env → Res D} {mo : Env → ORes} {ms : Env → Res (List D)} {es : List Expr}
def rngD (lo : Int) (n : Nat) : List D := (List.range n).map fun (i : Nat) => .int (lo + (i : Int))
theorem iter_rng {K : PySem.W.Frag} {F1 H1 : Hp} {fp : List Addr} (lo : Int) (n : Nat) : IterOk K (Itr lo n) F1 H1 fp (rngD lo n) := fun F2 H2 s1 s2 _ => by
  unfold rngD
  refine ⟨by show n ≤ _; rw [List.length_map, List.length_range]; exact Nat.le_refl _, fun i d hd => ?_⟩
  rw [List.getElem?_map] at hd
  cases ec : (List.range n)[i]? with
  | none => rw [ec] at hd; cases hd
  | some c =>
    rw [ec] at hd
    cases hd
    obtain ⟨hi, hc⟩ := List.getElem?_eq_some_iff.mp ec
    rw [List.length_range] at hi
    rw [List.getElem_range] at hc
    subst hc
    refine ⟨hi, fun x H' y => ?_⟩
    obtain ⟨rfl, rfl⟩ := y
    exact ⟨Same.refl _, .int _⟩
noncomputable def iRngM (m : Env → Res (List D)) : Env → IRes := fun env => match m env with
  | .ok [.int j] => @ite _ (-(2 ^ 62) ≤ j ∧ j < 2 ^ 62) (Classical.propDecidable _) (.ok (rngD 0 j.toNat) env) .bad
  | .ok [.int i, .int j] => @ite _ (-(2 ^ 62) ≤ i ∧ i < 2 ^ 62 ∧ -(2 ^ 62) ≤ j ∧ j < 2 ^ 62) (Classical.propDecidable _) (.ok (rngD i (j - i).toNat) env) .bad
  | .er x => .er x env
  | _ => .bad
theorem di_range1 (hg : Gl X "range") (hm : X.mg "range" = none) (h : DA X [a] ms) (hs : starEach [a] X.env = [(false, eval a X.env)] := by rfl) (h1 : ∀ env ds, ms env = .ok ds → ds.length = 1) : DI X tg (.Call (.Name "range" p) [a] [] pos) (iRngM ms) := fun W tk =>
  PIw (pi_range1 hg hm (h W tk) hs) fun σ H Rr ⟨L, F, fr, env, fps, R, q⟩ => by
  refine ⟨L, F, fr, env, fps, R, ?_⟩
  unfold iRngM at q
  cases e : ms env with
  | bad => rw [e] at q; exact q
  | er x => rw [e] at q; exact fun cls d H' s z => q cls d _ H' fps (R.grow s) (Ev.grow R s) z
  | ok ds =>
    rw [e] at q
    intro vs H1 s r
    match ds, h1 env ds e, r with
    | [d], _, .cons r1 .nil =>
      cases r1 with
      | int j =>
        simp only at q
        by_cases hj : -(2 ^ 62) ≤ j ∧ j < 2 ^ 62
        · rw [if_pos hj] at q
          exact ⟨j, rfl, hj.1, hj.2, q _ _ H1 [] fps (R.grow s).nil (Ev.grow R s) (fun p hp => by cases hp) (iter_rng 0 j.toNat)⟩
        · rw [if_neg hj] at q; exact q.elim
      | _ => exact q.elim
theorem di_range2 (hg : Gl X "range") (hm : X.mg "range" = none) (h : DA X [a, b] ms) (hs : starEach [a, b] X.env = [(false, eval a X.env), (false, eval b X.env)] := by rfl) (hs2 : starEach [b] X.env = [(false, eval b X.env)] := by rfl) (h1 : ∀ env ds, ms env = .ok ds → ds.length = 2) : DI X tg (.Call (.Name "range" p) [a, b] [] pos) (iRngM ms) := fun W tk =>
  PIw (pi_range2 hg hm (h W tk) hs hs2) fun σ H Rr ⟨L, F, fr, env, fps, R, q⟩ => by
  refine ⟨L, F, fr, env, fps, R, ?_⟩
  unfold iRngM at q
  cases e : ms env with
  | bad => rw [e] at q; exact q
  | er x => rw [e] at q; exact fun cls d H' s z => q cls d _ H' fps (R.grow s) (Ev.grow R s) z
  | ok ds =>
    rw [e] at q
    intro vs H1 s r
    match ds, h1 env ds e, r with
    | [d, d'], _, .cons r1 (.cons r2 .nil) =>
      cases r1 with
      | int i =>
        cases r2 with
        | int j =>
          simp only at q
          by_cases hj : -(2 ^ 62) ≤ i ∧ i < 2 ^ 62 ∧ -(2 ^ 62) ≤ j ∧ j < 2 ^ 62
          · rw [if_pos hj] at q
            exact ⟨i, j, rfl, hj, q _ _ H1 [] fps (R.grow s).nil (Ev.grow R s) (fun p hp => by cases hp) (iter_rng i (j - i).toNat)⟩
          · rw [if_neg hj] at q; exact q.elim
        | _ => exact q.elim
      | _ => exact q.elim
theorem ovl_nt {F H : Hp} {fp : List Addr} {p : Addr} (h : p ∉ fp) : ovl F H fp p = F p := by unfold ovl; rw [if_neg h]
theorem RE.freeze {K : PySem.W.Frag} {L : Nat → V} {F H : Hp} {fr : Addr → Prop} {σ : L2.St} {env : Env} {fps : Nat → List Addr} {fp : List Addr} (R : RE K L F H (fun p => fr p ∨ p ∈ fp) σ env fps) (hf : ∀ p ∈ fp, ¬ fr p) : RE K L (ovl F H fp) H fr σ env fps where
  len := R.len
  at' := fun i s h => (R.at' i s h).car (ovl_same fun p hp => (R.frd p (.inr hp)).1) fun _ _ => rfl
  dis := R.dis
  off := fun i p hp => by
    obtain ⟨a, b, c⟩ := R.off i p hp
    exact ⟨by rw [ovl_nt fun z => b (.inr z)]; exact a, fun z => b (.inl z), c⟩
  sF := ovl_sub R.sF
  tk := ⟨fun p xs h => ovl_same (fun p hp => (R.frd p (.inr hp)).1) _ _ (R.tk.tup _ _ h), fun p o u h => ovl_same (fun p hp => (R.frd p (.inr hp)).1) _ _ (R.tk.frz _ _ _ h)⟩
  frd := fun p hp => ⟨by rw [ovl_nt fun z => hf p z hp]; exact (R.frd p (.inl hp)).1, (R.frd p (.inl hp)).2⟩
def iTupM (m : Env → ORes) : Env → IRes := fun env => match m env with
  | .ok (.frz (.tup ds)) e => .ok ds e
  | .er x e => .er x e
  | _ => .bad
theorem iter_tup {K : PySem.W.Frag} {F1 H1 : Hp} {fp : List Addr} {a : Addr} {xs : List V} {ds : List D} (h : SqT K F1 a xs) (r : RVs K F1 xs ds) : IterOk K (Itt K a) F1 H1 fp ds := fun F2 H2 s1 s2 _ => by
  have h2 : SqT K H2 a xs := sqt_mono (s1.trans s2) h
  refine ⟨⟨xs, h2, by rw [r.len]; exact Nat.le_refl _⟩, fun i d hd => ?_⟩
  obtain ⟨u, hu, ru⟩ := r.get hd
  refine ⟨⟨xs, u, h2, hu⟩, fun x H' y => ?_⟩
  obtain ⟨rfl, y⟩ := y
  have := y xs h2
  rw [hu] at this
  cases this
  exact ⟨Same.refl _, ru.mono (s1.trans (tkF_ge s2))⟩
theorem di_tup (h : DO X e mo) : DI X tg e (iTupM mo) := fun W tk => PIw (pi_tup (h W tk)) fun σ H Rr ⟨L, F, fr, env, fps, R, q⟩ => by
  refine ⟨L, F, fr, env, fps, R, ?_⟩
  unfold iTupM at q
  cases e : mo env with
  | bad => rw [e] at q; exact q
  | er x e' => rw [e] at q; exact q
  | ok s e' =>
    rw [e] at q
    intro v F1 H1 fp fps1 R1 ev hs nf
    cases s with
    | dead => exact q.elim
    | lck => exact q.elim
    | pin _ => exact q.elim
    | own d => exact q.elim
    | frz d =>
      obtain ⟨r, rfl⟩ := hs
      cases r with
      | tup h r => exact ⟨_, rfl, ⟨_, sqt_mono R1.sF h⟩, q _ F1 H1 [] fps1 R1 ev nf (iter_tup h r)⟩
      | _ => exact q.elim
end

end G9

namespace G9
open PySem PySem.Spec PyProof.Rows L2

section
variable {K : PySem.W.Frag} {F H F' H' : Hp}
theorem ROs.len : ∀ {v : List V} {d : List D} {fp : List Addr}, ROs K F H v d fp → v.length = d.length
  | _, _, _, .nil => rfl
  | _, _, _, .cons _ b => by rw [List.length_cons, List.length_cons, ROs.len b]
theorem ROs.app : ∀ {v w : List V} {d e : List D} {f g : List Addr}, ROs K F H v d f → ROs K F H w e g → ROs K F H (v ++ w) (d ++ e) (f ++ g)
  | _, _, _, _, _, _, .nil, s => s
  | _, _, _, _, _, _, .cons a b, s => by rw [List.append_assoc]; exact .cons a (ROs.app b s)
theorem ROs.split : ∀ {v : List V} {d : List D} {fp : List Addr} {j : Nat} {x : D}, ROs K F H v d fp → d[j]? = some x →
    ∃ u f1 f2 f3, v[j]? = some u ∧ ROs K F H (v.take j) (d.take j) f1 ∧ RO K F H u x f2 ∧ ROs K F H (v.drop (j + 1)) (d.drop (j + 1)) f3 ∧ fp = f1 ++ (f2 ++ f3)
  | _, _, _, _, _, .nil, e => by simp at e
  | _, _, _, 0, _, .cons (x := u) (f := f) (g := g) a b, e => by
    simp at e
    subst e
    exact ⟨u, [], f, g, rfl, .nil, a, b, rfl⟩
  | _, _, _, j + 1, x, .cons (x := u) (f := f) (g := g) a b, e => by
    obtain ⟨w, f1, f2, f3, h1, h2, h3, h4, h5⟩ := ROs.split (j := j) (x := x) b (by simpa using e)
    exact ⟨w, f ++ f1, f2, f3, by simpa using h1, .cons a h2, h3, h4, by rw [h5, List.append_assoc]⟩
theorem set_mid' {α : Type} : ∀ (l : List α) (j : Nat) (y : α), j < l.length → l.set j y = l.take j ++ y :: l.drop (j + 1)
  | [], j, y, h => absurd h (by simp)
  | x :: l, 0, y, h => by simp
  | x :: l, j + 1, y, h => by
    rw [List.set_cons_succ, set_mid' l j y (by simpa using h)]
    simp
theorem get_mid {α : Type} {l : List α} {j : Nat} {x : α} (h : l[j]? = some x) : l = l.take j ++ x :: l.drop (j + 1) := by
  have hj := (List.getElem?_eq_some_iff.mp h).1
  have e := set_mid' l j x hj
  rw [← e]
  have := (List.getElem?_eq_some_iff.mp h).2
  rw [← this, List.set_getElem_self]
def Slot.dat : Slot → Option D
  | .frz d => if d.imm = true then some d else none
  | .own d => some d
  | _ => none
theorem SlotV.ro {v : V} {s : Slot} {fp : List Addr} {d : D} (h : SlotV K F H v s fp) (e : s.dat = some d) : RO K F H v d fp ∧ fp.Nodup := by
  cases s with
  | dead => cases e
  | lck => cases e
  | pin _ => cases e
  | frz d' =>
    simp only [Slot.dat] at e
    split at e
    · rename_i hi
      cases e
      rw [h.2]
      exact ⟨.imm hi h.1, by simp⟩
    · cases e
  | own d' => cases e; exact h
def mkS (d : D) : Slot := if d.imm = true then .frz d else .own d
mutual
theorem RO.imm_fp : ∀ {v : V} {d : D} {fp : List Addr}, RO K F H v d fp → d.imm = true → RV K F v d ∧ fp = []
  | _, _, _, .imm _ r, _ => ⟨r, rfl⟩
  | _, _, _, .tup h r, e => by
    rw [D.imm] at e
    obtain ⟨a, b⟩ := ROs.imm_fp r e
    exact ⟨.tup (.inl h) a, b⟩
  | _, _, _, .lst h r, e => by rw [D.imm] at e; cases e
  | _, _, _, .dicK h r, e => by rw [D.imm] at e; cases e
  | _, _, _, .dicT h r, e => by rw [D.imm] at e; cases e
  | _, _, _, .obj c h d k r, e => by rw [D.imm] at e; cases e
theorem ROs.imm_fp : ∀ {v : List V} {d : List D} {fp : List Addr}, ROs K F H v d fp → D.imms d = true → RVs K F v d ∧ fp = []
  | _, _, _, .nil, _ => ⟨.nil, rfl⟩
  | _, _, _, .cons a b, e => by
    rw [imms_cons, Bool.and_eq_true] at e
    obtain ⟨a1, a2⟩ := RO.imm_fp a e.1
    obtain ⟨b1, b2⟩ := ROs.imm_fp b e.2
    exact ⟨.cons a1 b1, by rw [a2, b2]; rfl⟩
end
theorem RO.slot {v : V} {d : D} {fp : List Addr} (h : RO K F H v d fp) (nd : fp.Nodup) : SlotV K F H v (mkS d) fp := by
  unfold mkS
  by_cases hi : d.imm = true
  · rw [if_pos hi]; exact h.imm_fp hi
  · rw [if_neg hi]; exact ⟨h, nd⟩
end

inductive Step where
  | ix (k : Int) | fl (f : Str)
def fIx : List Str → Str → Option Nat
  | [], _ => none
  | k :: ks, f => if k = f then some 0 else (fIx ks f).map (· + 1)
def fldG (ks : List Str) (ds : List D) (f : Str) : Option D := (fIx ks f).bind fun j => ds[j]?
def D.get1 (d : D) : Step → Option D
  | .ix k => match d with
    | .lst xs => atI xs k
    | .tup xs => atI xs k
    | _ => none
  | .fl f => match d with
    | .obj _ ks ds => fldG ks ds f
    | _ => none
def D.put1 (d : D) (e : D) : Step → D
  | .ix k => match d with
    | .lst xs => match ixN xs.length k with | some j => .lst (xs.set j e) | none => d
    | .tup xs => match ixN xs.length k with | some j => .tup (xs.set j e) | none => d
    | _ => d
  | .fl f => match d with
    | .obj c ks ds => match fIx ks f with | some j => .obj c ks (ds.set j e) | none => d
    | _ => d
def D.getP : D → List Step → Option D
  | d, [] => some d
  | d, s :: r => match d.get1 s with
    | some e => e.getP r
    | none => none
def D.putP : D → List Step → D → D
  | _, [], e => e
  | d, s :: r, e => match d.get1 s with
    | some c => d.put1 (c.putP r e) s
    | none => d
inductive AtV (K : PySem.W.Frag) (F H : Hp) : V → List Step → V → Prop
  | nil {v} : AtV K F H v [] v
  | lst {a xs k w r u} : H a = some (.lst xs) → atI xs k = some w → AtV K F H w r u → AtV K F H (.ref a) (.ix k :: r) u
  | tup {a xs k w r u} : Rd F a (.tup xs) → atI xs k = some w → AtV K F H w r u → AtV K F H (.ref a) (.ix k :: r) u
  | fld {a C dx fs f w r u} : H a = some (.ins C dx fs) → fs.lookup f = some w → AtV K F H w r u → AtV K F H (.ref a) (.fl f :: r) u
section
variable {K : PySem.W.Frag} {F H F' H' : Hp}
theorem atI_j {α : Type} {xs : List α} {k : Int} {x : α} (h : atI xs k = some x) : ∃ j, ixN xs.length k = some j ∧ xs[j]? = some x := by
  unfold atI at h
  cases e : ixN xs.length k with
  | none => rw [e] at h; cases h
  | some j => rw [e] at h; exact ⟨j, rfl, h⟩
theorem j_atI {α : Type} {xs : List α} {k : Int} {x : α} {j : Nat} (e : ixN xs.length k = some j) (h : xs[j]? = some x) : atI xs k = some x := by
  unfold atI
  rw [e]
  exact h
structure Rep (fp fe fe' fp' : List Addr) : Prop where
  nd : fp'.Nodup
  mem : ∀ p, p ∈ fp' ↔ p ∈ fe' ∨ (p ∈ fp ∧ p ∉ fe)
theorem rep_mid {f1 f2 f3 fe fe' f2' : List Addr} (nd : (f1 ++ (f2 ++ f3)).Nodup) (sub : ∀ p ∈ fe, p ∈ f2) (c2 : ∀ p ∈ fe', p ∈ f1 ++ (f2 ++ f3) → p ∈ fe) (r : Rep f2 fe fe' f2') : Rep (f1 ++ (f2 ++ f3)) fe fe' (f1 ++ (f2' ++ f3)) := by
  obtain ⟨n1, n2, n3⟩ := List.nodup_append.mp nd
  obtain ⟨n4, n5, n6⟩ := List.nodup_append.mp n2
  have d12 : ∀ p, p ∈ f1 → p ∈ f2 → False := fun p a b => n3 p a p (List.mem_append_left _ b) rfl
  have d13 : ∀ p, p ∈ f1 → p ∈ f3 → False := fun p a b => n3 p a p (List.mem_append_right _ b) rfl
  have d23 : ∀ p, p ∈ f2 → p ∈ f3 → False := fun p a b => n6 p a p b rfl
  have m2 : ∀ p, p ∈ f2' → p ∈ f1 ++ (f2 ++ f3) → p ∈ f2 := fun p hp hin => by
    rcases (r.mem p).mp hp with z | z
    · exact sub p (c2 p z hin)
    · exact z.1
  refine ⟨List.nodup_append.mpr ⟨n1, List.nodup_append.mpr ⟨r.nd, n5, fun p a q b e => ?_⟩, fun p a q b e => ?_⟩, fun p => ?_⟩
  · subst e
    exact d23 p (m2 p a (List.mem_append_right _ (List.mem_append_right _ b))) b
  · subst e
    rcases List.mem_append.mp b with z | z
    · exact d12 p a (m2 p z (List.mem_append_left _ a))
    · exact d13 p a z
  · simp only [List.mem_append]
    rw [r.mem p]
    constructor
    · rintro (h | (h | h) | h)
      · exact .inr ⟨.inl h, fun z => d12 p h (sub p z)⟩
      · exact .inl h
      · exact .inr ⟨.inr (.inl h.1), h.2⟩
      · exact .inr ⟨.inr (.inr h), fun z => d23 p (sub p z) h⟩
    · rintro (h | ⟨h | h | h, z⟩)
      · exact .inr (.inl (.inl h))
      · exact .inl h
      · exact .inr (.inl (.inr ⟨h, z⟩))
      · exact .inr (.inr h)
theorem rep_cons {a : Addr} {f fe fe' f' : List Addr} (r : Rep f fe fe' f') (h1 : a ∉ f) (h2 : a ∉ fe) (h3 : a ∉ fe') : Rep (a :: f) fe fe' (a :: f') := by
  refine ⟨List.nodup_cons.mpr ⟨fun z => ?_, r.nd⟩, fun p => ?_⟩
  · rcases (r.mem a).mp z with q | q
    · exact h3 q
    · exact h1 q.1
  · simp only [List.mem_cons]
    rw [r.mem p]
    constructor
    · rintro (h | h | h)
      · subst h; exact .inr ⟨.inl rfl, h2⟩
      · exact .inl h
      · exact .inr ⟨.inr h.1, h.2⟩
    · rintro (h | ⟨h | h, z⟩)
      · exact .inr (.inl h)
      · exact .inl h
      · exact .inr (.inr ⟨h, z⟩)
theorem imms_get : ∀ {ds : List D} {j : Nat} {x : D}, D.imms ds = true → ds[j]? = some x → x.imm = true
  | [], _, _, _, e => by simp at e
  | d :: ds, 0, x, h, e => by
    rw [imms_cons, Bool.and_eq_true] at h
    simp at e
    subst e
    exact h.1
  | d :: ds, j + 1, x, h, e => by
    rw [imms_cons, Bool.and_eq_true] at h
    exact imms_get (j := j) h.2 (by simpa using e)
theorem imm_getP : ∀ (r : List Step) {c e : D}, c.imm = true → c.getP r = some e → e.imm = true
  | [], c, e, h, g => by simp only [D.getP, Option.some.injEq] at g; rw [← g]; exact h
  | .ix k :: r, c, e, h, g => by
    simp only [D.getP] at g
    cases c <;> simp only [D.get1, reduceCtorEq] at g
    · rename_i xs
      rw [D.imm] at h
      cases ec : atI xs k with
      | none => rw [ec] at g; cases g
      | some y =>
        rw [ec] at g
        obtain ⟨j, _, hy⟩ := atI_j ec
        exact imm_getP r (imms_get h hy) g
    · rw [D.imm] at h; cases h
  | .fl f :: r, c, e, h, g => by
    simp only [D.getP] at g
    cases c <;> simp only [D.get1, reduceCtorEq] at g
    rw [D.imm] at h; cases h
theorem fIx_lookup {fs : List (Str × V)} {f : Str} {j : Nat} {w : V} (h : fIx (fs.map fun p => p.1) f = some j) (hw : (fs.map fun p => p.2)[j]? = some w) : fs.lookup f = some w := by
  induction fs generalizing j with
  | nil => cases h
  | cons p fs ih =>
    obtain ⟨k, v⟩ := p
    simp only [List.map_cons, fIx] at h
    by_cases e : k = f
    · rw [if_pos e] at h
      cases h
      simp only [List.map_cons, List.getElem?_cons_zero, Option.some.injEq] at hw
      subst e hw
      rw [List.lookup_cons_self]
    · rw [if_neg e] at h
      cases h2 : fIx (fs.map fun p => p.1) f with
      | none => rw [h2] at h; cases h
      | some i =>
        rw [h2] at h
        cases h
        rw [List.lookup_cons]
        have : (f == k) = false := by simpa using fun z => e z.symm
        rw [this]
        exact ih h2 (by simpa using hw)
theorem fIx_lt {ks : List Str} {f : Str} {j : Nat} (h : fIx ks f = some j) : j < ks.length := by
  induction ks generalizing j with
  | nil => cases h
  | cons k ks ih =>
    simp only [fIx] at h
    by_cases e : k = f
    · rw [if_pos e] at h; cases h; simp
    · rw [if_neg e] at h
      cases h2 : fIx ks f with
      | none => rw [h2] at h; cases h
      | some i => rw [h2] at h; cases h; have := ih h2; simp; omega
theorem lookup_fIx {fs : List (Str × V)} {f : Str} {w : V} (h : fs.lookup f = some w) : ∃ j, fIx (fs.map fun p => p.1) f = some j ∧ (fs.map fun p => p.2)[j]? = some w := by
  induction fs with
  | nil => cases h
  | cons p fs ih =>
    obtain ⟨k, v⟩ := p
    rw [List.lookup_cons] at h
    by_cases e : k = f
    · subst e
      rw [beq_self_eq_true] at h
      cases h
      exact ⟨0, by simp [fIx], by simp⟩
    · have e2 : (f == k) = false := by simpa using fun z => e z.symm
      rw [e2] at h
      obtain ⟨j, h1, h2⟩ := ih h
      exact ⟨j + 1, by simp [fIx, e, h1], by simpa using h2⟩
theorem focus : ∀ (r : List Step) {v : V} {d e : D} {fp : List Addr}, RO K F H v d fp → fp.Nodup → d.getP r = some e → e.imm = false →
    ∃ u fe, (AtV K F H v r u ∧ ∀ F' H' : Hp, Same F F' → (∀ p ∈ fp, H' p = H p) → AtV K F' H' v r u) ∧ RO K F H u e fe ∧ fe.Nodup ∧ (∀ p ∈ fe, p ∈ fp) ∧
      ∀ (F' H' : Hp) (e' : D) (fe' : List Addr), Same F F' → RO K F' H' u e' fe' → fe'.Nodup → (∀ p ∈ fp, p ∉ fe → H' p = H p) → (∀ p ∈ fe', p ∈ fp → p ∈ fe) → ∃ fp', RO K F' H' v (d.putP r e') fp' ∧ Rep fp fe fe' fp'
  | [], v, d, e, fp, h, nd, hg, he => by
    simp only [D.getP, Option.some.injEq] at hg
    subst hg
    exact ⟨v, fp, ⟨.nil, fun _ _ _ _ => .nil⟩, h, nd, fun p hp => hp, fun F' H' e' fe' s h' nd' c1 c2 => ⟨fe', h', nd', fun p => ⟨.inl, fun z => z.elim id fun z => absurd z.1 z.2⟩⟩⟩
  | .ix k :: r, v, d, e, fp, h, nd, hg, he => by
    have hni : d.imm = false := by
      cases q : d.imm with
      | false => rfl
      | true => rw [imm_getP _ q hg] at he; cases he
    cases h with
    | imm hi' _ => rw [hni] at hi'; cases hi'
    | dicK _ _ => simp [D.getP, D.get1] at hg
    | dicT _ _ => simp [D.getP, D.get1] at hg
    | obj _ _ _ _ _ => simp [D.getP, D.get1] at hg
    | @lst a xs ds f ha rs =>
      simp only [D.getP, D.get1] at hg
      cases ec : atI ds k with
      | none => rw [ec] at hg; cases hg
      | some c =>
        rw [ec] at hg
        simp only at hg
        obtain ⟨j, hj, hc⟩ := atI_j ec
        obtain ⟨w, f1, f2, f3, hw, r1, r2, r3, hf⟩ := rs.split hc
        subst hf
        obtain ⟨nda, nd0⟩ := List.nodup_cons.mp nd
        obtain ⟨n1, n2, n3⟩ := List.nodup_append.mp nd0
        obtain ⟨n4, n5, n6⟩ := List.nodup_append.mp n2
        obtain ⟨u, fe, ⟨hat, hcar⟩, hro, ndfe, sub, upd⟩ := focus r r2 n4 hg he
        have subA : ∀ p ∈ fe, p ∈ f1 ++ (f2 ++ f3) := fun p hp => List.mem_append_right _ (List.mem_append_left _ (sub p hp))
        have afe : a ∉ fe := fun z => nda (subA a z)
        refine ⟨u, fe, ⟨.lst ha (j_atI (by rw [rs.len]; exact hj) hw) hat, fun F' H' s c => .lst ((c a (List.mem_cons_self ..)).trans ha) (j_atI (by rw [rs.len]; exact hj) hw) (hcar F' H' s fun p hp => c p (List.mem_cons_of_mem _ (List.mem_append_right _ (List.mem_append_left _ hp))))⟩, hro, ndfe, fun p hp => List.mem_cons_of_mem _ (subA p hp), fun F' H' e' fe' s h' nd' c1 c2 => ?_⟩
        obtain ⟨f2', hr', rep⟩ := upd F' H' e' fe' s h' nd' (fun p hp hn => c1 p (List.mem_cons_of_mem _ (List.mem_append_right _ (List.mem_append_left _ hp))) hn)
          (fun p hp hin => c2 p hp (List.mem_cons_of_mem _ (List.mem_append_right _ (List.mem_append_left _ hin))))
        have k1 : ∀ p ∈ f1, H' p = H p := fun p hp => c1 p (List.mem_cons_of_mem _ (List.mem_append_left _ hp)) fun z => n3 p hp p (List.mem_append_left _ (sub p z)) rfl
        have k3 : ∀ p ∈ f3, H' p = H p := fun p hp => c1 p (List.mem_cons_of_mem _ (List.mem_append_right _ (List.mem_append_right _ hp))) fun z => n6 p (sub p z) p hp rfl
        have hl := rs.len
        have hjl : j < ds.length := (List.getElem?_eq_some_iff.mp hc).1
        refine ⟨a :: (f1 ++ (f2' ++ f3)), ?_, rep_cons (rep_mid nd0 sub (fun p hp hin => c2 p hp (List.mem_cons_of_mem _ hin)) rep) nda afe fun z => afe (c2 a z (List.mem_cons_self ..))⟩
        simp only [D.putP, D.get1, ec, D.put1, hj]
        refine .lst ((c1 a (List.mem_cons_self ..) afe).trans ha) ?_
        rw [set_mid' ds j _ hjl, get_mid hw]
        exact (ROs.car (.of s) r1 k1).app (.cons hr' (ROs.car (.of s) r3 k3))
    | @tup a xs ds f ha rs =>
      simp only [D.getP, D.get1] at hg
      cases ec : atI ds k with
      | none => rw [ec] at hg; cases hg
      | some c =>
        rw [ec] at hg
        simp only at hg
        obtain ⟨j, hj, hc⟩ := atI_j ec
        obtain ⟨w, f1, f2, f3, hw, r1, r2, r3, hf⟩ := rs.split hc
        subst hf
        obtain ⟨n1, n2, n3⟩ := List.nodup_append.mp nd
        obtain ⟨n4, n5, n6⟩ := List.nodup_append.mp n2
        obtain ⟨u, fe, ⟨hat, hcar⟩, hro, ndfe, sub, upd⟩ := focus r r2 n4 hg he
        refine ⟨u, fe, ⟨.tup ha (j_atI (by rw [rs.len]; exact hj) hw) hat, fun F' H' s c => .tup (rd_mono s ha) (j_atI (by rw [rs.len]; exact hj) hw) (hcar F' H' s fun p hp => c p (List.mem_append_right _ (List.mem_append_left _ hp)))⟩, hro, ndfe, fun p hp => List.mem_append_right _ (List.mem_append_left _ (sub p hp)), fun F' H' e' fe' s h' nd' c1 c2 => ?_⟩
        obtain ⟨f2', hr', rep⟩ := upd F' H' e' fe' s h' nd' (fun p hp hn => c1 p (List.mem_append_right _ (List.mem_append_left _ hp)) hn)
          (fun p hp hin => c2 p hp (List.mem_append_right _ (List.mem_append_left _ hin)))
        have k1 : ∀ p ∈ f1, H' p = H p := fun p hp => c1 p (List.mem_append_left _ hp) fun z => n3 p hp p (List.mem_append_left _ (sub p z)) rfl
        have k3 : ∀ p ∈ f3, H' p = H p := fun p hp => c1 p (List.mem_append_right _ (List.mem_append_right _ hp)) fun z => n6 p (sub p z) p hp rfl
        have hjl : j < ds.length := (List.getElem?_eq_some_iff.mp hc).1
        refine ⟨f1 ++ (f2' ++ f3), ?_, rep_mid nd sub c2 rep⟩
        simp only [D.putP, D.get1, ec, D.put1, hj]
        refine .tup (xs := xs) (rd_mono s ha) ?_
        have e2 := get_mid hw
        rw [set_mid' ds j _ hjl]
        rw [e2]
        exact (ROs.car (.of s) r1 k1).app (.cons hr' (ROs.car (.of s) r3 k3))
  | .fl f :: r, v, d, e, fp, h, nd, hg, he => by
    have hni : d.imm = false := by
      cases q : d.imm with
      | false => rfl
      | true => rw [imm_getP _ q hg] at he; cases he
    cases h with
    | imm hi' _ => rw [hni] at hi'; cases hi'
    | dicK _ _ => simp [D.getP, D.get1] at hg
    | dicT _ _ => simp [D.getP, D.get1] at hg
    | lst _ _ => simp [D.getP, D.get1] at hg
    | tup _ _ => simp [D.getP, D.get1] at hg
    | @obj a C dx cn fs ks ds g cl ha hd hk rs =>
      simp only [D.getP, D.get1] at hg
      cases ec : fldG ks ds f with
      | none => rw [ec] at hg; cases hg
      | some c =>
        rw [ec] at hg
        simp only at hg
        have ec0 := ec
        unfold fldG at ec
        cases ej : fIx ks f with
        | none => rw [ej] at ec; cases ec
        | some j =>
        rw [ej] at ec
        have hc : ds[j]? = some c := ec
        obtain ⟨w, f1, f2, f3, hw, r1, r2, r3, hf⟩ := rs.split hc
        subst hf
        obtain ⟨nda, nd00⟩ := List.nodup_cons.mp nd
        obtain ⟨ndx, nd0⟩ := List.nodup_cons.mp nd00
        obtain ⟨n1, n2, n3⟩ := List.nodup_append.mp nd0
        obtain ⟨n4, n5, n6⟩ := List.nodup_append.mp n2
        obtain ⟨u, fe, ⟨hat, hcar⟩, hro, ndfe, sub, upd⟩ := focus r r2 n4 hg he
        have hl : fs.lookup f = some w := fIx_lookup (by rw [← hk]; exact ej) hw
        have subA : ∀ p ∈ fe, p ∈ f1 ++ (f2 ++ f3) := fun p hp => List.mem_append_right _ (List.mem_append_left _ (sub p hp))
        have up : ∀ p, p ∈ f1 ++ (f2 ++ f3) → p ∈ a :: dx :: (f1 ++ (f2 ++ f3)) := fun p hp => List.mem_cons_of_mem _ (List.mem_cons_of_mem _ hp)
        have dfe : dx ∉ fe := fun z => ndx (subA dx z)
        have afe : a ∉ fe := fun z => nda (List.mem_cons_of_mem _ (subA a z))
        have dxm : dx ∈ a :: dx :: (f1 ++ (f2 ++ f3)) := List.mem_cons_of_mem _ (List.mem_cons_self ..)
        refine ⟨u, fe, ⟨.fld ha hl hat, fun F' H' s c => .fld ((c a (List.mem_cons_self ..)).trans ha) hl (hcar F' H' s fun p hp => c p (up p (List.mem_append_right _ (List.mem_append_left _ hp))))⟩, hro, ndfe, fun p hp => up p (subA p hp), fun F' H' e' fe' s h' nd' c1 c2 => ?_⟩
        obtain ⟨f2', hr', rep⟩ := upd F' H' e' fe' s h' nd' (fun p hp hn => c1 p (up p (List.mem_append_right _ (List.mem_append_left _ hp))) hn)
          (fun p hp hin => c2 p hp (up p (List.mem_append_right _ (List.mem_append_left _ hin))))
        have k1 : ∀ p ∈ f1, H' p = H p := fun p hp => c1 p (up p (List.mem_append_left _ hp)) fun z => n3 p hp p (List.mem_append_left _ (sub p z)) rfl
        have k3 : ∀ p ∈ f3, H' p = H p := fun p hp => c1 p (up p (List.mem_append_right _ (List.mem_append_right _ hp))) fun z => n6 p (sub p z) p hp rfl
        have hjl : j < ds.length := (List.getElem?_eq_some_iff.mp hc).1
        have rp0 := rep_mid nd0 sub (fun p hp hin => c2 p hp (up p hin)) rep
        have rp1 := rep_cons rp0 ndx dfe fun z => dfe (c2 dx z dxm)
        refine ⟨a :: dx :: (f1 ++ (f2' ++ f3)), ?_, rep_cons rp1 nda afe fun z => afe (c2 a z (List.mem_cons_self ..))⟩
        simp only [D.putP, D.get1, ec0, D.put1, ej]
        refine .obj cl ((c1 a (List.mem_cons_self ..) afe).trans ha) ((c1 dx dxm dfe).trans hd) hk ?_
        have e2 := get_mid hw
        rw [set_mid' ds j _ hjl]
        rw [e2]
        exact (ROs.car (.of s) r1 k1).app (.cons hr' (ROs.car (.of s) r3 k3))
end
end G9

namespace G9
open PySem PySem.Spec PyProof.Rows L2
section
variable {K : PySem.W.Frag} {mg : Str → Option Value} {F H F' H' : Hp} {L : Nat → V} {fr : Addr → Prop} {σ : L2.St} {env : Env} {fps : Nat → List Addr}
theorem rd_tup_inj {a : Addr} {xs ys : List V} (h : Rd F a (.tup xs)) (h' : Rd F a (.tup ys)) : xs = ys := by
  rcases h with h | ⟨o, h⟩ <;> rcases h' with h' | ⟨o', h'⟩ <;> rw [h] at h' <;> cases h' <;> rfl
theorem AtV.inj (s : Same F H) : ∀ {r : List Step} {v u u' : V}, AtV K F H v r u → AtV K F H v r u' → u = u'
  | _, _, _, _, .nil, .nil => rfl
  | _, _, _, _, .lst h1 h2 h3, .lst g1 g2 g3 => by
    rw [h1] at g1; cases g1
    rw [h2] at g2; cases g2
    exact AtV.inj s h3 g3
  | _, _, _, _, .tup h1 h2 h3, .tup g1 g2 g3 => by
    cases rd_tup_inj h1 g1
    rw [h2] at g2; cases g2
    exact AtV.inj s h3 g3
  | _, _, _, _, .fld h1 h2 h3, .fld g1 g2 g3 => by
    rw [h1] at g1; cases g1
    rw [h2] at g2; cases g2
    exact AtV.inj s h3 g3
  | _, _, _, _, .lst h1 h2 h3, .tup g1 g2 g3 => by
    rcases rd_mono s g1 with g | ⟨o, g⟩ <;> rw [h1] at g <;> cases g
  | _, _, _, _, .tup g1 g2 g3, .lst h1 h2 h3 => by
    rcases rd_mono s g1 with g | ⟨o, g⟩ <;> rw [h1] at g <;> cases g
theorem AtV.mono (sF : Same F F') (s : Same H H') : ∀ {r : List Step} {v u : V}, AtV K F H v r u → AtV K F' H' v r u
  | _, _, _, .nil => .nil
  | _, _, _, .lst h1 h2 h3 => .lst (s _ _ h1) h2 (AtV.mono sF s h3)
  | _, _, _, .tup h1 h2 h3 => .tup (rd_mono sF h1) h2 (AtV.mono sF s h3)
  | _, _, _, .fld h1 h2 h3 => .fld (s _ _ h1) h2 (AtV.mono sF s h3)
theorem RE.mut {i : Nat} {d d' : D} {b : Addr} {o : HO} {tf fe fe' fp' out : List Addr} {v0 : V} (R : RE K L F H (fun p => fr p ∨ p ∈ tf) σ env fps) (hf : ∀ p ∈ tf, ¬ fr p) (hi : env[i]? = some (.own d)) (hv : σ[i]? = some (some v0))
    (hb : b ∈ fps i) (ho : Nt (some o)) (ro : RO K F (upd H b o) v0 d' fp') (rep : Rep (fps i) fe fe' fp') (h2 : ∀ p ∈ fe', p ∈ fps i ∨ p ∈ tf) (ho1 : ∀ p ∈ out, p ∈ fps i) (ho2 : ∀ p ∈ out, p ∉ fp') :
    RE K L F (upd H b o) (fun p => fr p ∨ p ∈ out) σ (env.set i (.own d')) (fun j => if j = i then fp' else fps j) ∧ Ev F H fr F (upd H b o) := by
  obtain ⟨Fb, frb, nb⟩ := R.off i b hb
  have inn : ∀ p ∈ fp', p ∈ fps i ∨ p ∈ tf := fun p hp => by
    rcases (rep.mem p).mp hp with z | z
    · exact h2 p z
    · exact .inl z.1
  have nto : ∀ p, Nt (H p) → Nt (upd H b o p) := fun p h => by
    by_cases e : p = b
    · subst e; rw [upd_same]; exact ho
    · rw [upd_ne e]; exact h
  have il : i < env.length := (List.getElem?_eq_some_iff.mp hi).1
  refine ⟨⟨by rw [List.length_set]; exact R.len, fun j t e => ?_, fun j k p h1 h2' => ?_, fun j p hp => ?_, fun p u e => ?_, ⟨fun p xs e => ?_, fun p o' u e => ?_⟩, fun p hp => ?_⟩, ⟨Same.refl F, ⟨fun p xs e => ?_, fun p o' u e => ?_⟩, fun p hp => ?_⟩⟩
  · by_cases hj : j = i
    · subst hj
      rw [List.getElem?_set_self il] at e
      cases e
      rw [if_pos rfl, hv]
      exact ⟨v0, rfl, ro, rep.nd⟩
    · rw [List.getElem?_set_ne (Ne.symm hj)] at e
      rw [if_neg hj]
      exact (R.at' j t e).car (Same.refl F) fun p hp => upd_ne fun z => by subst z; exact hj (R.dis j i p hp hb)
  · by_cases hj : j = i
    · by_cases hk : k = i
      · rw [hj, hk]
      · rw [if_pos hj] at h1
        rw [if_neg hk] at h2'
        rcases inn p h1 with z | z
        · exact absurd (R.dis k i p h2' z) hk
        · exact absurd (.inr z) (R.off k p h2').2.1
    · rw [if_neg hj] at h1
      by_cases hk : k = i
      · rw [if_pos hk] at h2'
        rcases inn p h2' with z | z
        · exact absurd (R.dis j i p h1 z) hj
        · exact absurd (.inr z) (R.off j p h1).2.1
      · rw [if_neg hk] at h2'
        exact R.dis j k p h1 h2'
  · by_cases hj : j = i
    · rw [if_pos hj] at hp
      rcases inn p hp with z | z
      · obtain ⟨x, y, w⟩ := R.off i p z
        exact ⟨x, fun q => q.elim (fun q => y (.inl q)) fun q => ho2 p q hp, nto p w⟩
      · exact ⟨(R.frd p (.inr z)).1, fun q => q.elim (hf p z) fun q => ho2 p q hp, nto p (R.frd p (.inr z)).2⟩
    · rw [if_neg hj] at hp
      obtain ⟨x, y, w⟩ := R.off j p hp
      exact ⟨x, fun q => q.elim (fun q => y (.inl q)) fun q => hj (R.dis j i p hp (ho1 p q)), nto p w⟩
  · rw [upd_ne (fun z => by subst z; rw [Fb] at e; cases e)]
    exact R.sF p u e
  · by_cases q : p = b
    · subst q; rw [upd_same] at e; obtain ⟨u, e1, e2, _⟩ := ho; cases e1; cases e; exact absurd rfl (e2 _)
    · rw [upd_ne q] at e; exact R.tk.tup _ _ e
  · by_cases q : p = b
    · subst q; rw [upd_same] at e; obtain ⟨u', e1, _, e2⟩ := ho; cases e1; cases e; exact absurd rfl (e2 _ _)
    · rw [upd_ne q] at e; exact R.tk.frz _ _ _ e
  · rcases hp with hp | hp
    · exact ⟨(R.frd p (.inl hp)).1, nto p (R.frd p (.inl hp)).2⟩
    · exact ⟨(R.off i p (ho1 p hp)).1, nto p (R.off i p (ho1 p hp)).2.2⟩
  · rw [upd_ne (fun z => by subst z; obtain ⟨u, e1, e2, _⟩ := nb; rw [e] at e1; cases e1; exact e2 _ rfl)]; exact e
  · rw [upd_ne (fun z => by subst z; obtain ⟨u', e1, _, e2⟩ := nb; rw [e] at e1; cases e1; exact e2 _ _ rfl)]; exact e
  · exact upd_ne fun z => by subst z; exact frb (.inl hp)
theorem RE.lock {i : Nat} {d : D} {v0 : V} (R : RE K L F H fr σ env fps) (hi : env[i]? = some (.own d)) (hv : σ[i]? = some (some v0)) :
    RE K (fun j => if j = i then v0 else L j) F H (fun p => fr p ∨ p ∈ fps i) σ (env.set i .lck) (fun j => if j = i then [] else fps j) := by
  have il : i < env.length := (List.getElem?_eq_some_iff.mp hi).1
  have T := R.take hi (.inl rfl)
  refine ⟨by rw [List.length_set]; exact R.len, fun j t e => ?_, T.dis, T.off, T.sF, T.tk, T.frd⟩
  by_cases hj : j = i
  · subst hj
    rw [List.getElem?_set_self il] at e
    cases e
    rw [if_pos rfl, if_pos rfl, hv]
    exact ⟨rfl, rfl⟩
  · rw [List.getElem?_set_ne (Ne.symm hj)] at e
    rw [if_neg hj, if_neg hj]
    exact R.at' j t e
theorem RE.unlock {i : Nat} {d : D} {v0 : V} {fp0 : List Addr} (R : RE K (fun j => if j = i then v0 else L j) F' H' (fun p => fr p ∨ p ∈ fp0) σ env fps) (hi : env[i]? = some .lck) (hf : ∀ p ∈ fp0, ¬ fr p) (ro : RO K F' H' v0 d fp0) (nd : fp0.Nodup) :
    σ[i]? = some (some v0) ∧ RE K L F' H' fr σ (env.set i (.own d)) (fun j => if j = i then fp0 else fps j) := by
  have il : i < env.length := (List.getElem?_eq_some_iff.mp hi).1
  have h0 := R.at' i _ hi
  have hv : σ[i]? = some (some v0) := by
    have h1 := h0.1
    rw [if_pos rfl] at h1
    cases w : σ[i]? with
    | none => rw [w] at h1; cases h1
    | some o => rw [w] at h1; cases o with
      | none => cases h1
      | some u => cases h1; rfl
  refine ⟨hv, by rw [List.length_set]; exact R.len, fun j t e => ?_, fun j k p h1 h2 => ?_, fun j p hp => ?_, R.sF, R.tk, fun p hp => R.frd p (.inl hp)⟩
  · by_cases hj : j = i
    · subst hj
      rw [List.getElem?_set_self il] at e
      cases e
      rw [if_pos rfl, hv]
      exact ⟨v0, rfl, ro, nd⟩
    · rw [List.getElem?_set_ne (Ne.symm hj)] at e
      rw [if_neg hj]
      have := R.at' j t e
      rw [if_neg hj] at this
      exact this
  · by_cases hj : j = i
    · by_cases hk : k = i
      · rw [hj, hk]
      · rw [if_pos hj] at h1
        rw [if_neg hk] at h2
        exact absurd (.inr h1) (R.off k p h2).2.1
    · rw [if_neg hj] at h1
      by_cases hk : k = i
      · rw [if_pos hk] at h2
        exact absurd (.inr h2) (R.off j p h1).2.1
      · rw [if_neg hk] at h2
        exact R.dis j k p h1 h2
  · by_cases hj : j = i
    · rw [if_pos hj] at hp
      exact ⟨(R.frd p (.inr hp)).1, hf p hp, (R.frd p (.inr hp)).2⟩
    · rw [if_neg hj] at hp
      obtain ⟨x, y, w⟩ := R.off j p hp
      exact ⟨x, fun q => y (.inl q), w⟩
end

def tPl (K : PySem.W.Frag) (mg : Str → Option Value) (W : WX) (m : Env → Res (Nat × List Step)) : TE := fun σ H Q => ∃ L F fr env fps, RE K L F H fr σ env fps ∧
  match m env with
  | .bad => False
  | .er x => ∀ cls d H', Same H H' → ExR K mg x cls d H' → W cls d σ H'
  | .ok p => ∀ v0 v H', σ[p.1]? = some (some v0) → Same H H' → AtV K (tkF F H') H' v0 p.2 v → Q v H'
def DPl (X : Cx) (e : Expr) (m : Env → Res (Nat × List Step)) : Prop := ∀ W, Takes X W → PE X e (tPl X.K X.mg W m)
section
variable {X : Cx} {a b e : Expr} {pos : Pos} {mp : Env → Res (Nat × List Step)} {mb mv : Env → Res D} {mo : Env → ORes}
def lVar (i : Nat) : Env → Res (Nat × List Step) := fun env => match env[i]? with
  | some (.own _) => .ok (i, [])
  | _ => .bad
theorem dpl_var (i : Nat) {x : Str} {pos : Pos} (hN : X.N[i]? = some x := by rfl) (hv : Vis X.env.scope x := by first | exact Or.inl rfl | exact Or.inr (Or.inl rfl) | exact Or.inr (Or.inr rfl)) (hd : (x == ("__debug__" : Str)) = false := by decide)
    (hcd : (x == ("__classdict__" : Str)) = false := by decide) : DPl X (.Name x pos) (lVar i) := fun W _ => PEw (pe_var hN hv hd hcd) fun σ H Q ⟨L, F, fr, env, fps, R, q⟩ => by
  cases e : env[i]? with
  | none => unfold lVar at q; rw [e] at q; exact q.elim
  | some sl =>
    unfold lVar at q
    rw [e] at q
    cases sl with
    | own d =>
      obtain ⟨v, a, b⟩ := R.get e (.inr ⟨d, rfl⟩)
      exact ⟨v, a, q v v H a (Same.refl H) .nil⟩
    | _ => exact q.elim
theorem place_ro {K : PySem.W.Frag} {L : Nat → V} {F H : Hp} {fr : Addr → Prop} {σ : L2.St} {env : Env} {fps : Nat → List Addr} {i : Nat} {d c : D} {r : List Step} {v0 x : V} (R : RE K L F H fr σ env fps) (h3 : env[i]? = some (.own d)) (hv : σ[i]? = some (some v0)) (hx : AtV K F H v0 r x) (hc : d.getP r = some c) (hi : c.imm = false) :
    ∃ fe, RO K F H x c fe ∧ fe.Nodup ∧ (∀ p ∈ fe, p ∈ fps i) ∧
      ∀ (F' H' : Hp) (e' : D) (fe' : List Addr), Same F F' → RO K F' H' x e' fe' → fe'.Nodup → (∀ p ∈ fps i, p ∉ fe → H' p = H p) → (∀ p ∈ fe', p ∈ fps i → p ∈ fe) → ∃ fp', RO K F' H' v0 (d.putP r e') fp' ∧ Rep (fps i) fe fe' fp' := by
  obtain ⟨v0', hv', ro, nd⟩ := R.get h3 (.inr ⟨d, rfl⟩)
  rw [hv] at hv'; cases hv'
  obtain ⟨u, fe, ⟨hat, _⟩, hro, ndfe, sub, upd⟩ := focus r ro nd hc hi
  have := AtV.inj R.sF hat hx
  subst this
  exact ⟨fe, hro, ndfe, sub, upd⟩
theorem list_core {K : PySem.W.Frag} {L : Nat → V} {F H : Hp} {fr : Addr → Prop} {σ : L2.St} {env : Env} {fps : Nat → List Addr} {i : Nat} {d : D} {r : List Step} {v0 x : V} {tf : List Addr} {es : List D}
    (R : RE K L F H (fun p => fr p ∨ p ∈ tf) σ env fps) (hf : ∀ p ∈ tf, ¬ fr p) (h3 : env[i]? = some (.own d)) (hv : σ[i]? = some (some v0)) (hx : AtV K F H v0 r x) (hc : d.getP r = some (.lst es)) :
    ∃ b ys f, x = .ref b ∧ H b = some (.lst ys) ∧ ROs K F H ys es f ∧ (b :: f).Nodup ∧ (∀ p ∈ f, p ∈ fps i) ∧
      ∀ (zs : List V) (gs : List D) (ff out : List Addr), ROs K F H zs gs ff → ff.Nodup → b ∉ ff → (∀ p ∈ ff, p ∈ f ∨ p ∈ tf) → (∀ p ∈ out, p ∈ f) → (∀ p ∈ out, p ∉ ff) →
        ∃ fps', RE K L F (upd H b (.lst zs)) (fun p => fr p ∨ p ∈ out) σ (env.set i (.own (d.putP r (.lst gs)))) fps' ∧ Ev F H fr F (upd H b (.lst zs)) := by
  obtain ⟨fe, hro, ndfe, sub, upd'⟩ := place_ro R h3 hv hx hc rfl
  cases hro with
  | imm hi' _ => rw [D.imm] at hi'; cases hi'
  | @lst b ys ds f g1 rs =>
    have bi : b ∈ fps i := sub b (List.mem_cons_self ..)
    obtain ⟨nb, ndf⟩ := List.nodup_cons.mp ndfe
    refine ⟨b, ys, f, rfl, g1, rs, ndfe, fun p hp => sub p (List.mem_cons_of_mem _ hp), fun zs gs ff out rz ndz nbz inz o1 o2 => ?_⟩
    have tfi : ∀ p ∈ tf, p ∉ fps i := fun p hp z => (R.off i p z).2.1 (.inr hp)
    have ro' : RO K F (upd H b (.lst zs)) (.ref b) (.lst gs) (b :: ff) := .lst upd_same (ROs.car .refl rz fun p hp => upd_ne fun z => by subst z; exact nbz hp)
    obtain ⟨fp', hro', rep⟩ := upd' F (upd H b (.lst zs)) (.lst gs) (b :: ff) (Same.refl F) ro' (List.nodup_cons.mpr ⟨nbz, ndz⟩)
      (fun p hp hn => upd_ne fun z => by subst z; exact hn (List.mem_cons_self ..))
      (fun p hp hin => by
        rcases List.mem_cons.mp hp with rfl | hp
        · exact List.mem_cons_self ..
        · rcases inz p hp with z | z
          · exact List.mem_cons_of_mem _ z
          · exact absurd hin (tfi p z))
    obtain ⟨R', ev⟩ := R.mut (out := out) hf h3 hv bi (nt_lst rfl) hro' rep (fun p hp => by
      rcases List.mem_cons.mp hp with rfl | hp
      · exact .inl bi
      · rcases inz p hp with z | z
        · exact .inl (sub p (List.mem_cons_of_mem _ z))
        · exact .inr z) (fun p hp => sub p (List.mem_cons_of_mem _ (o1 p hp))) (fun p hp z => by
      rcases (rep.mem p).mp z with q | q
      · rcases List.mem_cons.mp q with rfl | q
        · exact nb (o1 p hp)
        · exact o2 p hp q
      · exact q.2 (List.mem_cons_of_mem _ (o1 p hp)))
    exact ⟨_, R', ev⟩
def plGet (env : Env) (p : Nat × List Step) : Option (D × List D) := match env[p.1]? with
  | some (.own d) => match d.getP p.2 with
    | some (.lst es) => some (d, es)
    | _ => none
  | _ => none
theorem plGet_in {env : Env} {p : Nat × List Step} {d : D} {es : List D} (h : plGet env p = some (d, es)) : env[p.1]? = some (.own d) ∧ d.getP p.2 = some (.lst es) := by
  unfold plGet at h
  split at h
  · rename_i d' e1
    split at h
    · rename_i es' e2
      cases h
      exact ⟨e1, e2⟩
    · cases h
  · cases h
def sAppO (pl : Env → Res (Nat × List Step)) (m : Env → ORes) : Env → ORes := fun env => match pl env with
  | .bad => .bad
  | .er x => .er x env
  | .ok p => match plGet env p with
    | none => .bad
    | some (d, es) => match m (env.set p.1 .lck) with
      | .bad => .bad
      | .er x e => .er x (e.set p.1 .dead)
      | .ok s e => match e[p.1]?, s.dat with
        | some .lck, some x => if es.length < sizeLine then .ok (.frz .non) (e.set p.1 (.own (d.putP p.2 (.lst (es ++ [x]))))) else .bad
        | _, _ => .bad
theorem RE.unL {K : PySem.W.Frag} {L : Nat → V} {F H : Hp} {fr : Addr → Prop} {σ : L2.St} {env : Env} {fps : Nat → List Addr} {i : Nat} {v0 : V} (R : RE K (fun j => if j = i then v0 else L j) F H fr σ env fps) : ∃ fps', RE K L F H fr σ (env.set i .dead) fps' := by
  obtain ⟨f', R'⟩ := R.kill1 i
  refine ⟨f', R'.len, fun j t e => ?_, R'.dis, R'.off, R'.sF, R'.tk, R'.frd⟩
  have z := R'.at' j t e
  by_cases hj : j = i
  · subst hj
    by_cases hl : j < env.length
    · rw [List.getElem?_set_self hl] at e
      cases e
      exact z
    · rw [List.getElem?_eq_none (by rw [List.length_set]; omega)] at e
      cases e
  · rw [if_neg hj] at z
    exact z
theorem do_appO {apos cpos : Pos} (ho : DPl X a mp) (hm : DO X b mo) (hbase : attributeBase a "append" X.env (eval a X.env) = eval a X.env := by rfl)
    (hfew : ((backTo cpos (starEach [b] X.env)).all (fun x => !x.1) && (backToKw cpos (keywordEach [] X.env)).all (fun x => x.1.isSome)
      && decide ([b].length + ([] : List Keyword).length + (if ([] : List Keyword).isEmpty then 0 else 1) < 30)) = true := by rfl)
    (hline : (apos.endLine == cpos.line) = true := by rfl) (hs : starEach [b] X.env = (false, eval b X.env) :: starEach [] X.env := by rfl) (hplain : (backTo cpos (starEach [] X.env)).any (·.1) = false := by rfl) :
    DO X (.Call (.Attribute a "append" apos) [b] [] cpos) (sAppO mp mo) := fun W tk =>
  PEw (pe_bm PySem.F.plainAttrs_list PySem.F.slot_list_append PySem.F.type_list_append mt_append (ho W tk) (pa_cons (hm W tk) pa_nil hs) hbase hfew hline hs hplain) fun σ H Q ⟨L, F, fr, env, fps, R, q⟩ => by
  refine ⟨L, F, fr, env, fps, R, ?_⟩
  unfold sAppO at q
  cases ea : mp env with
  | bad => rw [ea] at q; exact q
  | er x => rw [ea] at q; exact fun cls d H' s z => q cls d _ H' fps (R.grow s) (Ev.grow R s) z
  | ok p =>
    rw [ea] at q
    simp only at q
    cases eg : plGet env p with
    | none => rw [eg] at q; exact q.elim
    | some t =>
      obtain ⟨d, es⟩ := t
      obtain ⟨h3, hc⟩ := plGet_in eg
      rw [eg] at q
      simp only at q
      intro v0 x H1 hv s1 hx
      have R1 := R.grow s1
      obtain ⟨b, ys, f, rfl, g1, _⟩ := list_core (tf := []) R1.nil (fun p hp => by cases hp) h3 hv hx hc
      refine ⟨.inl ⟨rfl, _, .inl (.inl g1)⟩, ?_⟩
      obtain ⟨v0', hv', ro0, nd0⟩ := R1.get h3 (.inr ⟨d, rfl⟩)
      rw [hv] at hv'; cases hv'
      refine ⟨_, _, _, _, _, R1.lock h3 hv, ?_⟩
      have nfr : ∀ p' ∈ fps p.1, ¬ fr p' := fun p' hp => (R1.off p.1 p' hp).2.1
      cases eb : mo (env.set p.1 .lck) with
      | bad => rw [eb] at q; exact q
      | er e env2 =>
        rw [eb] at q
        intro cls d' F' H' fps' R' ev z
        obtain ⟨f2, R2⟩ := R'.unL
        exact q cls d' F' H' f2 (R2.frw fun p' hp => .inl hp) ((Ev.grow R s1).trans (ev.weak fun p' hp => .inl hp)) z
      | ok s env2 =>
        rw [eb] at q
        simp only at q
        cases el : env2[p.1]? with
        | none => rw [el] at q; exact q.elim
        | some sl =>
          cases sl with
          | lck =>
            cases ed : s.dat with
            | none => rw [el, ed] at q; exact q.elim
            | some y =>
              rw [el, ed] at q
              simp only at q
              by_cases hi : es.length < sizeLine
              · rw [if_pos hi] at q
                intro w F2 H2 fp fps2 R2 ev2 hs nf
                obtain ⟨roy, ndy⟩ := hs.ro ed
                have keep : ∀ p' ∈ fps p.1, H2 p' = H1 p' := fun p' hp => ev2.fr p' (.inr hp)
                have ro2 : RO X.K F2 H2 v0 d (fps p.1) := RO.car (.of ev2.sF) ro0 keep
                have R2' : RE X.K (fun j => if j = p.1 then v0 else L j) F2 H2 (fun p' => (fr p' ∨ p' ∈ fp) ∨ p' ∈ fps p.1) σ env2 fps2 := R2.frw fun p' hp => by
                  rcases hp with (h | h) | h
                  · exact .inl (.inl h)
                  · exact .inr h
                  · exact .inl (.inr h)
                obtain ⟨hv2, R3⟩ := RE.unlock R2' el (fun p' hp z => z.elim (nfr p' hp) fun z => nf p' z (.inr hp)) ro2 nd0
                have il : p.1 < env2.length := (List.getElem?_eq_some_iff.mp el).1
                have h3' : (env2.set p.1 (.own d))[p.1]? = some (.own d) := List.getElem?_set_self il
                -- the place is as it was
                obtain ⟨u1, fe1, ⟨hat1, hcar⟩, _⟩ := focus p.2 ro0 nd0 hc rfl
                have eu := AtV.inj R1.sF hat1 hx
                subst eu
                have hx2 := hcar F2 H2 ev2.sF keep
                obtain ⟨b', ys', f', e1, g1', rs, nd, sub, upd'⟩ := list_core (tf := fp) (R := by
                  exact (R3 : RE X.K L F2 H2 (fun p' => fr p' ∨ p' ∈ fp) σ _ _)) (fun p' hp z => nf p' hp (.inl z)) h3' hv2 hx2 hc
                cases e1
                refine ⟨b, ys', w, rfl, rfl, g1', by rw [rs.len]; exact hi, ?_⟩
                obtain ⟨nb, ndf⟩ := List.nodup_cons.mp nd
                have inf : ∀ p' ∈ f', p' ∈ fps p.1 := fun p' hp => by
                  have := sub p' hp
                  rw [if_pos rfl] at this
                  exact this
                have bfp : b ∉ fp := fun z => by
                  have hb : b ∈ fps p.1 := by
                    obtain ⟨fe, hro', _, sub', _⟩ := place_ro R3 h3' hv2 hx2 hc rfl
                    cases hro' with
                    | imm hi' _ => rw [D.imm] at hi'; cases hi'
                    | lst _ _ =>
                      have := sub' b (List.mem_cons_self ..)
                      rw [if_pos rfl] at this
                      exact this
                  exact nf b z (.inr hb)
                have ryo : ROs X.K F2 H2 [w] [y] (fp ++ []) := .cons roy .nil
                obtain ⟨fps', R', ev⟩ := upd' (ys' ++ [w]) (es ++ [y]) (f' ++ (fp ++ [])) [] (rs.app ryo)
                  (by rw [List.append_nil]; exact List.nodup_append.mpr ⟨ndf, ndy, fun p1 h1 p2 h2 e => by subst e; exact nf p1 h2 (.inr (inf p1 h1))⟩)
                  (by rw [List.append_nil]; exact fun z => (List.mem_append.mp z).elim nb bfp)
                  (fun p' hp => by rw [List.append_nil] at hp; exact List.mem_append.mp hp) (fun p' hp => by cases hp) (fun p' hp => by cases hp)
                rw [List.set_set] at R'
                exact q .non _ _ [] fps' R' (((Ev.grow R s1).trans (ev2.weak fun p' hp => .inl hp)).trans ev) ⟨.non, rfl⟩ (fun p' hp => by cases hp)
              · rw [if_neg hi] at q; exact q.elim
          | _ => rw [el] at q; exact q.elim
end
end G9

namespace G9
open PySem PySem.Spec PyProof.Rows L2
section
variable {X : Cx} {a b e : Expr} {pos : Pos} {mp : Env → Res (Nat × List Step)} {mb mv : Env → Res D} {mo : Env → ORes} {es : List Expr} {ms : Env → Res (List D)}
def sPop (pl : Env → Res (Nat × List Step)) : Env → ORes := fun env => match pl env with
  | .bad => .bad
  | .er x => .er x env
  | .ok p => match plGet env p with
    | none => .bad
    | some (d, es) => match es[es.length - 1]? with
      | none => .bad
      | some x => .ok (mkS x) (env.set p.1 (.own (d.putP p.2 (.lst es.dropLast))))
theorem ROs.nil_fp {K : PySem.W.Frag} {F H : Hp} {v : List V} {fp : List Addr} (h : ROs K F H v [] fp) : fp = [] := by
  cases h
  rfl
theorem take_last {α : Type} (l : List α) : l.take (l.length - 1) = l.dropLast := by
  rw [List.dropLast_eq_take]
theorem do_pop {apos cpos : Pos} (ho : DPl X a mp) (hbase : attributeBase a "pop" X.env (eval a X.env) = eval a X.env := by rfl) (hline : (apos.endLine == cpos.line) = true := by rfl) :
    DO X (.Call (.Attribute a "pop" apos) [] [] cpos) (sPop mp) := fun W tk =>
  PEw (pe_bm0 PySem.F.plainAttrs_list PySem.F.slot_list_pop PySem.F.type_list_pop mt_pop (ho W tk) hbase hline) fun σ H Q ⟨L, F, fr, env, fps, R, q⟩ => by
  refine ⟨L, F, fr, env, fps, R, ?_⟩
  unfold sPop at q
  cases ea : mp env with
  | bad => rw [ea] at q; exact q
  | er x => rw [ea] at q; exact fun cls d H' s z => q cls d _ H' fps (R.grow s) (Ev.grow R s) z
  | ok p =>
    rw [ea] at q
    simp only at q
    cases eg : plGet env p with
    | none => rw [eg] at q; exact q.elim
    | some t =>
      obtain ⟨d, es⟩ := t
      obtain ⟨h3, hc⟩ := plGet_in eg
      rw [eg] at q
      simp only at q
      intro v0 x H1 hv s1 hx
      have R1 := R.grow s1
      obtain ⟨b, ys, f, rfl, g1, rs, nd, sub, upd'⟩ := list_core (tf := []) R1.nil (fun p hp => by cases hp) h3 hv hx hc
      refine ⟨.inl ⟨rfl, _, .inl (.inl g1)⟩, ?_⟩
      cases el : es[es.length - 1]? with
      | none => rw [el] at q; exact q.elim
      | some y =>
        rw [el] at q
        simp only at q
        obtain ⟨w, f1, f2, f3, hw, r1, r2, r3, hf⟩ := rs.split el
        have hlen := rs.len
        have hpos : es.length - 1 < es.length := (List.getElem?_eq_some_iff.mp el).1
        have e3 : es.drop (es.length - 1 + 1) = [] := List.drop_of_length_le (by omega)
        rw [e3] at r3
        have f3n : f3 = [] := r3.nil_fp
        rw [f3n, List.append_nil] at hf
        subst hf
        obtain ⟨nb, ndf⟩ := List.nodup_cons.mp nd
        obtain ⟨n1, n2, n3⟩ := List.nodup_append.mp ndf
        rw [take_last] at r1
        have e1 : ys.take (es.length - 1) = ys.dropLast := by rw [← hlen, take_last]
        rw [e1] at r1
        obtain ⟨fps', R', ev⟩ := upd' ys.dropLast es.dropLast f1 f2 r1 n1 (fun z => nb (List.mem_append_left _ z)) (fun p hp => .inl (List.mem_append_left _ hp)) (fun p hp => List.mem_append_right _ hp) (fun p hp z => n3 p z p hp rfl)
        refine ⟨b, ys, w, rfl, rfl, g1, by rw [hlen]; exact hw, ?_⟩
        have r2' : RO X.K (tkF F H1) (upd H1 b (.lst ys.dropLast)) w y f2 := RO.car .refl r2 fun p hp => upd_ne fun z => by subst z; exact nb (List.mem_append_right _ hp)
        exact q w _ _ f2 fps' R' ((Ev.grow R s1).trans ev) (r2'.slot n2) fun p' hp => (R1.off p.1 p' (sub p' (List.mem_append_right _ hp))).2.1

inductive AORes where
  | ok (ss : List Slot) (e : Env) | er (x : Exn) (e : Env) | bad
inductive SlotsV (K : PySem.W.Frag) (F H : Hp) : List V → List Slot → List Addr → Prop
  | nil : SlotsV K F H [] [] []
  | cons {v s vs ss f g} : SlotV K F H v s f → SlotsV K F H vs ss g → (∀ p ∈ f, p ∉ g) → SlotsV K F H (v :: vs) (s :: ss) (f ++ g)
def tAo (K : PySem.W.Frag) (mg : Str → Option Value) (W : WX) (m : Env → AORes) : TA := fun σ H Q => ∃ L F fr env fps, RE K L F H fr σ env fps ∧
  match m env with
  | .bad => False
  | .er x env' => ∀ cls d F' H' fps', RE K L F' H' fr σ env' fps' → Ev F H fr F' H' → ExR K mg x cls d H' → W cls d σ H'
  | .ok ss env' => ∀ vs F' H' fp fps', RE K L F' H' (fun p => fr p ∨ p ∈ fp) σ env' fps' → Ev F H fr F' H' → SlotsV K F' H' vs ss fp → (∀ p ∈ fp, ¬ fr p) → Q vs H'
def DAo (X : Cx) (es : List Expr) (m : Env → AORes) : Prop := ∀ W, Takes X W → PA X es (tAo X.K X.mg W m)
def aoNil : Env → AORes := fun env => .ok [] env
def aoCons (x : Env → ORes) (r : Env → AORes) : Env → AORes := fun env => match x env with
  | .bad => .bad
  | .er x e => .er x e
  | .ok s e => match r e with
    | .bad => .bad
    | .er x e2 => .er x e2
    | .ok ss e2 => .ok (s :: ss) e2
theorem dao_nil : DAo X [] aoNil := fun W _ => PAw pa_nil fun σ H Q ⟨L, F, fr, env, fps, R, q⟩ => q [] F H [] fps R.nil Ev.refl .nil (fun p hp => by cases hp)
theorem dao_cons {mr : Env → AORes} (ha : DO X a mo) (hr : DAo X es mr) (hs : starEach (a :: es) X.env = (false, eval a X.env) :: starEach es X.env := by rfl) : DAo X (a :: es) (aoCons mo mr) := fun W tk => PAw (pa_cons (ha W tk) (hr W tk) hs) fun σ H Q ⟨L, F, fr, env, fps, R, q⟩ => by
  refine ⟨L, F, fr, env, fps, R, ?_⟩
  unfold aoCons at q
  cases ea : mo env with
  | bad => rw [ea] at q; exact q
  | er x e' => rw [ea] at q; exact q
  | ok s e1 =>
    rw [ea] at q
    simp only at q
    intro v F1 H1 f fps1 R1 ev1 hs1 nf1
    refine ⟨L, F1, _, e1, fps1, R1, ?_⟩
    cases eb : mr e1 with
    | bad => rw [eb] at q; exact q
    | er x e2 => rw [eb] at q; exact fun cls d F' H' fps' R' ev z => q cls d F' H' fps' (R'.frw fun p hp => .inl hp) (ev1.trans (ev.weak fun p hp => .inl hp)) z
    | ok ss e2 =>
      rw [eb] at q
      simp only at q
      intro vs F2 H2 g fps2 R2 ev2 hs2 nf2
      refine q (v :: vs) F2 H2 (f ++ g) fps2 (R2.frw fun p hp => ?_) (ev1.trans (ev2.weak fun p hp => .inl hp)) (.cons (hs1.car ev2.sF fun p hp => ev2.fr p (.inr hp)) hs2 fun p h1 h2 => nf2 p h2 (.inr h1)) fun p hp z => ?_
      · rcases hp with hp | hp
        · exact .inl (.inl hp)
        · rcases List.mem_append.mp hp with h | h
          · exact .inl (.inr h)
          · exact .inr h
      · rcases List.mem_append.mp hp with h | h
        · exact nf1 p h z
        · exact nf2 p h (.inl z)
def frzs : List Slot → Option (List D)
  | [] => some []
  | .frz d :: r => (frzs r).map fun ds => d :: ds
  | _ :: _ => none
def dats : List Slot → Option (List D)
  | [] => some []
  | s :: r => match s.dat with
    | some d => (dats r).map fun ds => d :: ds
    | none => none
theorem SlotsV.frzs {K : PySem.W.Frag} {F H : Hp} : ∀ {vs : List V} {ss : List Slot} {fp : List Addr} {ds : List D}, SlotsV K F H vs ss fp → G9.frzs ss = some ds → RVs K F vs ds ∧ fp = []
  | _, _, _, _, .nil, e => by simp only [G9.frzs, Option.some.injEq] at e; subst e; exact ⟨.nil, rfl⟩
  | _, _, _, ds, .cons (s := s) (ss := ss) h r _, e => by
    cases s with
    | frz d =>
      simp only [G9.frzs] at e
      cases e2 : G9.frzs ss with
      | none => rw [e2] at e; cases e
      | some ds2 =>
        rw [e2] at e
        cases e
        obtain ⟨a, b⟩ := SlotsV.frzs r e2
        exact ⟨.cons h.1 a, by rw [h.2, b]; rfl⟩
    | _ => cases e
theorem SlotsV.dats {K : PySem.W.Frag} {F H : Hp} : ∀ {vs : List V} {ss : List Slot} {fp : List Addr} {ds : List D}, SlotsV K F H vs ss fp → G9.dats ss = some ds → ROs K F H vs ds fp ∧ fp.Nodup
  | _, _, _, _, .nil, e => by simp only [G9.dats, Option.some.injEq] at e; subst e; exact ⟨.nil, by simp⟩
  | _, _, _, ds, .cons (s := s) (ss := ss) h r dj, e => by
    simp only [G9.dats] at e
    cases e1 : s.dat with
    | none => rw [e1] at e; cases e
    | some d =>
      rw [e1] at e
      cases e2 : G9.dats ss with
      | none => rw [e2] at e; cases e
      | some ds2 =>
        rw [e2] at e
        cases e
        obtain ⟨a, b⟩ := SlotsV.dats r e2
        obtain ⟨h1, h2⟩ := h.ro e1
        exact ⟨.cons h1 a, List.nodup_append.mpr ⟨h2, b, fun p hp q hq z => by subst z; exact dj p hp hq⟩⟩
theorem SlotsV.nt {K : PySem.W.Frag} {F H : Hp} : ∀ {vs : List V} {ss : List Slot} {fp : List Addr}, SlotsV K F H vs ss fp → ∀ p ∈ fp, Nt (H p)
  | _, _, _, .nil, p, hp => by cases hp
  | _, _, _, .cons h r _, p, hp => by
    rcases List.mem_append.mp hp with z | z
    · exact h.nt p z
    · exact SlotsV.nt r p z
theorem RE.more {K : PySem.W.Frag} {L : Nat → V} {F H : Hp} {fr : Addr → Prop} {σ : L2.St} {env : Env} {fps : Nat → List Addr} {p : Addr} {o : HO} (R : RE K L F H fr σ env fps) (n : H p = none) (ho : Nt (some o)) :
    RE K L (tkF F (upd H p o)) (upd H p o) (fun q => fr q ∨ q ∈ [p]) σ env fps := R.fresh (same_upd n) (fun q hq => by rw [List.mem_singleton.mp hq]; exact n) fun q hq => by rw [List.mem_singleton.mp hq, upd_same]; exact ho
def oTup (m : Env → AORes) : Env → ORes := fun env => match m env with
  | .bad => .bad
  | .er x e => .er x e
  | .ok ss e => if ss.length ≤ sizeLine then match frzs ss with
      | some ds => .ok (.frz (.tup ds)) e
      | none => match dats ss with
        | some ds => .ok (.own (.tup ds)) e
        | none => .bad
    else .bad
theorem SlotsV.len {K : PySem.W.Frag} {F H : Hp} : ∀ {vs : List V} {ss : List Slot} {fp : List Addr}, SlotsV K F H vs ss fp → vs.length = ss.length
  | _, _, _, .nil => rfl
  | _, _, _, .cons _ r _ => by rw [List.length_cons, List.length_cons, SlotsV.len r]
theorem do_tup {ma : Env → AORes} {x1} (h : DAo X es ma) : DO X (.Tuple es x1 pos) (oTup ma) := fun W tk => PEw (pe_tup (h W tk)) fun σ H Q ⟨L, F, fr, env, fps, R, q⟩ => by
  refine ⟨L, F, fr, env, fps, R, ?_⟩
  unfold oTup at q
  cases ea : ma env with
  | bad => rw [ea] at q; exact q
  | er x e' => rw [ea] at q; exact q
  | ok ss e1 =>
    rw [ea] at q
    simp only at q
    intro vs F1 H1 f fps1 R1 ev1 hs nf
    by_cases hl : ss.length ≤ sizeLine
    · rw [if_pos hl] at q
      refine ⟨by rw [hs.len]; exact hl, fun p n => ?_⟩
      have sm := same_upd (o := .tup vs) n
      have G := R1.grow sm
      have evG := ev1.trans ((Ev.grow R1 sm).weak fun p hp => .inl hp)
      have hp : tkF F1 (upd H1 p (.tup vs)) p = some (.tup vs) := by unfold tkF; rw [upd_same]
      have sF1 := tkF_ge (R1.sF.trans sm)
      cases e2 : frzs ss with
      | some ds =>
        rw [e2] at q
        obtain ⟨r, rfl⟩ := hs.frzs e2
        exact q _ _ _ [] fps1 (G.frw fun p hp => hp) evG ⟨.tup (.inl (.inl hp)) (r.mono sF1), rfl⟩ nf
      | none =>
        rw [e2] at q
        simp only at q
        cases e3 : dats ss with
        | none => rw [e3] at q; exact q.elim
        | some ds =>
          rw [e3] at q
          obtain ⟨r, nd⟩ := hs.dats e3
          have kp : ∀ q ∈ f, upd H1 p (.tup vs) q = H1 q := fun q hq => upd_ne fun z => by subst z; exact (hs.nt q hq).some n
          exact q _ _ _ f fps1 G evG ⟨.tup (.inl hp) (ROs.car (.of sF1) r kp), nd⟩ nf
    · rw [if_neg hl] at q; exact q.elim
def oLst (m : Env → AORes) : Env → ORes := fun env => match m env with
  | .bad => .bad
  | .er x e => .er x e
  | .ok ss e => if ss.length ≤ sizeLine then match dats ss with
      | some ds => .ok (.own (.lst ds)) e
      | none => match frzs ss with
        | some ds => .ok (.frz (.lst ds)) e
        | none => .bad
    else .bad
theorem do_lst {ma : Env → AORes} (h : DAo X es ma) : DO X (.List es pos) (oLst ma) := fun W tk => PEw (pe_lst (h W tk)) fun σ H Q ⟨L, F, fr, env, fps, R, q⟩ => by
  refine ⟨L, F, fr, env, fps, R, ?_⟩
  unfold oLst at q
  cases ea : ma env with
  | bad => rw [ea] at q; exact q
  | er x e' => rw [ea] at q; exact q
  | ok ss e1 =>
    rw [ea] at q
    simp only at q
    intro vs F1 H1 f fps1 R1 ev1 hs nf
    by_cases hl : ss.length ≤ sizeLine
    · rw [if_pos hl] at q
      refine ⟨by rw [hs.len]; exact hl, fun p n => ?_⟩
      have sm := same_upd (o := .lst vs) n
      have G := R1.more n (nt_lst (xs := vs) rfl)
      have evG := ev1.trans ((Ev.grow R1 sm).weak fun p hp => .inl hp)
      have sF1 := tkF_ge (R1.sF.trans sm)
      have np : ∀ q ∈ f, q ≠ p := fun q hq z => by subst z; exact (hs.nt q hq).some n
      have nfp : ¬ fr p := fun z => (R1.frd p (.inl z)).2.some n
      cases e2 : dats ss with
      | some ds =>
        rw [e2] at q
        obtain ⟨r, nd⟩ := hs.dats e2
        refine q _ _ _ (p :: f) fps1 (G.frw fun q hq => ?_) evG ⟨.lst upd_same (ROs.car (.of sF1) r fun q hq => upd_ne (np q hq)), List.nodup_cons.mpr ⟨fun z => np p z rfl, nd⟩⟩ fun q hq => ?_
        · rcases hq with hq | hq
          · exact .inl (.inl hq)
          · rcases List.mem_cons.mp hq with rfl | hq
            · exact .inr (List.mem_singleton.mpr rfl)
            · exact .inl (.inr hq)
        · rcases List.mem_cons.mp hq with rfl | hq
          · exact nfp
          · exact nf q hq
      | none =>
        rw [e2] at q
        simp only at q
        cases e3 : frzs ss with
        | none => rw [e3] at q; exact q.elim
        | some ds =>
          rw [e3] at q
          obtain ⟨r, rfl⟩ := hs.frzs e3
          have G2 := (G.frw (fr' := fun q => fr q ∨ q ∈ [p]) fun q hq => hq.elim (fun h => .inl (.inl h)) .inr).freeze fun q hq => by rw [List.mem_singleton.mp hq]; exact nfp
          have hn : ∀ q ∈ [p], tkF F1 (upd H1 p (.lst vs)) q = none := fun q hq => (G.frd q (.inr hq)).1
          refine q _ _ _ [] fps1 G2.nil ⟨evG.sF.trans (ovl_same hn), evG.tk, evG.fr⟩ ⟨.lst (.inl ?_) ((r.mono sF1).mono (ovl_same hn)), rfl⟩ fun q hq => by cases hq
          unfold ovl
          rw [if_pos (List.mem_singleton.mpr rfl), upd_same]
    · rw [if_neg hl] at q; exact q.elim
def fLst (m : Env → Res (List D)) : Env → Res (List D) := fun env => (m env).bind fun ds => if ds.length ≤ sizeLine then .ok ds else .bad
theorem df_lst (h : DA X es ms) : DF X (.List es pos) (fLst ms) := fun W tk => PEw (pe_lst (h W tk)) fun σ H Q ⟨L, F, fr, env, fps, R, q⟩ => by
  refine ⟨L, F, fr, env, fps, R, ?_⟩
  unfold fLst at q
  cases ea : ms env with
  | bad => rw [ea] at q; exact q
  | er x => rw [ea] at q; exact q
  | ok ds =>
    rw [ea] at q
    intro vs H1 s1 r
    simp only [Res.bind] at q
    by_cases hl : ds.length ≤ sizeLine
    · rw [if_pos hl] at q
      exact ⟨by rw [r.len]; exact hl, fun p n => q p vs H1 s1 n r⟩
    · rw [if_neg hl] at q; exact q.elim
def gLen : List D → Res D
  | [.str s] => if s.length ≤ sizeLine then .ok (.int s.length) else .bad
  | [.lst s] => .ok (.int s.length)
  | [.scr s] => .ok (.int s.length)
  | [.tup s] => .ok (.int s.length)
  | _ => .bad
theorem gLen_ne : ∀ x e, gLen x ≠ .er e := by
  intro x e
  unfold gLen
  split <;> (try split) <;> intro z <;> cases z
theorem ok_len {K : PySem.W.Frag} : C1ok K gLen (fun xs H Q => ∃ x n, xs = [x] ∧ LenV K x H n ∧ Q (.int n) H) := by
  intro H vs ds d Q r eg h
  unfold gLen at eg
  split at eg
  · rename_i s1
    cases r with
    | cons r1 r2 =>
      cases r2
      cases r1
      split at eg
      · rename_i hl
        cases eg
        have el : (⟨s1.toArray⟩ : Str).length = s1.length := by show s1.toArray.size = _; rw [List.size_toArray]
        exact ⟨_, _, rfl, ⟨by rw [el]; exact hl, rfl⟩, by rw [el]; exact h _ H (Same.refl H) (.int _)⟩
      · cases eg
  · cases r with
    | cons r1 r2 =>
      cases r2
      cases eg
      cases r1 with
      | lst g rr => exact ⟨_, _, rfl, .inl ⟨_, .inl g, rfl⟩, by rw [rr.len]; exact h _ H (Same.refl H) (.int _)⟩
  · cases r with
    | cons r1 r2 =>
      cases r2
      cases eg
      cases r1 with
      | scr g rr => exact ⟨_, _, rfl, .inl ⟨_, g.sq, rfl⟩, by rw [rr.len]; exact h _ H (Same.refl H) (.int _)⟩
  · cases r with
    | cons r1 r2 =>
      cases r2
      cases eg
      cases r1 with
      | tup g rr => exact ⟨_, _, rfl, .inr ⟨_, g, rfl⟩, by rw [rr.len]; exact h _ H (Same.refl H) (.int _)⟩
  · cases eg
def eLen := eCall gLen
theorem dv_len {p : Pos} (hg : Gl X "len") (hm : X.mg "len" = none) (ha : DA X (e :: es) ms) (he : starEach (e :: es) X.env = (false, eval e X.env) :: starEach es X.env := by rfl) (hpl : (backTo pos (starEach es X.env)).any (·.1) = false := by rfl) :
    DV X (.Call (.Name "len" p) (e :: es) [] pos) (eLen ms) := dv_callB call_len ok_len gLen_ne hg hm PySem.boot_len ha (by decide) (by decide) he hpl

def itemsD : D → Option (List D)
  | .lst xs => some xs
  | .scr xs => some xs
  | .tup xs => some xs
  | _ => none
def gTuple : List D → Res D
  | [d] => match itemsD d with
    | some xs => .ok (.tup xs)
    | none => .bad
  | _ => .bad
theorem gTuple_ne : ∀ x e, gTuple x ≠ .er e := by
  intro x e
  unfold gTuple
  split <;> (try split) <;> intro z <;> cases z
theorem ok_tuple {K : PySem.W.Frag} : C1ok K gTuple (fun xs H Q => ∃ p ys, xs = [.ref p] ∧ ((SqL K H p ys ∧ ∀ l, H l = none → Q (.ref l) (upd H l (.tup ys))) ∨ (SqT K H p ys ∧ Q (.ref p) H))) := by
  intro H vs ds d Q r eg h
  cases r with
  | nil => cases eg
  | cons r1 r2 =>
    cases r2 with
    | cons _ _ => cases eg
    | nil =>
      cases r1 with
      | lst g rr =>
        cases eg
        exact ⟨_, _, rfl, .inl ⟨.inl g, fun l n => h _ _ (same_upd n) (.tup (.inl (.inl upd_same)) (rr.mono (same_upd n)))⟩⟩
      | scr g rr =>
        cases eg
        exact ⟨_, _, rfl, .inl ⟨g.sq, fun l n => h _ _ (same_upd n) (.tup (.inl (.inl upd_same)) (rr.mono (same_upd n)))⟩⟩
      | tup g rr =>
        cases eg
        exact ⟨_, _, rfl, .inr ⟨g, h _ H (Same.refl H) (.tup g rr)⟩⟩
      | _ => cases eg
def eTuple := eCall gTuple
theorem dv_tuple {p : Pos} (hg : Gl X "tuple") (hm : X.mg "tuple" = none) (ha : DA X (e :: es) ms) (hv : bootBuiltins "tuple" = some (.type "tuple") := by decide +kernel) (he : starEach (e :: es) X.env = (false, eval e X.env) :: starEach es X.env := by rfl) (hpl : (backTo pos (starEach es X.env)).any (·.1) = false := by rfl) :
    DV X (.Call (.Name "tuple" p) (e :: es) [] pos) (eTuple ms) := dv_callTy call_tuple_of ok_tuple gTuple_ne hg hm hv ha (by decide) (by decide) he hpl
end
end G9

namespace G9
open PySem PySem.Spec PyProof.Rows L2
section
variable {X : Cx} {a b e : Expr} {pos p p' : Pos} {mv : Env → Res D} {es : List Expr} {ms : Env → Res (List D)}
def tyD : D → String
  | .non => "NoneType" | .bl _ => "bool" | .int _ => "int" | .str _ => "str" | .tup _ => "tuple" | .lst _ => "list" | .scr _ => "list" | .dic _ _ => "dict" | .obj _ _ _ => "dict" | .unk => "dict" | .exn _ => "dict" | .kt _ => "dict" | .ldt _ => "dict" | .ldk _ => "dict"
theorem RV.ty {K : PySem.W.Frag} {H : Hp} {v : V} {d : D} (r : RV K H v d) (nd : ∀ t kvs, d ≠ .dic t kvs) (no : ∀ c ks ds, d ≠ .obj c ks ds) (nu : d ≠ .unk) (ne : ∀ c, d ≠ .exn c) (nk : ∀ xs, d ≠ .kt xs) (nl : ∀ xs, d ≠ .ldt xs) (nm : ∀ xs, d ≠ .ldk xs) : TyX K H v (.type (tyD d)) := by
  cases r with
  | non => exact .base .non
  | bl b => exact .base (.bl b)
  | int i => exact .base (.int i)
  | str s => exact .base (.str _)
  | tup h _ =>
    rcases h with (h | ⟨o, h⟩) | ⟨o, its, n, h1, h2, _⟩
    · exact .base (.tup h)
    · exact .fTuple h
    · exact .kTuple h1 h2
  | lst h _ =>
    rcases h with h | ⟨o, h⟩
    · exact .base (.lst h)
    · exact .base (.frz h)
  | scr h _ =>
    rcases h with ⟨o, h⟩ | ⟨o, its, n, h1, h2, _⟩
    · exact .base (.frz h)
    · exact .kList h1 h2
  | dicK _ _ => exact absurd rfl (nd _ _)
  | dicT _ _ => exact absurd rfl (nd _ _)
  | obj _ _ _ _ => exact absurd rfl (no _ _ _)
  | unk => exact absurd rfl nu
  | exn _ _ => exact absurd rfl (ne _)
  | kt _ _ => exact absurd rfl (nk _)
  | ldt _ _ => exact absurd rfl (nl _)
  | ldk _ _ => exact absurd rfl (nm _)
def isTy (t n : String) : Bool := t == n || (t == "bool" && n == "int")
def tyNames : List String := ["NoneType", "bool", "int", "str", "tuple", "list", "dict"]
theorem kit_table : (tyNames.all fun t => ["bool", "int", "str", "tuple", "list", "dict"].all fun n => kitB t n == some (isTy t n)) = true := by decide +kernel
theorem kit_is {K : PySem.W.Frag} {t n : String} (h1 : t ∈ tyNames) (h2 : n ∈ ["bool", "int", "str", "tuple", "list", "dict"]) : PySem.W.kitOne K (.type t) (.type n) = some (isTy t n) := by
  refine kit_ty ?_
  have h := List.all_eq_true.mp kit_table t h1
  have h' := List.all_eq_true.mp h n h2
  exact eq_of_beq h'
theorem tyD_mem (d : D) : tyD d ∈ tyNames := by cases d <;> simp [tyD, tyNames]
def isDic : D → Bool
  | .dic _ _ => true
  | .obj _ _ _ => true
  | .unk => true
  | .exn _ => true
  | .kt _ => true
  | .ldt _ => true
  | .ldk _ => true
  | _ => false
def eIsi (n : String) (m : Env → Res D) : Env → Res D := fun env => (m env).bind fun d => if isDic d = true then .bad else .ok (.bl (isTy (tyD d) n))
theorem dv_isi {n : String} {x : Str} (hg : Gl X "isinstance") (hm : X.mg "isinstance" = none) (ha : DV X a mv) (hgt : Gl X x) (hmt : X.mg x = none) (hvt : bootBuiltins x = some (.type n)) (hn : n ∈ ["bool", "int", "str", "tuple", "list", "dict"] := by decide)
    (hn1 : x ≠ "__name__" := by decide) (hd1 : (x == ("__debug__" : Str)) = false := by decide) (hv : bootBuiltins "isinstance" = some (.builtin "isinstance") := by decide +kernel)
    (hs : starEach [.Name x p'] X.env = (false, eval (.Name x p') X.env) :: starEach [] X.env := by rfl)
    (he : starEach [a, .Name x p'] X.env = (false, eval a X.env) :: starEach [.Name x p'] X.env := by rfl) (hpl : (backTo pos (starEach [.Name x p'] X.env)).any (·.1) = false := by rfl) :
    DV X (.Call (.Name "isinstance" p) [a, .Name x p'] [] pos) (eIsi n mv) := fun W tk =>
  PEw (pe_callB call_isi hg hm hv (pa_cons (ha W tk) (pa_cons (pe_bltn (v := .ty n) hgt hmt hvt rfl hn1 hd1) pa_nil hs) he) (by decide) (by decide) he hpl) fun σ H Q ⟨L, F, fr, env, fps, R, q⟩ => by
  refine ⟨L, F, fr, env, fps, R, ?_⟩
  unfold eIsi at q
  cases ea : mv env with
  | bad => rw [ea] at q; exact q
  | er x => rw [ea] at q; exact q
  | ok d =>
    rw [ea] at q
    intro v H1 s1 r
    simp only [Res.bind] at q
    cases hd : isDic d with
    | true => rw [if_pos hd] at q; exact q.elim
    | false =>
      rw [if_neg (by rw [hd]; exact Bool.false_ne_true)] at q
      have nd : ∀ t kvs, d ≠ .dic t kvs := by intro t kvs z; subst z; cases hd
      have no : ∀ c ks ds, d ≠ .obj c ks ds := by intro c ks ds z; subst z; cases hd
      have nu : d ≠ .unk := by intro z; subst z; cases hd
      have ne : ∀ c, d ≠ .exn c := by intro c z; subst z; cases hd
      have nk : ∀ xs, d ≠ .kt xs := by intro c z; subst z; cases hd
      have nl : ∀ xs, d ≠ .ldt xs := by intro c z; subst z; cases hd
      have nm : ∀ xs, d ≠ .ldk xs := by intro c z; subst z; cases hd
      exact ⟨v, .ty n, .type (tyD d), .type n, _, rfl, .ty n, r.ty nd no nu ne nk nl nm, kit_is (tyD_mem d) hn, q _ H1 s1 (.bl _)⟩
def gMin : List D → Res D
  | [.int i, .int j] => .ok (.int (if j < i then j else i))
  | _ => .bad
theorem gMin_ne : ∀ x e, gMin x ≠ .er e := by intro x e; unfold gMin; split <;> intro z <;> cases z
theorem ok_min {K : PySem.W.Frag} : C1ok K gMin (fun xs H Q => ∃ i j, xs = [.int i, .int j] ∧ Q (.int (if j < i then j else i)) H) := by
  intro H vs ds d Q r eg h
  unfold gMin at eg
  split at eg
  · cases r with
    | cons r1 r2 =>
      cases r2 with
      | cons r2 r3 =>
        cases r3
        cases r1
        cases r2
        cases eg
        exact ⟨_, _, rfl, h _ H (Same.refl H) (.int _)⟩
  · cases eg
def eMin := eCall gMin
theorem dv_min (hc : X.calm = true) (hg : Gl X "min") (hm : X.mg "min" = none) (ha : DA X (e :: es) ms) (hv : bootBuiltins "min" = some (.builtin "min") := by decide +kernel) (he : starEach (e :: es) X.env = (false, eval e X.env) :: starEach es X.env := by rfl) (hpl : (backTo pos (starEach es X.env)).any (·.1) = false := by rfl) :
    DV X (.Call (.Name "min" p) (e :: es) [] pos) (eMin ms) := dv_callB (call_min2 hc) ok_min gMin_ne hg hm hv ha (by decide) (by decide) he hpl
end

def spLaw (K : PySem.W.Frag) : Sp := fun vs H Q _ => ∃ (a : Addr) (ns : List Int), vs = [.ref a] ∧ Only H ∧ SqL K H a (ns.map V.int) ∧ ns.length ≤ 63 ∧ ∀ H', Q (.bl true) H'
theorem rvs_ints {K : PySem.W.Frag} {H : Hp} : ∀ ns : List Int, RVs K H (ns.map V.int) (ns.map D.int)
  | [] => .nil
  | n :: ns => .cons (.int n) (rvs_ints ns)
theorem law_ok {P : Program} {w : World} {K : PySem.W.Frag} {mg : Str → Option Value} {base : Heap} {k : Nat} {f : Addr} {fd : FuncData} {ps : List Str} {m : List D → FRes} (h1 : ps.length = 1) (F : FnOk P w K mg base (L2.CX P w) k f fd ps (spD K mg ps.length m))
    (h : ∀ ns : List Int, ns.length ≤ 63 → m [.scr (ns.map D.int)] = .ok (.frz (.bl true))) : FnOk P w K mg base (L2.CX P w) k f fd ps (spLaw K) := F.imp fun vs H Q E hs => by
  obtain ⟨a, ns, rfl, hO, hS, hl, q⟩ := hs
  have sc : ScL K H a (ns.map V.int) := by
    rcases hS with (hS | ⟨o, hS⟩) | hS
    · rcases hO a with z | ⟨o, xs, z⟩ <;> rw [z] at hS <;> cases hS
    · exact .inl ⟨o, hS⟩
    · exact .inr hS
  refine ⟨h1.symm, H, [.scr (ns.map D.int)], Same.refl H, .refl, .cons (.scr sc (rvs_ints ns)) .nil, ?_⟩
  rw [h ns hl]
  intro v F' H' fp _ _ _ _ hs _ _
  cases hs.1
  exact q H'
end G9

namespace G9
open PySem PySem.Spec PyProof.Rows L2
inductive RR where
  | new (ds : List D) | old (d : D)
def tR (K : PySem.W.Frag) (mg : Str → Option Value) (W : WX) (m : Env → Res RR) : TE := fun σ H Q => ∃ L F fr env fps, RE K L F H fr σ env fps ∧
  match m env with
  | .bad => False
  | .er x => ∀ cls d H', Same H H' → ExR K mg x cls d H' → W cls d σ H'
  | .ok (.new ds) => ∀ p vs H1, Same H H1 → H1 p = none → RVs K H1 vs ds → Q (.ref p) (upd H1 p (.lst vs))
  | .ok (.old d) => ∀ v H', Same H H' → RV K H' v d → Q v H'
def DR (X : Cx) (e : Expr) (m : Env → Res RR) : Prop := ∀ W, Takes X W → PE X e (tR X.K X.mg W m)
section
variable {X : Cx} {a b e : Expr} {pos : Pos} {mr : Env → Res RR} {ma mb : Env → Res D}
def oR (m : Env → Res RR) : Env → ORes := fun env => match m env with
  | .bad => .bad
  | .er x => .er x env
  | .ok (.new ds) => if D.imms ds = true then .ok (.own (.lst ds)) env else .bad
  | .ok (.old d) => if d.imm = true then .ok (.frz d) env else .bad
theorem do_dr (h : DR X a mr) : DO X a (oR mr) := fun W tk => PEw (h W tk) fun σ H Q ⟨L, F, fr, env, fps, R, q⟩ => by
  refine ⟨L, F, fr, env, fps, R, ?_⟩
  unfold oR at q
  cases e : mr env with
  | bad => rw [e] at q; exact q
  | er x => rw [e] at q; exact fun cls d H' s z => q cls d _ H' fps (R.grow s) (Ev.grow R s) z
  | ok r =>
    rw [e] at q
    cases r with
    | new ds =>
      intro p vs H1 s n r
      simp only at q
      by_cases hi : D.imms ds = true
      · rw [if_pos hi] at q
        have s' := s.trans (same_upd (o := .lst vs) n)
        have f1 : ∀ q ∈ [p], H q = none := fun q hq => by rw [List.mem_singleton.mp hq]; exact s.free n
        have f2 : ∀ q ∈ [p], Nt (upd H1 p (.lst vs) q) := fun q hq => by rw [List.mem_singleton.mp hq]; exact nt_lst upd_same
        refine q _ _ _ [p] fps (R.fresh s' f1 f2) (Ev.grow R s') ⟨?_, by simp⟩ (R.nofr f1)
        exact .lst upd_same (ROs.of_imm ((r.mono (same_upd n)).chg tkF_tk hi) hi)
      · rw [if_neg hi] at q; exact q.elim
    | old d =>
      intro v H1 s r
      simp only at q
      by_cases hi : d.imm = true
      · rw [if_pos hi] at q
        exact q v _ H1 [] fps (R.grow s).nil (Ev.grow R s) ⟨r.chg tkF_tk hi, rfl⟩ (fun p hp => by cases hp)
      · rw [if_neg hi] at q; exact q.elim
def RRok (K : PySem.W.Frag) (H : Hp) (Q : VK) : RR → Prop
  | .new ds => ∀ p vs H1, Same H H1 → H1 p = none → RVs K H1 vs ds → Q (.ref p) (upd H1 p (.lst vs))
  | .old d => ∀ v H', Same H H' → RV K H' v d → Q v H'
def R2okR (K : PySem.W.Frag) (g : D → D → Res RR) (r : R2) : Prop := ∀ (H : Hp) (x y : V) (dx dy : D) (d : RR) (Q : VK), RV K H x dx → RV K H y dy → g dx dy = .ok d → RRok K H Q d → r x y H Q
def m2R (g : D → D → Res RR) (a b : Env → Res D) : Env → Res RR := fun env => (a env).bind fun x => (b env).bind fun y => g x y
theorem r2_ofR {K : PySem.W.Frag} {mg : Str → Option Value} {W : WX} {g : D → D → Res RR} {r : R2} (ok : R2okR K g r) (ne : ∀ x y e, g x y ≠ .er e) {σ : L2.St} {H : Hp} {Q : VK} (h : tR K mg W (m2R g ma mb) σ H Q) :
    tOp r (tV K mg W ma) (tV K mg W mb) σ H Q := by
  obtain ⟨L, F, fr, env, fps, R, q⟩ := h
  refine ⟨L, F, fr, env, fps, R, ?_⟩
  unfold m2R at q
  cases ea : ma env with
  | bad => rw [ea] at q; exact q
  | er x => rw [ea] at q; exact q
  | ok da =>
    rw [ea] at q
    intro x H1 s1 rx
    refine tV_re R s1 ?_
    simp only [Res.bind] at q
    cases eb : mb env with
    | bad => rw [eb] at q; exact q
    | er e => rw [eb] at q; exact fun cls d H2 s2 z => q cls d H2 (s1.trans s2) z
    | ok db =>
      rw [eb] at q
      intro y H2 s2 ry
      simp only at q
      have s12 := s1.trans s2
      cases eg : g da db with
      | bad => rw [eg] at q; exact q.elim
      | er e => exact absurd eg (ne _ _ _)
      | ok d =>
        rw [eg] at q
        refine ok H2 x y da db d Q (rx.mono s2) ry eg ?_
        cases d with
        | new ds => exact fun p vs H3 s3 n r => q p vs H3 (s12.trans s3) n r
        | old d => exact fun v H3 s3 r => q v H3 (s12.trans s3) r
theorem dr_bin {op : Operator} {g : D → D → Res RR} {r : R2} (ho : OpR X (binaryOp op) r) (ok : R2okR X.K g r) (ne : ∀ x y e, g x y ≠ .er e) (ha : DV X a ma) (hb : DV X b mb) : DR X (.BinOp a op b pos) (m2R g ma mb) := fun W tk =>
  PEw (pe_op ho (ha W tk) (hb W tk)) fun σ H Q h => r2_ofR ok ne h
def gAddR : D → D → Res RR
  | .int i, .int j => .ok (.old (.int (i + j)))
  | .str s, .str t => if s.length + t.length ≤ sizeLine then .ok (.old (.str (s ++ t))) else .bad
  | .lst s, .lst t => if s.length + t.length ≤ sizeLine then .ok (.new (s ++ t)) else .bad
  | .tup s, .tup t => if s.length + t.length ≤ sizeLine then .ok (.old (.tup (s ++ t))) else .bad
  | _, _ => .bad
theorem gAddR_ne : ∀ x y e, gAddR x y ≠ .er e := by
  intro x y e
  unfold gAddR
  split <;> (try split) <;> intro z <;> cases z
theorem ok_addR {K : PySem.W.Frag} : R2okR K gAddR (rAddA K) := by
  intro H x y dx dy d Q hx hy eg h
  cases hx with
  | int i =>
    cases hy <;> simp only [gAddR, reduceCtorEq, Res.ok.injEq] at eg
    subst eg
    exact .inl (.inl ⟨_, _, rfl, rfl, h _ H (Same.refl H) (.int _)⟩)
  | str s =>
    cases hy <;> simp only [gAddR, reduceCtorEq] at eg
    rename_i t
    split at eg
    · rename_i hl
      cases eg
      refine .inl (.inr ⟨_, _, rfl, rfl, by show s.toArray.size + t.toArray.size ≤ _; simpa using hl, ?_⟩)
      rw [str_app]
      exact h _ H (Same.refl H) (.str _)
    · cases eg
  | lst hr rr =>
    cases hy with
    | lst hr' rr' =>
      simp only [gAddR] at eg
      split at eg
      · rename_i hl
        cases eg
        exact .inr (.inl ⟨_, _, _, _, rfl, rfl, hr, hr', by rw [rr.len, rr'.len]; exact hl, fun p hp => h p _ H (Same.refl H) hp (rr.app rr')⟩)
      · cases eg
    | _ => simp only [gAddR, reduceCtorEq] at eg
  | tup hr rr =>
    cases hy with
    | tup hr' rr' =>
      simp only [gAddR] at eg
      split at eg
      · rename_i hl
        cases eg
        refine .inr (.inr ⟨_, _, _, _, rfl, rfl, hr, hr', by rw [rr.len, rr'.len]; exact hl, fun z => ?_, fun z1 z2 => ?_, fun z1 z2 p hp => ?_⟩)
        · have e2 := rr.nil_iff.mp z
          rw [e2, List.nil_append] at h
          exact h _ H (Same.refl H) (.tup hr' rr')
        · have e2 := rr'.nil_iff.mp z2
          rw [e2, List.append_nil] at h
          exact h _ H (Same.refl H) (.tup hr rr)
        · exact h _ _ (same_upd hp) (.tup (.inl (.inl upd_same)) ((rr.mono (same_upd hp)).app (rr'.mono (same_upd hp))))
      · cases eg
    | _ => simp only [gAddR, reduceCtorEq] at eg
  | _ => simp only [gAddR, reduceCtorEq] at eg
def rAdd2 := m2R gAddR
theorem dr_add (ha : DV X a ma) (hb : DV X b mb) : DR X (.BinOp a .Add b pos) (rAdd2 ma mb) := dr_bin op_addA ok_addR gAddR_ne ha hb
end
end G9

namespace G9
open PySem PySem.Spec PyProof.Rows L2
theorem un_of {k : Nat} {A : Around} (hr : Room k A) : A.units + (16 * k + 200) < cLine := by have := hr.un; omega
theorem cx_false {P : Program} {w : World} {l : List PySem.Env} {H : Hp} {s s' : Shared} {e : Value} (h : L2.CX P w l H s (fun _ _ _ => False) e s') : False := by
  obtain ⟨_, _, _, _, _, _, _, _, _, _, _, _, z⟩ := h
  exact z
theorem aL_n : ∀ (env : Env) (ds : List D), aNil env = .ok ds → ds.length = 0 := by
  intro env ds h
  cases h
  rfl
theorem aL_c {x : Env → Res D} {r : Env → Res (List D)} {n : Nat} (h : ∀ (env : Env) (ds : List D), r env = .ok ds → ds.length = n) : ∀ (env : Env) (ds : List D), aCons x r env = .ok ds → ds.length = n + 1 := by
  intro env ds e
  unfold aCons at e
  cases e1 : x env with
  | bad => rw [e1] at e; cases e
  | er _ => rw [e1] at e; cases e
  | ok d =>
    rw [e1] at e
    simp only [Res.bind] at e
    cases e2 : r env with
    | bad => rw [e2] at e; cases e
    | er _ => rw [e2] at e; cases e
    | ok t =>
      rw [e2] at e
      cases e
      rw [List.length_cons, h env t e2]
section
variable {X : Cx} {a b e : Expr} {pos : Pos} {ma mv : Env → Res D} {mo : Env → ORes} {mp : Env → Res (Nat × List Step)} {g : D → Env → Option Env}
def oFz (i : Nat) : Env → ORes := fun env => match env[i]? with
  | some (.frz d) => .ok (.frz d) env
  | some (.own d) => .ok (.frz d) (env.set i (.frz d))
  | _ => .bad
theorem set_same {α : Type} {l : List α} {i : Nat} {x : α} (h : l[i]? = some x) : l.set i x = l := by
  apply List.ext_getElem?
  intro j
  by_cases hj : i = j
  · subst hj
    rw [List.getElem?_set_self (List.getElem?_eq_some_iff.mp h).1, h]
  · rw [List.getElem?_set_ne hj]
theorem RE.fz {K : PySem.W.Frag} {L : Nat → V} {F H : Hp} {fr : Addr → Prop} {σ : L2.St} {env : Env} {fps : Nat → List Addr} {i : Nat} {d : D} {v : V} (R : RE K L F H fr σ env fps) (h : env[i]? = some (.own d)) (hv : σ[i]? = some (some v)) :
    RV K (ovl F H (fps i)) v d ∧ Ev F H fr (ovl F H (fps i)) H ∧ ∃ fps', RE K L (ovl F H (fps i)) H fr σ (env.set i (.frz d)) fps' := by
  obtain ⟨v', hv', ro, nd⟩ := R.get h (.inr ⟨d, rfl⟩)
  rw [hv] at hv'; cases hv'
  have nf : ∀ p ∈ fps i, ¬ fr p := fun p hp => (R.off i p hp).2.1
  have hn : ∀ p ∈ fps i, F p = none := fun p hp => (R.off i p hp).1
  have rv : RV K (ovl F H (fps i)) v d := RO.freeze (ovl_same hn) ro fun p hp => by unfold ovl; rw [if_pos hp]
  have R1 := (R.take h (.inl rfl)).freeze nf
  have il : i < env.length := (List.getElem?_eq_some_iff.mp h).1
  have R2 := R1.setF (i := i) rv (by rw [List.length_set]; exact il)
  rw [List.set_set, set_same hv] at R2
  exact ⟨rv, ⟨ovl_same hn, .refl, fun _ _ => rfl⟩, _, R2⟩
theorem do_fz (i : Nat) {x : Str} {pos : Pos} (hN : X.N[i]? = some x := by rfl) (hv : Vis X.env.scope x := by first | exact Or.inl rfl | exact Or.inr (Or.inl rfl) | exact Or.inr (Or.inr rfl)) (hd : (x == ("__debug__" : Str)) = false := by decide)
    (hcd : (x == ("__classdict__" : Str)) = false := by decide) : DO X (.Name x pos) (oFz i) := fun W _ => PEw (pe_var hN hv hd hcd) fun σ H Q ⟨L, F, fr, env, fps, R, q⟩ => by
  cases e : env[i]? with
  | none => unfold oFz at q; rw [e] at q; exact q.elim
  | some sl =>
    unfold oFz at q
    rw [e] at q
    cases sl with
    | dead => exact q.elim
    | lck => exact q.elim
    | pin _ => exact q.elim
    | frz d =>
      obtain ⟨v, a, b⟩ := R.get e (.inl ⟨d, rfl⟩)
      have b' : SlotV X.K F H v (.frz d) [] := ⟨b.1, rfl⟩
      exact ⟨v, a, q v F H [] fps R.nil Ev.refl b' (fun p hp => by cases hp)⟩
    | own d =>
      obtain ⟨v, a, b⟩ := R.get e (.inr ⟨d, rfl⟩)
      obtain ⟨rv, ev, f2, R2⟩ := R.fz e a
      have b' : SlotV X.K (ovl F H (fps i)) H v (.frz d) [] := ⟨rv, rfl⟩
      exact ⟨v, a, q v _ H [] f2 R2.nil ev b' (fun p hp => by cases hp)⟩
end
end G9

namespace G9
open PySem PySem.Spec PyProof.Rows L2
section
variable {α β : Type}
@[simp] theorem bind_ok (a : α) (f : α → Res β) : (Res.ok a).bind f = f a := (rfl)
@[simp] theorem bind_er (x : Exn) (f : α → Res β) : (Res.er x : Res α).bind f = .er x := (rfl)
@[simp] theorem bind_bad (f : α → Res β) : (Res.bad : Res α).bind f = .bad := (rfl)
@[simp] theorem sSeq_d (x y : Env → Out) (env : Env) : sSeq x y env = match x env with | .nx e => y e | r => r := (rfl)
@[simp] theorem sNext_d (env : Env) : sNext env = .nx env := (rfl)
@[simp] theorem sRet_d (m : Env → ORes) (env : Env) : sRet m env = match m env with | .ok s e => .rt s e | .er x e => .er x e | .bad => .bad := (rfl)
@[simp] theorem sExpr_d (m : Env → ORes) (env : Env) : sExpr m env = match m env with | .ok _ e => .nx e | .er x e => .er x e | .bad => .bad := (rfl)
@[simp] theorem sSet_d (i : Nat) (m : Env → ORes) (env : Env) : sSet i m env = match m env with | .ok s e => if i < e.length then .nx (e.set i s) else .bad | .er x e => .er x e | .bad => .bad := (rfl)
@[simp] theorem sIf_d (c : Env → Res Bool) (x y : Env → Out) (env : Env) : sIf c x y env = match c env with | .ok true => x env | .ok false => y env | .er e => .er e env | .bad => .bad := (rfl)
@[simp] theorem mC_d (d : D) (env : Env) : mC d env = .ok d := (rfl)
@[simp] theorem mVar_d (i : Nat) (env : Env) : mVar i env = match env[i]? with | some (.frz d) => .ok d | some (.own d) => .ok d | some (.pin d) => .ok d | _ => .bad := (rfl)
@[simp] theorem m2_d (g : D → D → Res D) (a b : Env → Res D) (env : Env) : m2 g a b env = (a env).bind fun x => (b env).bind fun y => g x y := (rfl)
@[simp] theorem mB_d (m : Env → Res D) (env : Env) : mB m env = (m env).bind fun d => match d with | .bl b => .ok b | _ => .bad := (rfl)
@[simp] theorem bAnd_d (x y : Env → Res Bool) (env : Env) : bAnd x y env = (x env).bind fun c => if c = true then y env else .ok false := (rfl)
@[simp] theorem bOr_d (x y : Env → Res Bool) (env : Env) : bOr x y env = (x env).bind fun c => if c = true then .ok true else y env := (rfl)
@[simp] theorem bNot_d (x : Env → Res Bool) (env : Env) : bNot x env = (x env).bind fun c => .ok (!c) := (rfl)
@[simp] theorem eAnd_d (x y : Env → Res D) (env : Env) : eAnd x y env = (x env).bind fun c => match c with | .bl true => y env | .bl false => .ok (.bl false) | _ => .bad := (rfl)
@[simp] theorem eNot_d (x : Env → Res D) (env : Env) : eNot x env = (x env).bind fun c => match c with | .bl k => .ok (.bl (!k)) | _ => .bad := (rfl)
@[simp] theorem eAdd_d (a b : Env → Res D) (env : Env) : eAdd a b env = (a env).bind fun x => (b env).bind fun y => gAdd x y := (rfl)
@[simp] theorem eSub_d (a b : Env → Res D) (env : Env) : eSub a b env = (a env).bind fun x => (b env).bind fun y => gI (fun _ _ => true) (fun i j => .int (i - j)) x y := (rfl)
@[simp] theorem eMul_d (a b : Env → Res D) (env : Env) : eMul a b env = (a env).bind fun x => (b env).bind fun y => gMul x y := (rfl)
@[simp] theorem eFdiv_d (a b : Env → Res D) (env : Env) : eFdiv a b env = (a env).bind fun x => (b env).bind fun y => gI cDiv (fun i j => .int (i / j)) x y := (rfl)
@[simp] theorem eMod_d (a b : Env → Res D) (env : Env) : eMod a b env = (a env).bind fun x => (b env).bind fun y => gI cMod (fun i j => .int (i % j)) x y := (rfl)
@[simp] theorem eEq_d (B : Nat) (a b : Env → Res D) (env : Env) : eEq B a b env = (a env).bind fun x => (b env).bind fun y => gEq B x y := (rfl)
@[simp] theorem eNe_d (B : Nat) (a b : Env → Res D) (env : Env) : eNe B a b env = (a env).bind fun x => (b env).bind fun y => gNe B x y := (rfl)
@[simp] theorem eLt_d (a b : Env → Res D) (env : Env) : eLt a b env = (a env).bind fun x => (b env).bind fun y => gLt x y := (rfl)
@[simp] theorem eGt_d (a b : Env → Res D) (env : Env) : eGt a b env = (a env).bind fun x => (b env).bind fun y => gGt x y := (rfl)
@[simp] theorem gI_ii (C : Int → Int → Bool) (f : Int → Int → D) (i j : Int) : gI C f (.int i) (.int j) = if C i j = true then .ok (f i j) else .bad := (rfl)
@[simp] theorem gLt_ii (i j : Int) : gLt (.int i) (.int j) = .ok (.bl (decide (i < j))) := (rfl)
@[simp] theorem gGt_ii (i j : Int) : gGt (.int i) (.int j) = .ok (.bl (decide (j < i))) := (rfl)
@[simp] theorem gAdd_ii (i j : Int) : gAdd (.int i) (.int j) = .ok (.int (i + j)) := (rfl)
@[simp] theorem gAdd_ss (s t : List Nat) : gAdd (.str s) (.str t) = if s.length + t.length ≤ sizeLine then .ok (.str (s ++ t)) else .bad := (rfl)
@[simp] theorem gAdd_ll (s t : List D) : gAdd (.lst s) (.lst t) = if s.length + t.length ≤ sizeLine then .ok (.lst (s ++ t)) else .bad := (rfl)
@[simp] theorem gAdd_tt (s t : List D) : gAdd (.tup s) (.tup t) = if s.length + t.length ≤ sizeLine then .ok (.tup (s ++ t)) else .bad := (rfl)
@[simp] theorem gAddR_ii (i j : Int) : gAddR (.int i) (.int j) = .ok (.old (.int (i + j))) := (rfl)
@[simp] theorem gAddR_ss (s t : List Nat) : gAddR (.str s) (.str t) = if s.length + t.length ≤ sizeLine then .ok (.old (.str (s ++ t))) else .bad := (rfl)
@[simp] theorem gAddR_ll (s t : List D) : gAddR (.lst s) (.lst t) = if s.length + t.length ≤ sizeLine then .ok (.new (s ++ t)) else .bad := (rfl)
@[simp] theorem gAddR_tt (s t : List D) : gAddR (.tup s) (.tup t) = if s.length + t.length ≤ sizeLine then .ok (.old (.tup (s ++ t))) else .bad := (rfl)
theorem p62 : (2 : Int) ^ 62 = 4611686018427387904 := by decide
theorem p63 : (2 : Int) ^ 63 = 9223372036854775808 := by decide
theorem p64 : (2 : Int) ^ 64 = 18446744073709551616 := by decide
@[simp] theorem gMul_ii (i j : Int) : gMul (.int i) (.int j) = if cMul i j = true then .ok (.int (i * j)) else .bad := (rfl)
@[simp] theorem gMul_si (s : List Nat) (k : Int) : gMul (.str s) (.int k) = if -(9223372036854775808) ≤ k ∧ k < 9223372036854775808 ∧ s.length * k.toNat ≤ sizeLine then .ok (.str (List.replicate k.toNat s).flatten) else .bad := by
  have e : gMul (.str s) (.int k) = if -(2 ^ 63) ≤ k ∧ k < 2 ^ 63 ∧ s.length * k.toNat ≤ sizeLine then .ok (.str (List.replicate k.toNat s).flatten) else .bad := by
    by_cases h : -(2 ^ 63) ≤ k ∧ k < 2 ^ 63 ∧ s.length * k.toNat ≤ sizeLine
    · rw [if_pos h]
      exact if_pos h
    · rw [if_neg h]
      exact if_neg h
  rw [e]
  simp only [p63]
@[simp] theorem gMul_li (s : List D) (k : Int) : gMul (.lst s) (.int k) = if -(9223372036854775808) ≤ k ∧ k < 9223372036854775808 ∧ s.length * k.toNat ≤ sizeLine then .ok (.lst (List.replicate k.toNat s).flatten) else .bad := by
  have e : gMul (.lst s) (.int k) = if -(2 ^ 63) ≤ k ∧ k < 2 ^ 63 ∧ s.length * k.toNat ≤ sizeLine then .ok (.lst (List.replicate k.toNat s).flatten) else .bad := by
    by_cases h : -(2 ^ 63) ≤ k ∧ k < 2 ^ 63 ∧ s.length * k.toNat ≤ sizeLine
    · rw [if_pos h]
      exact if_pos h
    · rw [if_neg h]
      exact if_neg h
  rw [e]
  simp only [p63]
@[simp] theorem gEq_ii (B : Nat) (i j : Int) : gEq B (.int i) (.int j) = .ok (.bl (decide (i = j))) := (rfl)
@[simp] theorem gEq_bb (B : Nat) (i j : Bool) : gEq B (.bl i) (.bl j) = .ok (.bl (decide (i = j))) := (rfl)
@[simp] theorem gEq_ss (B : Nat) (i j : List Nat) : gEq B (.str i) (.str j) = .ok (.bl (decide (i = j))) := (rfl)
@[simp] theorem gNe_ii (B : Nat) (i j : Int) : gNe B (.int i) (.int j) = .ok (.bl (!decide (i = j))) := (rfl)
@[simp] theorem gNe_bb (B : Nat) (i j : Bool) : gNe B (.bl i) (.bl j) = .ok (.bl (!decide (i = j))) := (rfl)
@[simp] theorem gNe_ss (B : Nat) (i j : List Nat) : gNe B (.str i) (.str j) = .ok (.bl (!decide (i = j))) := (rfl)
theorem pr_d {p : Prop} [Decidable p] : pr p = decide p := by
  by_cases h : p <;> simp [pr, h]
@[simp] theorem cDiv_d (i j : Int) : cDiv i j = decide (0 < j ∧ j < 1073741824) := by unfold cDiv; exact pr_d
@[simp] theorem cMod_d (i j : Int) : cMod i j = decide (0 < j) := by unfold cMod; exact pr_d
@[simp] theorem cMul_d (i j : Int) : cMul i j = (decide (-18446744073709551616 < i ∧ i < 18446744073709551616) || decide (-18446744073709551616 < j ∧ j < 18446744073709551616)) := by
  unfold cMul
  rw [pr_d, pr_d]
  simp only [p64]
@[simp] theorem aNil_d (env : Env) : aNil env = .ok [] := (rfl)
@[simp] theorem aCons_d (x : Env → Res D) (r : Env → Res (List D)) (env : Env) : aCons x r env = (x env).bind fun d => (r env).bind fun ds => .ok (d :: ds) := (rfl)
@[simp] theorem eCall_d (g : List D → Res D) (m : Env → Res (List D)) (env : Env) : eCall g m env = (m env).bind g := (rfl)
@[simp] theorem eLen_d (m : Env → Res (List D)) (env : Env) : eLen m env = (m env).bind gLen := (rfl)
@[simp] theorem gLen_s (s : List Nat) : gLen [.str s] = if s.length ≤ sizeLine then .ok (.int s.length) else .bad := (rfl)
@[simp] theorem gLen_l (s : List D) : gLen [.lst s] = .ok (.int s.length) := (rfl)
@[simp] theorem gLen_c (s : List D) : gLen [.scr s] = .ok (.int s.length) := (rfl)
@[simp] theorem gLen_t (s : List D) : gLen [.tup s] = .ok (.int s.length) := (rfl)
@[simp] theorem eMin_d (m : Env → Res (List D)) (env : Env) : eMin m env = (m env).bind gMin := (rfl)
@[simp] theorem gMin_d (i j : Int) : gMin [.int i, .int j] = .ok (.int (if j < i then j else i)) := (rfl)
@[simp] theorem eTuple_d (m : Env → Res (List D)) (env : Env) : eTuple m env = (m env).bind gTuple := (rfl)
@[simp] theorem gTuple_d (d : D) : gTuple [d] = match itemsD d with | some xs => .ok (.tup xs) | none => .bad := (rfl)
@[simp] theorem itemsD_l (xs : List D) : itemsD (.lst xs) = some xs := (rfl)
@[simp] theorem itemsD_c (xs : List D) : itemsD (.scr xs) = some xs := (rfl)
@[simp] theorem itemsD_t (xs : List D) : itemsD (.tup xs) = some xs := (rfl)
@[simp] theorem fLst_d (m : Env → Res (List D)) (env : Env) : fLst m env = (m env).bind fun ds => if ds.length ≤ sizeLine then .ok ds else .bad := (rfl)
@[simp] theorem vL_d (m : Env → Res (List D)) (env : Env) : vL m env = (m env).bind fun ds => .ok (.lst ds) := (rfl)
@[simp] theorem oL_d (m : Env → Res (List D)) (env : Env) : oL m env = match m env with | .ok ds => if D.imms ds = true then .ok (.own (.lst ds)) env else .bad | .er x => .er x env | .bad => .bad := (rfl)
@[simp] theorem oV_d (m : Env → Res D) (env : Env) : oV m env = match m env with | .ok d => if d.imm = true then .ok (.frz d) env else .bad | .er x => .er x env | .bad => .bad := (rfl)
@[simp] theorem oP_d (m : Env → Res (Bool × D)) (env : Env) : oP m env = match m env with | .ok d => if d.1 = true ∨ d.2.imm = true then .ok (.frz d.2) env else .bad | .er x => .er x env | .bad => .bad := (rfl)
@[simp] theorem vP_d (m : Env → Res (Bool × D)) (env : Env) : vP m env = (m env).bind fun d => .ok d.2 := (rfl)
@[simp] theorem pVar_d (i : Nat) (env : Env) : pVar i env = match env[i]? with | some (.frz d) => .ok (true, d) | some (.own d) => .ok (false, d) | some (.pin d) => .ok (false, d) | _ => .bad := (rfl)
@[simp] theorem pIx_d (m : Env → Res (Bool × D)) (x : Env → Res D) (env : Env) : pIx m x env = (m env).bind fun d => (x env).bind fun k => match k with | .int i => (match itemD d.2 i with | some e => .ok (d.1, e) | none => .bad) | _ => .bad := (rfl)
@[simp] theorem itemD_t (xs : List D) (i : Int) : itemD (.tup xs) i = atI xs i := (rfl)
@[simp] theorem itemD_l (xs : List D) (i : Int) : itemD (.lst xs) i = atI xs i := (rfl)
@[simp] theorem itemD_c (xs : List D) (i : Int) : itemD (.scr xs) i = atI xs i := (rfl)
@[simp] theorem itemD_k (xs : List D) (i : Int) : itemD (.kt xs) i = atI xs i := (rfl)
@[simp] theorem itemD_s (xs : List Nat) (i : Int) : itemD (.str xs) i = if xs.length ≤ sizeLine then (atI xs i).map fun c => .str [c] else none := (rfl)
theorem atI_nn {xs : List α} (n : Nat) : atI xs (n : Int) = xs[n]? := by
  unfold atI ixN
  rw [if_pos (by omega)]
  by_cases h : n < xs.length
  · rw [if_pos (by omega)]
    simp
  · rw [if_neg (by omega)]
    simp only [Option.bind_none]
    exact (List.getElem?_eq_none (by omega)).symm
theorem atI_pos {xs : List α} {i : Int} (h : 0 ≤ i) : atI xs i = xs[i.toNat]? := by
  obtain ⟨n, rfl⟩ := Int.eq_ofNat_of_zero_le h
  rw [atI_nn]
  simp
@[simp] theorem atI_0 (xs : List α) : atI xs 0 = xs[0]? := atI_nn 0
@[simp] theorem atI_1 (xs : List α) : atI xs 1 = xs[1]? := atI_nn 1
@[simp] theorem atI_2 (xs : List α) : atI xs 2 = xs[2]? := atI_nn 2
@[simp] theorem atI_3 (xs : List α) : atI xs 3 = xs[3]? := atI_nn 3
theorem atI_neg1 {xs : List α} : atI xs (-1) = xs.getLast? := by
  unfold atI ixN
  rw [if_neg (by omega)]
  cases xs with
  | nil => rfl
  | cons x r =>
    rw [if_pos (by simp; omega)]
    simp only [Option.bind_some]
    rw [List.getLast?_eq_getElem?]
    congr 1
    simp
    omega
@[simp] theorem oR_d (m : Env → Res RR) (env : Env) : oR m env = match m env with | .bad => .bad | .er x => .er x env | .ok (.new ds) => if D.imms ds = true then .ok (.own (.lst ds)) env else .bad | .ok (.old d) => if d.imm = true then .ok (.frz d) env else .bad := (rfl)
@[simp] theorem rAdd2_d (a b : Env → Res D) (env : Env) : rAdd2 a b env = (a env).bind fun x => (b env).bind fun y => gAddR x y := (rfl)
@[simp] theorem oVar_d (i : Nat) (env : Env) : oVar i env = match env[i]? with | some (.frz d) => .ok (.frz d) env | some (.own d) => .ok (.own d) (env.set i .dead) | _ => .bad := (rfl)
@[simp] theorem oFz_d (i : Nat) (env : Env) : oFz i env = match env[i]? with | some (.frz d) => .ok (.frz d) env | some (.own d) => .ok (.frz d) (env.set i (.frz d)) | _ => .bad := (rfl)
@[simp] theorem vF_d (fm : List D → FRes) (m : Env → Res (List D)) (env : Env) : vF fm m env = (m env).bind fun ds => match fm ds with | .ok (.frz d) => .ok d | .ok (.own d) => .ok d | .er x => .er x | _ => .bad := (rfl)
@[simp] theorem oF_d (fm : List D → FRes) (m : Env → Res (List D)) (env : Env) : oF fm m env = match m env with | .ok ds => (match fm ds with | .ok (.frz d) => if d.imm = true then .ok (.frz d) env else .bad | .ok (.own d) => .ok (.own d) env | .er x => .er x env | _ => .bad) | .er x => .er x env | .bad => .bad := (rfl)
@[simp] theorem fnOf_d (n : Nat) (body : Env → Out) (ds : List D) : fnOf n body ds = match body (ds.map .frz ++ List.replicate (n - ds.length) .dead) with | .rt s _ => .ok s | .nx _ => .ok (.frz .non) | .er x _ => .er x | _ => .bad := (rfl)
@[simp] theorem eIsi_d (n : String) (m : Env → Res D) (env : Env) : eIsi n m env = (m env).bind fun d => if isDic d = true then .bad else .ok (.bl (isTy (tyD d) n)) := (rfl)
@[simp] theorem imm_non : D.imm .non = true := by rw [D.imm]
@[simp] theorem imm_bl (b : Bool) : D.imm (.bl b) = true := by rw [D.imm]
@[simp] theorem imm_int (i : Int) : D.imm (.int i) = true := by rw [D.imm]
@[simp] theorem imm_str (s : List Nat) : D.imm (.str s) = true := by rw [D.imm]
@[simp] theorem imm_lst (s : List D) : D.imm (.lst s) = false := by rw [D.imm]
@[simp] theorem imm_tup (s : List D) : D.imm (.tup s) = D.imms s := by rw [D.imm]
@[simp] theorem imm_scr (s : List D) : D.imm (.scr s) = D.imms s := by rw [D.imm]
@[simp] theorem imms_nil : D.imms [] = true := by rw [D.imms]
@[simp] theorem imms_cns (x : D) (s : List D) : D.imms (x :: s) = (x.imm && D.imms s) := imms_cons
@[simp] theorem imms_app : ∀ (s t : List D), D.imms (s ++ t) = (D.imms s && D.imms t)
  | [], t => by simp
  | x :: s, t => by rw [List.cons_append, imms_cns, imms_app s t, imms_cns, Bool.and_assoc]
theorem imms_all : ∀ (s : List D), D.imms s = s.all D.imm
  | [] => rfl
  | x :: s => by rw [imms_cns, imms_all s, List.all_cons]
@[simp] theorem imms_map {γ : Type} {f : γ → D} (h : ∀ x, (f x).imm = true) (l : List γ) : D.imms (l.map f) = true := by
  rw [imms_all, List.all_map, List.all_eq_true]
  exact fun x _ => h x
noncomputable def rngR (env : Env) : Res (List D) → IRes
  | .ok [.int j] => @ite _ (-(2 ^ 62) ≤ j ∧ j < 2 ^ 62) (Classical.propDecidable _) (.ok (rngD 0 j.toNat) env) .bad
  | .ok [.int i, .int j] => @ite _ (-(2 ^ 62) ≤ i ∧ i < 2 ^ 62 ∧ -(2 ^ 62) ≤ j ∧ j < 2 ^ 62) (Classical.propDecidable _) (.ok (rngD i (j - i).toNat) env) .bad
  | .er x => .er x env
  | _ => .bad
@[simp] theorem iRngM_d (m : Env → Res (List D)) (env : Env) : iRngM m env = rngR env (m env) := by
  unfold iRngM rngR
  rfl
@[simp] theorem rngR_er (env : Env) (x : Exn) : rngR env (.er x) = .er x env := (rfl)
@[simp] theorem rngR_1 (env : Env) (j : Int) : rngR env (.ok [.int j]) = if -4611686018427387904 ≤ j ∧ j < 4611686018427387904 then .ok (rngD 0 j.toNat) env else .bad := by
  have e : rngR env (.ok [.int j]) = if -(2 ^ 62) ≤ j ∧ j < 2 ^ 62 then .ok (rngD 0 j.toNat) env else .bad := by
    by_cases h : -(2 ^ 62) ≤ j ∧ j < 2 ^ 62
    · rw [if_pos h]
      exact if_pos h
    · rw [if_neg h]
      exact if_neg h
  rw [e]
  simp only [p62]
@[simp] theorem rngR_2 (env : Env) (i j : Int) : rngR env (.ok [.int i, .int j]) = if -4611686018427387904 ≤ i ∧ i < 4611686018427387904 ∧ -4611686018427387904 ≤ j ∧ j < 4611686018427387904 then .ok (rngD i (j - i).toNat) env else .bad := by
  have e : rngR env (.ok [.int i, .int j]) = if -(2 ^ 62) ≤ i ∧ i < 2 ^ 62 ∧ -(2 ^ 62) ≤ j ∧ j < 2 ^ 62 then .ok (rngD i (j - i).toNat) env else .bad := by
    by_cases h : -(2 ^ 62) ≤ i ∧ i < 2 ^ 62 ∧ -(2 ^ 62) ≤ j ∧ j < 2 ^ 62
    · rw [if_pos h]
      exact if_pos h
    · rw [if_neg h]
      exact if_neg h
  rw [e]
  simp only [p62]
@[simp] theorem iTupM_d (m : Env → ORes) (env : Env) : iTupM m env = match m env with | .ok (.frz (.tup ds)) e => .ok ds e | .er x e => .er x e | _ => .bad := (rfl)
@[simp] theorem sFor_d (m : Env → IRes) (g : D → Env → Option Env) (body : Env → Out) (ks : List Nat) (env : Env) : sFor m g body ks env = match m env with | .ok ds e => runFor g body ks ds e | .er x e => .er x e | .bad => .bad := (rfl)
@[simp] theorem runFor_nil (g : D → Env → Option Env) (body : Env → Out) (ks : List Nat) (env : Env) : runFor g body ks [] env = .nx env := (rfl)
theorem runFor_cons (g : D → Env → Option Env) (body : Env → Out) (ks : List Nat) (d : D) (ds : List D) (env : Env) : runFor g body ks (d :: ds) env = match g d env with | none => .bad | some e1 => match body e1 with | .nx e2 => runFor g body ks ds (killS ks e2) | .ct e2 => runFor g body ks ds (killS ks e2) | .bk e2 => .nx (killS ks e2) | .rt s e => .rt s e | .er x e => .er x e | .bad => .bad := (rfl)
@[simp] theorem gN_d (i : Nat) (d : D) (env : Env) : gN i d env = if i < env.length then some (env.set i (.frz d)) else none := (rfl)
@[simp] theorem gsN_d (env : Env) : gsN [] env = some env := (rfl)
@[simp] theorem gsC_d (g : D → Env → Option Env) (r : List D → Env → Option Env) (d : D) (ds : List D) (env : Env) : gsC g r (d :: ds) env = match g d env with | some e => r ds e | none => none := (rfl)
@[simp] theorem gT_d (n : Nat) (gs : List D → Env → Option Env) (ds : List D) (env : Env) : gT n gs (.tup ds) env = if ds.length = n then gs ds env else none := (rfl)
@[simp] theorem killS_nil (env : Env) : killS [] env = env := (rfl)
@[simp] theorem killS_cons (k : Nat) (ks : List Nat) (env : Env) : killS (k :: ks) env = killS ks (env.set k .dead) := (rfl)
@[simp] theorem aoNil_d (env : Env) : aoNil env = .ok [] env := (rfl)
@[simp] theorem aoCons_d (x : Env → ORes) (r : Env → AORes) (env : Env) : aoCons x r env = match x env with | .bad => .bad | .er x e => .er x e | .ok s e => match r e with | .bad => .bad | .er x e2 => .er x e2 | .ok ss e2 => .ok (s :: ss) e2 := (rfl)
@[simp] theorem frzs_nil : frzs [] = some [] := (rfl)
@[simp] theorem frzs_frz (d : D) (r : List Slot) : frzs (.frz d :: r) = (frzs r).map fun ds => d :: ds := (rfl)
@[simp] theorem frzs_own (d : D) (r : List Slot) : frzs (.own d :: r) = none := (rfl)
@[simp] theorem dats_nil : dats [] = some [] := (rfl)
@[simp] theorem dats_cons (s : Slot) (r : List Slot) : dats (s :: r) = match s.dat with | some d => (dats r).map fun ds => d :: ds | none => none := (rfl)
@[simp] theorem dat_frz (d : D) : (Slot.frz d).dat = if d.imm = true then some d else none := (rfl)
@[simp] theorem dat_own (d : D) : (Slot.own d).dat = some d := (rfl)
@[simp] theorem oTup_d (m : Env → AORes) (env : Env) : oTup m env = match m env with | .bad => .bad | .er x e => .er x e | .ok ss e => if ss.length ≤ sizeLine then match frzs ss with | some ds => .ok (.frz (.tup ds)) e | none => match dats ss with | some ds => .ok (.own (.tup ds)) e | none => .bad else .bad := (rfl)
@[simp] theorem oLst_d (m : Env → AORes) (env : Env) : oLst m env = match m env with | .bad => .bad | .er x e => .er x e | .ok ss e => if ss.length ≤ sizeLine then match dats ss with | some ds => .ok (.own (.lst ds)) e | none => match frzs ss with | some ds => .ok (.frz (.lst ds)) e | none => .bad else .bad := (rfl)
@[simp] theorem lVar_d (i : Nat) (env : Env) : lVar i env = match env[i]? with | some (.own _) => .ok (i, []) | _ => .bad := (rfl)
@[simp] theorem getP_nil (d : D) : d.getP [] = some d := (rfl)
@[simp] theorem getP_cons (d : D) (s : Step) (r : List Step) : d.getP (s :: r) = match d.get1 s with | some e => e.getP r | none => none := (rfl)
@[simp] theorem get1_l (xs : List D) (k : Int) : (D.lst xs).get1 (.ix k) = atI xs k := (rfl)
@[simp] theorem get1_t (xs : List D) (k : Int) : (D.tup xs).get1 (.ix k) = atI xs k := (rfl)
@[simp] theorem putP_nil (d e : D) : d.putP [] e = e := by cases d <;> rfl
@[simp] theorem putP_cons (d e : D) (s : Step) (r : List Step) : d.putP (s :: r) e = match d.get1 s with | some c => d.put1 (c.putP r e) s | none => d := by cases d <;> rfl
theorem put1_l (xs : List D) (e : D) (k : Int) : (D.lst xs).put1 e (.ix k) = match ixN xs.length k with | some j => .lst (xs.set j e) | none => .lst xs := (rfl)
@[simp] theorem sAppO_d (pl : Env → Res (Nat × List Step)) (m : Env → ORes) (env : Env) : sAppO pl m env = match pl env with | .bad => .bad | .er x => .er x env | .ok p => match plGet env p with | none => .bad | some (d, es) => match m (env.set p.1 .lck) with | .bad => .bad | .er x e => .er x (e.set p.1 .dead) | .ok s e => match e[p.1]?, s.dat with | some .lck, some x => if es.length < sizeLine then .ok (.frz .non) (e.set p.1 (.own (d.putP p.2 (.lst (es ++ [x]))))) else .bad | _, _ => .bad := (rfl)
@[simp] theorem plGet_d (env : Env) (p : Nat × List Step) : plGet env p = match env[p.1]? with | some (.own d) => (match d.getP p.2 with | some (.lst es) => some (d, es) | _ => none) | _ => none := (rfl)
@[simp] theorem sPop_d (pl : Env → Res (Nat × List Step)) (env : Env) : sPop pl env = match pl env with | .bad => .bad | .er x => .er x env | .ok p => match plGet env p with | none => .bad | some (d, es) => match es[es.length - 1]? with | none => .bad | some x => .ok (mkS x) (env.set p.1 (.own (d.putP p.2 (.lst es.dropLast)))) := (rfl)
@[simp] theorem mkS_d (d : D) : mkS d = if d.imm = true then .frz d else .own d := (rfl)
theorem szl : sizeLine = 16777216 := sizeLine_eq
theorem rngD_map (n : Nat) : rngD 0 n = (List.range n).map fun (i : Nat) => .int (i : Int) := by
  unfold rngD
  congr 1
  funext i
  simp
@[simp] theorem isTy_d (t n : String) : isTy t n = (t == n || (t == "bool" && n == "int")) := (rfl)
@[simp] theorem tyD_bl (b : Bool) : tyD (.bl b) = "bool" := (rfl)
@[simp] theorem tyD_int (b : Int) : tyD (.int b) = "int" := (rfl)
@[simp] theorem tyD_str (b : List Nat) : tyD (.str b) = "str" := (rfl)
@[simp] theorem tyD_tup (b : List D) : tyD (.tup b) = "tuple" := (rfl)
@[simp] theorem tyD_lst (b : List D) : tyD (.lst b) = "list" := (rfl)
@[simp] theorem isDic_non : isDic .non = false := (rfl)
@[simp] theorem isDic_bl (b : Bool) : isDic (.bl b) = false := (rfl)
@[simp] theorem isDic_int (b : Int) : isDic (.int b) = false := (rfl)
@[simp] theorem isDic_str (b : List Nat) : isDic (.str b) = false := (rfl)
@[simp] theorem isDic_tup (b : List D) : isDic (.tup b) = false := (rfl)
@[simp] theorem isDic_lst (b : List D) : isDic (.lst b) = false := (rfl)
end
end G9

namespace G9
open PySem PySem.Spec PyProof.Rows L2
def turn (g : D → Env → Option Env) (body : Env → Out) (ks : List Nat) (d : D) (env : Env) : Out :=
  match g d env with
  | none => .bad
  | some e1 => match body e1 with
    | .nx e2 => .nx (killS ks e2)
    | .ct e2 => .nx (killS ks e2)
    | .bk e2 => .bk (killS ks e2)
    | r => r
section
variable {g : D → Env → Option Env} {body : Env → Out} {ks : List Nat}
theorem runFor_turn (d : D) (ds : List D) (env : Env) : runFor g body ks (d :: ds) env = match turn g body ks d env with | .nx e => runFor g body ks ds e | .bk e => .nx e | r => r := by
  rw [runFor_cons]
  unfold turn
  cases g d env with
  | none => rfl
  | some e1 =>
    dsimp only
    cases body e1 <;> rfl
theorem runFor_inv (I : Nat → Env → Prop) : ∀ (ds : List D) (i : Nat) (env : Env),
    (∀ j (hj : j < ds.length) env, I (i + j) env → ∃ e, turn g body ks ds[j] env = .nx e ∧ I (i + j + 1) e) → I i env →
    ∃ e, runFor g body ks ds env = .nx e ∧ I (i + ds.length) e
  | [], i, env, _, hi => ⟨env, rfl, hi⟩
  | d :: ds, i, env, h, hi => by
    obtain ⟨e, ht, hi2⟩ := h 0 (by simp) env hi
    rw [runFor_turn, show turn g body ks d env = .nx e from ht]
    obtain ⟨e2, h2, hi3⟩ := runFor_inv I ds (i + 1) e (fun j hj env hI => by
      have := h (j + 1) (by simpa using hj) env (by rwa [show i + (j + 1) = i + 1 + j by omega])
      rwa [show i + (j + 1) + 1 = i + 1 + j + 1 by omega] at this) hi2
    exact ⟨e2, h2, by rwa [List.length_cons, show i + (ds.length + 1) = i + 1 + ds.length by omega]⟩
end
@[simp] theorem turn_d (g : D → Env → Option Env) (body : Env → Out) (ks : List Nat) (d : D) (env : Env) : turn g body ks d env = match g d env with | none => .bad | some e1 => match body e1 with | .nx e2 => .nx (killS ks e2) | .ct e2 => .nx (killS ks e2) | .bk e2 => .bk (killS ks e2) | r => r := (rfl)
theorem getD_map_int (ns : List Int) (k : Nat) : (ns.map D.int)[k]? = if h : k < ns.length then some (.int ns[k]) else none := by
  by_cases h : k < ns.length
  · rw [dif_pos h, List.getElem?_map, List.getElem?_eq_getElem h]
    rfl
  · rw [dif_neg h, List.getElem?_eq_none (by simpa using h)]
theorem atI_mod {α : Type} {xs : List α} {n : Int} (h : (xs.length : Int) = n) (hn : 0 < n) (i : Int) : ∃ c, atI xs (i % n) = some c := by
  have h1 := Int.emod_nonneg i (b := n) (by omega)
  have h2 := Int.emod_lt_of_pos i hn
  rw [atI_pos h1]
  exact ⟨_, List.getElem?_eq_getElem (by omega)⟩
end G9

namespace G9
open PySem PySem.Spec PyProof.Rows L2
end G9

namespace G9
open PySem PySem.Spec PyProof.Rows L2
open SX (S join_S)
end G9

namespace G9
open PySem PySem.Spec PyProof.Rows L2
structure SrtOk (B : Nat) (ds : List D) : Prop where
  lay : D.lays ds = true
  al : PySem.W.AllAlike (ds.map D.pd)
  so : PySem.W.Sortable (ds.map D.pd)
  dp : ∀ d ∈ ds, d.dep + 2 ≤ B
noncomputable def sortD (ds : List D) : List D := ds.mergeSort fun a b => PySem.W.dataLe false D.pd a b
def itmL : D → Option (List D)
  | .lst xs => some xs
  | .scr xs => some xs
  | _ => none
theorem vals_each {vs : List V} {us : List Value} (h : Vals vs us) : ∀ {ds : List D}, ds.length = vs.length → PySem.W.EachIs (fun (u : Value) (b : V × D) => RelV b.1 u) us (vs.zip ds) := by
  induction h with
  | nil => exact fun _ => .nil
  | cons r _ ih =>
    intro ds hl
    cases ds with
    | nil => simp at hl
    | cons d ds => exact .cons r (ih (by simpa using hl))
theorem each_vals {us : List Value} {bs : List (V × D)} (h : PySem.W.EachIs (fun (u : Value) (b : V × D) => RelV b.1 u) us bs) : Vals (bs.map Prod.fst) us := by
  induction h with
  | nil => exact .nil
  | cons r _ ih => exact .cons r ih
theorem RVs.zip {K : PySem.W.Frag} {H : Hp} : ∀ {vs : List V} {ds : List D}, RVs K H vs ds → ∀ b ∈ vs.zip ds, RV K H b.1 b.2
  | [], _, .nil, b, h => by cases h
  | v :: vs, d :: ds, .cons r rs, b, h => by
    rcases List.mem_cons.mp h with rfl | h
    · exact r
    · exact RVs.zip rs b h
theorem RVs.unzip {K : PySem.W.Frag} {H : Hp} : ∀ {bs : List (V × D)}, (∀ b ∈ bs, RV K H b.1 b.2) → RVs K H (bs.map Prod.fst) (bs.map Prod.snd)
  | [], _ => .nil
  | b :: bs, h => .cons (h b List.mem_cons_self) (RVs.unzip fun c hc => h c (List.mem_cons_of_mem _ hc))
theorem each_reads {X : Cx} {pins : List (Addr × Obj)} {s : Shared} {σ : L2.St} {H : Hp} (I : Inv X pins σ H s) : ∀ {vs : List V} {us : List Value} {ds : List D}, Vals vs us → RVs X.K H vs ds → D.lays ds = true →
    PySem.W.EachIs (fun (u : Value) (b : V × D) => ∃ as, Reads s.heap u b.2.pd as) us (vs.zip ds)
  | [], _, _, .nil, .nil, _ => .nil
  | _ :: _, _ :: _, _ :: _, .cons r rs, .cons q qs, h => by
    rw [lays_cons, Bool.and_eq_true] at h
    exact .cons (Dp.reads I _ _ _ (q.dp h.1) r) (each_reads I rs qs h.2)
theorem map_snd_zip {vs : List V} {ds : List D} (h : vs.length = ds.length) : (vs.zip ds).map Prod.snd = ds := by
  rw [List.map_snd_zip]
  omega
end G9

namespace G9
open PySem PySem.Spec PyProof.Rows L2
section
variable {X : Cx} {a b e : Expr} {ma mb : Env → Res D} {pos : Pos} {es : List Expr} {ms : Env → Res (List D)}
def gInt : List D → Res D
  | [.bl k] => .ok (.int (if k then 1 else 0))
  | [.int i] => .ok (.int i)
  | _ => .bad
def eInt := eCall gInt
theorem gInt_ne : ∀ x e, gInt x ≠ .er e := by
  intro x e
  unfold gInt
  split <;> intro z <;> cases z
theorem ok_int1 {K : PySem.W.Frag} : C1ok K gInt (fun xs H Q => (∃ i, xs = [.int i] ∧ Q (.int i) H) ∨ ∃ k, xs = [.bl k] ∧ Q (.int (if k then 1 else 0)) H) := by
  intro H vs ds d Q r eg h
  unfold gInt at eg
  split at eg
  · cases eg
    cases r with
    | cons r1 r2 =>
      cases r2
      cases r1
      exact .inr ⟨_, rfl, h _ H (Same.refl H) (.int _)⟩
  · cases eg
    cases r with
    | cons r1 r2 =>
      cases r2
      cases r1
      exact .inl ⟨_, rfl, h _ H (Same.refl H) (.int _)⟩
  · cases eg
theorem dv_int1 {p : Pos} (hg : Gl X "int") (hm : X.mg "int" = none) (ha : DA X (e :: es) ms) (he : starEach (e :: es) X.env = (false, eval e X.env) :: starEach es X.env := by rfl) (hpl : (backTo pos (starEach es X.env)).any (·.1) = false := by rfl) : DV X (.Call (.Name "int" p) (e :: es) [] pos) (eInt ms) :=
  dv_callTy call_int1 ok_int1 gInt_ne hg hm (by decide +kernel) ha (by decide) (by decide) he hpl
@[simp] theorem eInt_d (m : Env → Res (List D)) (env : Env) : eInt m env = (m env).bind gInt := (rfl)
@[simp] theorem gInt_b (k : Bool) : gInt [.bl k] = .ok (.int (if k then 1 else 0)) := (rfl)
@[simp] theorem gInt_i (i : Int) : gInt [.int i] = .ok (.int i) := (rfl)
structure LtOk (B : Nat) (x y : D) : Prop where
  lx : x.lay = true
  ly : y.lay = true
  al : PySem.W.alike x.pd y.pd = true
  nn : x.pd ≠ .none
  dp : min x.dep y.dep ≤ B
end
end G9

namespace G9
open PySem PySem.Spec PyProof.Rows L2
section
variable {X : Cx} {e : Expr} {es : List Expr} {ta : TA} {p1 p2 pos : Pos} {x : Str} {B : Addr}
structure BaseC (K : PySem.W.Frag) (mg : Str → Option Value) (x : Str) (B : Addr) : Prop where
  g : mg x = some (.ref B)
  sp : PySem.W.specialIn K (.ref B) "__getattribute__" = some (some (.builtin "type.__getattribute__"))
  rd : PySem.W.readsIn K B (.type "type") = true
  fi : PySem.W.findCls K (.ref B) (.type "type") "__init__" = some (.val (.builtin "ValueError.__init__"))
end
end G9

namespace G9
section
open PySem PySem.Spec PySem.Calls PyProof.Rows PySem.W
end
open PySem PySem.Spec PyProof.Rows L2
inductive TCl
  | tup (cs : List Value)
  | as (c : Value) (i : Nat) (ts : Addr → Value → Option Addr → TS)
def offE (D : Ends) (i : Nat) : Ends where
  nx σ H := D.nx (σ.set i none) H
  rt := D.rt
  bk σ H := D.bk (σ.set i none) H
  ct σ H := D.ct (σ.set i none) H
inductive NamesL (X : Cx) : List Expr → List Value → Prop
  | nil : NamesL X [] []
  | cons {x : Str} {p : Pos} {c : Value} {es : List Expr} {cs : List Value} : Names X x c → NamesL X es cs → NamesL X (.Name x p :: es) (c :: cs)
inductive ClOk (X : Cx) : List ExceptHandler → List TCl → Prop
  | nil : ClOk X [] []
  | tup {es : List Expr} {cs : List Value} {k : Nat} {tp pos' : Pos} {b₀ : Stmt} {su : List Stmt} {hds : List ExceptHandler} {l : List TCl} : NamesL X es cs → cs.length ≤ sizeLine → ClOk X hds l → ClOk X (.ExceptHandler (some (.Tuple es k tp)) none (b₀ :: su) pos' :: hds) (.tup cs :: l)
  | as {x n : Str} {c : Value} {i : Nat} {np pos' : Pos} {b₀ : Stmt} {su : List Stmt} {ts : Addr → Value → Option Addr → TS} {hds : List ExceptHandler} {l : List TCl} : Names X x c → X.N.Nodup → X.N[i]? = some n → X.env.kindOf n = some .local →
      (∀ (a : Addr) (oe : Obj) (cls : Value) (d : Option Addr) (pn : List (Addr × Obj)), Zc cls d oe → (∃ vs, oe.data = .fields vs) → PSs (X.suite a ((a, oe) :: pn)) (b₀ :: su) (ts a cls d)) →
      ClOk X hds l → ClOk X (.ExceptHandler (some (.Name x np)) (some n) (b₀ :: su) pos' :: hds) (.as c i ts :: l)
end G9

namespace G9
open PySem PySem.Spec PyProof.Rows L2
def XF (K : PySem.W.Frag) (i : Nat) (a : Addr) (d : Option Addr) (fs : List (Str × D)) (σ : L2.St) (H : Hp) : Prop :=
  σ[i]? = some (some (.ref a)) ∧ ((fs = [] ∧ d = none) ∨ ∃ f dd dx v, fs = [(f, dd)] ∧ d = some dx ∧ H dx = some (.xd [(f, v)]) ∧ RV K H v dd)
theorem XF.mono {K : PySem.W.Frag} {i : Nat} {a : Addr} {d : Option Addr} {fs : List (Str × D)} {σ : L2.St} {H H' : Hp} (h : XF K i a d fs σ H) (s : Same H H') : XF K i a d fs σ H' := by
  obtain ⟨h1, h2 | ⟨f, dd, dx, v, e1, e2, e3, e4⟩⟩ := h
  · exact ⟨h1, .inl h2⟩
  · exact ⟨h1, .inr ⟨f, dd, dx, v, e1, e2, s _ _ e3, e4.mono s⟩⟩
structure ExcK (K : PySem.W.Frag) (C : Addr) : Prop where
  cl : (PySem.W.clsIn K C).isSome = true
  ga : PySem.W.findIn K (.ref C) "__getattribute__" = some (some (.builtin "BaseException.__getattribute__"))
  gg : PySem.W.findIn K (.ref C) "__getattr__" = some none
  sb : PySem.W.subIn K (.ref C) (.type "BaseException") = some true
  ca : PySem.W.findIn K (.ref C) "__class__" = some (some (.builtin "object.__class__"))
  cg : PySem.W.specialIn K (.builtin "object.__class__") "__get__" = some (some (.builtin "getset_descriptor.__get__"))
  ct : PySem.W.takesIn K (.builtin "object.__class__") = some true
  mo : PySem.W.mroIn K C (.type "object") = some true
end G9

namespace G9
open PySem PySem.Spec PyProof.Rows L2
section
variable {K : PySem.W.Frag} {L : Nat → V} {F H : Hp} {fr : Addr → Prop} {σ : L2.St} {env : Env} {fps : Nat → List Addr}
theorem RE.chg {i : Nat} {v : Option V} (R : RE K L F H fr σ env fps) (h : ∀ s, env[i]? = some s → s = .dead) : RE K L F H fr (σ.set i v) env fps where
  len := by rw [List.length_set]; exact R.len
  at' := fun j t e => by
    have z := R.at' j t e
    by_cases hj : j = i
    · subst hj
      have := h t e
      subst this
      exact z
    · rw [List.getElem?_set_ne (Ne.symm hj)]
      exact z
  dis := R.dis
  off := R.off
  sF := R.sF
  tk := R.tk
  frd := R.frd
theorem RE.wipe {i : Nat} {v : Option V} (R : RE K L F H fr σ env fps) : ∃ fps', RE K L F H fr (σ.set i v) (env.set i .dead) fps' := by
  obtain ⟨f', R'⟩ := R.kill1 i
  refine ⟨f', R'.chg fun s e => ?_⟩
  by_cases hl : i < env.length
  · rw [List.getElem?_set_self hl] at e
    cases e
    rfl
  · rw [List.getElem?_eq_none (by rw [List.length_set]; omega)] at e
    cases e
end
theorem kit_own {K : PySem.W.Frag} {C B : Addr} (h1 : (PySem.W.clsIn K B).isSome = true) (h2 : PySem.W.typeIn K (.ref B) = some (.type "type")) (h3 : PySem.W.subIn K (.ref C) (.ref B) = some true) : PySem.W.kitOne K (.ref C) (.ref B) = some true := by
  unfold PySem.W.kitOne
  split
  · rfl
  · show (if ((PySem.W.clsIn K B).isSome && PySem.W.typeIn K (.ref B) == some (.type "type")) = true then PySem.W.subIn K (.ref C) (.ref B) else none) = some true
    rw [if_pos (by rw [h1, h2]; rfl)]
    exact h3
theorem kit_ty {K : PySem.W.Frag} {C : Addr} {T : String} (h : PySem.W.subIn K (.ref C) (.type T) = some true) (hm : PySem.W.kitMeta T = true) : PySem.W.kitOne K (.ref C) (.type T) = some true := by
  unfold PySem.W.kitOne
  split
  · rfl
  · show (if PySem.W.kitMeta T = true then PySem.W.subIn K (.ref C) (.type T) else none) = some true
    rw [if_pos hm]
    exact h
theorem cls_some {K : PySem.W.Frag} {C : Addr} (h : PySem.W.hasDictIn K C = true) : (PySem.W.clsIn K C).isSome = true := by
  obtain ⟨cd, hc, _⟩ := PySem.W.any_some h
  rw [hc]
  rfl
end G9

namespace G9
open PySem PySem.Spec PyProof.Rows L2
theorem wipe_get (σ : L2.St) : ∀ (vs : List Nat) (i : Nat), (wipe σ vs)[i]? = if i ∈ vs then (σ[i]?.map fun _ => none) else σ[i]?
  | [], i => by simp [wipe]
  | v :: vs, i => by
    have ih := wipe_get σ vs i
    show ((wipe σ vs).set v none)[i]? = _
    rw [List.getElem?_set]
    by_cases h : v = i
    · subst h
      rw [if_pos rfl, if_pos List.mem_cons_self]
      rw [wipe_length]
      by_cases hl : v < σ.length
      · rw [if_pos hl, List.getElem?_eq_getElem hl]
        rfl
      · rw [if_neg hl, List.getElem?_eq_none (by omega)]
        rfl
    · rw [if_neg h, ih]
      by_cases hm : i ∈ vs
      · rw [if_pos hm, if_pos (List.mem_cons_of_mem _ hm)]
      · rw [if_neg hm, if_neg fun z => (List.mem_cons.mp z).elim (fun e => h e.symm) hm]
theorem wipe_set {σ : L2.St} {i : Nat} {x : Option V} {vs : List Nat} (h : i ∈ vs) : wipe (σ.set i x) vs = wipe σ vs := by
  refine List.ext_getElem? fun j => ?_
  rw [wipe_get, wipe_get]
  by_cases hj : j ∈ vs
  · rw [if_pos hj, if_pos hj]
    by_cases e : i = j
    · subst e
      by_cases hl : i < σ.length
      · rw [List.getElem?_set_self hl, List.getElem?_eq_getElem hl]
        rfl
      · rw [List.getElem?_eq_none (by rw [List.length_set]; omega), List.getElem?_eq_none (by omega)]
    · rw [List.getElem?_set_ne e]
  · rw [if_neg hj, if_neg hj, List.getElem?_set_ne (fun e => by subst e; exact hj h)]
theorem wipe_wipe (σ : L2.St) (vs : List Nat) : wipe (wipe σ vs) vs = wipe σ vs := by
  refine List.ext_getElem? fun j => ?_
  rw [wipe_get, wipe_get]
  by_cases hj : j ∈ vs
  · rw [if_pos hj, if_pos hj]
    cases σ[j]? <;> rfl
  · rw [if_neg hj]
def killW (env : Env) : List Nat → Env
  | [] => env
  | v :: vs => (killW env vs).set v .dead
section
variable {K : PySem.W.Frag} {L : Nat → V} {F H : Hp} {fr : Addr → Prop} {σ : L2.St} {env : Env} {fps : Nat → List Addr}
theorem RE.wipes (R : RE K L F H fr σ env fps) : ∀ vs : List Nat, ∃ fps', RE K L F H fr (L2.wipe σ vs) (killW env vs) fps'
  | [] => ⟨fps, R⟩
  | v :: vs => by
    obtain ⟨f, R1⟩ := RE.wipes R vs
    exact R1.wipe
theorem RE.poke {p : Addr} {o : HO} (R : RE K L F H fr σ env fps) (hp : fr p) (ho : Nt (some o)) : RE K L F (upd H p o) fr σ env fps where
  len := R.len
  at' := fun i s h => (R.at' i s h).car (Same.refl F) fun q hq => upd_ne fun z => by subst z; exact (R.off i q hq).2.1 hp
  dis := R.dis
  off := fun i q hq => by
    obtain ⟨a, b, c⟩ := R.off i q hq
    exact ⟨a, b, by rw [upd_ne fun z => by subst z; exact b hp]; exact c⟩
  sF := fun q u e => by
    rw [upd_ne fun z => by subst z; rw [(R.frd q hp).1] at e; cases e]
    exact R.sF q u e
  tk := by
    obtain ⟨u, hu, h1, h2⟩ := ho
    cases hu
    exact ⟨fun q xs e => by
      by_cases z : q = p
      · subst z; rw [upd_same] at e; cases e; exact absurd rfl (h1 xs)
      · rw [upd_ne z] at e; exact R.tk.tup _ _ e, fun q o' w e => by
      by_cases z : q = p
      · subst z; rw [upd_same] at e; cases e; exact absurd rfl (h2 o' w)
      · rw [upd_ne z] at e; exact R.tk.frz _ _ _ e⟩
  frd := fun q hq => by
    obtain ⟨a, b⟩ := R.frd q hq
    refine ⟨a, ?_⟩
    by_cases z : q = p
    · subst z; rw [upd_same]; exact ho
    · rw [upd_ne z]; exact b
end
theorem tkF_base {F F2 H : Hp} (s : Same F F2) (s2 : Same F2 H) : Same (tkF F H) (tkF F2 H) := fun p o h => by
  unfold tkF at h ⊢
  cases e : H p with
  | none => rw [e] at h; exact s _ _ h
  | some u =>
    rw [e] at h
    cases u <;> first | exact h | exact s _ _ h
def IterV (K : PySem.W.Frag) (J : It) (F H1 : Hp) (k : Bool) (ds : List D) : Prop :=
  ∀ H2, Same H1 H2 → J.stop ds.length H2 ∧ ∀ i d, ds[i]? = some d → J.go i H2 ∧ ∀ x H', J.yld i H2 x H' → Same H2 H' ∧ RV K (sel k F H') x d
def tIv (K : PySem.W.Frag) (mg : Str → Option Value) (W : WX) (m : Env → Res (Bool × List D)) : TI := fun σ H Rr => ∃ L F fr env fps, RE K L F H fr σ env fps ∧
  match m env with
  | .bad => False
  | .er x => ∀ cls d H', Same H H' → ExR K mg x cls d H' → W cls d σ H'
  | .ok p => ∀ J H1, Same H H1 → IterV K J F H1 p.1 p.2 → Rr J H1
def DIv (X : Cx) (tg iter : Expr) (m : Env → Res (Bool × List D)) : Prop := ∀ W, Takes X W → PI X tg iter (tIv X.K X.mg W m)
section
variable {X : Cx} {tg iter e a b : Expr} {pos p : Pos} {ma : Env → Res D} {mp : Env → Res (Bool × D)} {ms : Env → Res (List D)}
noncomputable def jRng (m : Env → Res (List D)) : Env → Res (Bool × List D) := fun env => match m env with
  | .ok [.int j] => @ite _ (-(2 ^ 62) ≤ j ∧ j < 2 ^ 62) (Classical.propDecidable _) (.ok (true, rngD 0 j.toNat)) .bad
  | .ok [.int i, .int j] => @ite _ (-(2 ^ 62) ≤ i ∧ i < 2 ^ 62 ∧ -(2 ^ 62) ≤ j ∧ j < 2 ^ 62) (Classical.propDecidable _) (.ok (true, rngD i (j - i).toNat)) .bad
  | .er x => .er x
  | _ => .bad
theorem iterv_rng {K : PySem.W.Frag} {F H1 : Hp} (lo : Int) (n : Nat) : IterV K (Itr lo n) F H1 true (rngD lo n) := fun H2 s => by
  unfold rngD
  refine ⟨by show n ≤ _; rw [List.length_map, List.length_range]; exact Nat.le_refl _, fun i d hd => ?_⟩
  rw [List.getElem?_map] at hd
  cases ec : (List.range n)[i]? with
  | none => rw [ec] at hd; cases hd
  | some c =>
    rw [ec] at hd
    cases hd
    obtain ⟨hi, hc⟩ := List.getElem?_eq_some_iff.mp ec
    rw [List.length_range] at hi
    rw [List.getElem_range] at hc
    subst hc
    refine ⟨hi, fun x H' y => ?_⟩
    obtain ⟨rfl, rfl⟩ := y
    exact ⟨Same.refl _, .int _⟩
theorem div_range1 (hg : Gl X "range") (hm : X.mg "range" = none) (h : DA X [a] ms) (hs : starEach [a] X.env = [(false, eval a X.env)] := by rfl) (h1 : ∀ env ds, ms env = .ok ds → ds.length = 1) : DIv X tg (.Call (.Name "range" p) [a] [] pos) (jRng ms) := fun W tk =>
  PIw (pi_range1 hg hm (h W tk) hs) fun σ H Rr ⟨L, F, fr, env, fps, R, q⟩ => by
  refine ⟨L, F, fr, env, fps, R, ?_⟩
  unfold jRng at q
  cases e : ms env with
  | bad => rw [e] at q; exact q
  | er x => rw [e] at q; exact q
  | ok ds =>
    rw [e] at q
    intro vs H1 s r
    match ds, h1 env ds e, r with
    | [d], _, .cons r1 .nil =>
      cases r1 with
      | int j =>
        simp only at q
        by_cases hj : -(2 ^ 62) ≤ j ∧ j < 2 ^ 62
        · rw [if_pos hj] at q
          exact ⟨j, rfl, hj.1, hj.2, q _ H1 s (iterv_rng 0 j.toNat)⟩
        · rw [if_neg hj] at q; exact q.elim
      | _ => exact q.elim
def jTup (m : Env → Res (Bool × D)) : Env → Res (Bool × List D) := fun env => match m env with
  | .ok (k, .tup ds) => .ok (k, ds)
  | .er x => .er x
  | _ => .bad
theorem iterv_tup {K : PySem.W.Frag} {F H1 : Hp} {k : Bool} {a : Addr} {xs : List V} {ds : List D} (sF : Same F H1) (h : SqT K H1 a xs) (r : RVs K (sel k F H1) xs ds) : IterV K (Itt K a) F H1 k ds := fun H2 s => by
  have h2 : SqT K H2 a xs := sqt_mono s h
  refine ⟨⟨xs, h2, by rw [r.len]; exact Nat.le_refl _⟩, fun i d hd => ?_⟩
  obtain ⟨u, hu, ru⟩ := r.get hd
  refine ⟨⟨xs, u, h2, hu⟩, fun x H' y => ?_⟩
  obtain ⟨rfl, y⟩ := y
  have := y xs h2
  rw [hu] at this
  cases this
  exact ⟨Same.refl _, ru.mono (sel_mono sF s)⟩
theorem div_tup (h : DP X e mp) : DIv X tg e (jTup mp) := fun W tk => PIw (pi_tup (h W tk)) fun σ H Rr ⟨L, F, fr, env, fps, R, q⟩ => by
  refine ⟨L, F, fr, env, fps, R, ?_⟩
  unfold jTup at q
  cases e : mp env with
  | bad => rw [e] at q; exact q
  | er x => rw [e] at q; exact q
  | ok kd =>
    obtain ⟨k, d⟩ := kd
    rw [e] at q
    intro v H1 s r
    have sl := sel_le (fl := k) (R.sF.trans s)
    cases r with
    | @tup a xs ds h r' => exact ⟨_, rfl, ⟨_, sqt_mono sl h⟩, q _ H1 s (iterv_tup (R.sF.trans s) (sqt_mono sl h) r')⟩
    | _ => exact q.elim
end
def tGv (K : PySem.W.Frag) (g : D → Env → Option Env) (vs : List Nat) : TG := fun v σ H Q => ∃ L F fr env fps d, RE K L F H fr σ env fps ∧ RV K F v d ∧
  match g d env with
  | none => False
  | some env' => ∀ σ' fps', RE K L F H fr σ' env' fps' → wipe σ' vs = wipe σ vs → Q σ' H
def DGv (X : Cx) (e : Expr) (g : D → Env → Option Env) (vs : List Nat) : Prop := PG X e (tGv X.K g vs)
section
variable {X : Cx} {e : Expr} {es : List Expr} {pos : Pos} {g : D → Env → Option Env} {gs : List D → Env → Option Env} {vs : List Nat}
theorem dgv_name {i : Nat} {x : Str} (hN : X.N.Nodup) (hm : i ∈ vs) (hi : X.N[i]? = some x := by rfl) (hx : Loc X.env.scope x := by first | exact Or.inl rfl | exact Or.inr rfl) (hf : X.fn x = true ∨ X.env.scope.names.lookup x = some .local := by first | exact .inl rfl | exact .inr rfl | assumption) : DGv X (.Name x pos) (gN i) vs :=
  PGw (pg_name hN hi hx hf) fun v σ H Q ⟨L, F, fr, env, fps, d, R, r, q⟩ => by
  unfold gN at q
  by_cases hl : i < env.length
  · rw [if_pos hl] at q
    exact q _ _ (R.setF r hl) (wipe_set hm)
  · rw [if_neg hl] at q; exact q.elim
end
def DTs (X : Cx) (es : List Expr) (c : Env → Res Bool) : Prop := ∀ W, Takes X W → PTs X es (tTm X.K X.mg W c)
theorem PTsw {X : Cx} {e : List Expr} {t t' : TT} (h : PTs X e t) (i : ∀ σ H Q, t' σ H Q → t σ H Q) : PTs X e t' := ⟨fun pins s σ H Q I q => h.run pins s σ H Q I (i σ H Q q)⟩
def cYes : Env → Res Bool := fun _ => .ok true
theorem dts_nil {X : Cx} : DTs X [] cYes := fun W _ => PTsw pts_nil fun σ H Q ⟨L, F, fr, env, fps, R, q⟩ => q H (Same.refl H)
theorem dts_one {X : Cx} {e : Expr} {c : Env → Res Bool} (h : DT X e c) : DTs X [e] c := fun W tk => pts_one (h W tk)
theorem takes_no {X : Cx} : Takes X (fun _ _ _ _ => False) := fun u s' ⟨a, B, sI, pins, σ, H, cls, d, e, I, nb, up, sky, na, os, ag, w⟩ => w.elim
def runLc (g : D → Env → Option Env) (c : Env → Res Bool) (m : Env → Res D) (e0 : Env) : List D → Res (List D)
  | [] => .ok []
  | d :: ds => match g d e0 with
    | none => .bad
    | some e1 => match c e1 with
      | .ok true => (match m e1 with
        | .ok x => if x.imm = true then (runLc g c m e0 ds).bind fun xs => .ok (x :: xs) else .bad
        | _ => .bad)
      | .ok false => runLc g c m e0 ds
      | _ => .bad
def fLc (mi : Env → Res (Bool × List D)) (g : D → Env → Option Env) (c : Env → Res Bool) (m : Env → Res D) (vs : List Nat) : Env → Res (List D) := fun env => (mi env).bind fun p =>
  if p.2.length ≤ sizeLine ∧ (p.1 = true ∨ D.imms p.2 = true) then (match runLc g c m (killW env vs) p.2 with | .ok xs => .ok xs | _ => .bad) else .bad
theorem imms_at {ds : List D} {i : Nat} {d : D} (h : D.imms ds = true) (e : ds[i]? = some d) : d.imm = true := by
  induction ds generalizing i with
  | nil => cases e
  | cons x ds ih =>
    rw [imms_cons, Bool.and_eq_true] at h
    cases i with
    | zero => cases e; exact h.1
    | succ i => exact ih h.2 e
section
variable {K : PySem.W.Frag} {mg : Str → Option Value} {W : WX} {mi : Env → Res (Bool × List D)} {g : D → Env → Option Env} {c : Env → Res Bool} {m : Env → Res D} {vs : List Nat} {σ : L2.St} {H : Hp} {Q : VK}
theorem lc_read (h : tF K mg W (fLc mi g c m vs) σ H Q) :
    tLc (tIv K mg W mi) (tGv K g vs) (tTm K mg (fun _ _ _ _ => False) c) (tV K mg (fun _ _ _ _ => False) m) vs σ H Q := by
  obtain ⟨L, F, fr, env, fps, R, q⟩ := h
  refine ⟨L, F, fr, env, fps, R, ?_⟩
  unfold fLc at q
  cases e : mi env with
  | bad => rw [e] at q; exact q
  | er x => rw [e] at q; exact q
  | ok kd =>
    obtain ⟨k, ds⟩ := kd
    rw [e] at q
    simp only [Res.bind] at q
    by_cases hb : ds.length ≤ sizeLine ∧ (k = true ∨ D.imms ds = true)
    · rw [if_pos hb] at q
      obtain ⟨hz, hk⟩ := hb
      intro J H1 s1 it Dn hD
      have R1 := R.grow s1
      have nlst : ∀ zs : List V, Nt (some (HO.lst zs)) := fun zs => nt_lst rfl
      have R2 := R1.more (p := Dn) hD (nlst [])
      obtain ⟨fw, R3⟩ := (R2.frw (fr' := fun q => q ∈ [Dn]) fun p hp => .inr hp).wipes vs
      generalize he0 : killW env vs = e0 at R3 q
      have sF0 : Same F (tkF (tkF F H1) (upd H1 Dn (.lst []))) := (tkF_ge (R.sF.trans s1)).trans (tkF_ge (R1.sF.trans (same_upd hD)))
      let Pv : Nat → Hp → Prop := fun i H' => ∃ F2 fps2 xs vs2, RE K L F2 H' (fun q => q ∈ [Dn]) (wipe σ vs) e0 fps2 ∧ Same F F2 ∧ Same H1 H' ∧ H' Dn = some (.lst vs2) ∧ RVs K F2 vs2 xs ∧ vs2.length ≤ i ∧
        runLc g c m e0 ds = (runLc g c m e0 (ds.drop i)).bind fun ys => .ok (xs ++ ys)
      refine ⟨fun i mm H' => mm = ds.length - i ∧ i ≤ ds.length ∧ Pv i H', ⟨ds.length, by simp, Nat.zero_le _, _, fw, [], [], R3, sF0, same_upd hD, upd_same, .nil, Nat.zero_le _, ?_⟩, ?_⟩
      · rw [List.drop_zero]
        cases runLc g c m e0 ds <;> rfl
      rintro i mm H2 ⟨rfl, hi, F2, fps2, xs, vs2, Ri, sF2, sH2, hDn, rx, lv, eq⟩
      obtain ⟨hstop, hgo⟩ := it H2 sH2
      by_cases hlt : i < ds.length
      · have ed : ds[i]? = some ds[i] := List.getElem?_eq_getElem hlt
        obtain ⟨go, yl⟩ := hgo i _ ed
        refine .inr ⟨go, Pv (i + 1), fun H' p' => ⟨ds.length - (i + 1), by omega, rfl, hlt, p'⟩, fun x H3 y => ?_⟩
        obtain ⟨sm, rxd⟩ := yl x H3 y
        have Rg := Ri.grow sm
        have rF : RV K (tkF F2 H3) x ds[i] := by
          rcases hk with hk | hk
          · rw [hk] at rxd
            unfold sel at rxd
            rw [if_pos rfl] at rxd
            exact rxd.mono (tkF_base sF2 (Ri.sF.trans sm))
          · refine (rxd.mono (sel_le (sF2.trans (Ri.sF.trans sm)))).chg tkF_tk (imms_at hk ed)
        refine ⟨L, _, _, e0, fps2, _, Rg, rF, ?_⟩
        rw [List.drop_eq_getElem_cons hlt] at eq
        simp only [runLc] at eq
        cases eg : g ds[i] e0 with
        | none =>
          rw [eg] at eq
          rw [eq] at q
          exact q
        | some e1 =>
          rw [eg] at eq
          intro σ2 fps3 R4 hw
          rw [wipe_wipe] at hw
          refine ⟨hw, ⟨L, _, _, e1, fps3, R4, ?_⟩⟩
          simp only at eq
          cases ec : c e1 with
          | bad => rw [ec] at eq; rw [eq] at q; exact q
          | er x => rw [ec] at eq; rw [eq] at q; exact q.elim
          | ok b =>
            rw [ec] at eq
            intro H4 s4
            have R5 := R4.grow s4
            have sF5 : Same F2 (tkF (tkF F2 H3) H4) := (tkF_ge (Ri.sF.trans sm)).trans (tkF_ge (Rg.sF.trans s4))
            cases b with
            | false =>
              rw [if_neg Bool.false_ne_true]
              simp only at eq
              refine ⟨_, fps2, xs, vs2, (Ri.grow sm).grow s4, sF2.trans sF5, (sH2.trans sm).trans s4, s4 _ _ (sm _ _ hDn), rx.mono sF5, Nat.le_succ_of_le lv, eq⟩
            | true =>
              rw [if_pos rfl]
              simp only at eq
              refine ⟨L, _, _, e1, fps3, R5, ?_⟩
              cases em : m e1 with
              | bad => rw [em] at eq; rw [eq] at q; exact q
              | er x => rw [em] at eq; rw [eq] at q; exact q.elim
              | ok xd =>
                rw [em] at eq
                simp only at eq
                by_cases him : xd.imm = true
                · rw [if_pos him] at eq
                  intro v H5 s5 rv
                  have R6 := ((Ri.grow sm).grow s4).grow s5
                  have sF6 : Same F2 (tkF (tkF (tkF F2 H3) H4) H5) := sF5.trans (tkF_ge (R5.sF.trans s5))
                  have hD5 : H5 Dn = some (.lst vs2) := s5 _ _ (s4 _ _ (sm _ _ hDn))
                  refine ⟨vs2, hD5, by omega, ?_⟩
                  refine ⟨_, fps2, xs ++ [xd], vs2 ++ [v], R6.poke (List.mem_singleton.mpr rfl) (nlst _), sF2.trans sF6, ?_, upd_same, (rx.mono sF6).app (.cons (rv.chg tkF_tk him) .nil), by rw [List.length_append]; exact Nat.succ_le_succ lv, ?_⟩
                  · intro p o hp
                    rw [upd_ne fun z => by subst z; rw [hD] at hp; cases hp]
                    exact s5 _ _ (s4 _ _ (sm _ _ (sH2 _ _ hp)))
                  · rw [eq]
                    cases runLc g c m e0 (ds.drop (i + 1)) with
                    | ok ys => simp [Res.bind]
                    | er x => rfl
                    | bad => rfl
                · rw [if_neg him] at eq
                  rw [eq] at q
                  exact q.elim
      · have e : i = ds.length := by omega
        subst e
        refine .inl ⟨hstop, ?_⟩
        rw [List.drop_length] at eq
        simp only [runLc, Res.bind, List.append_nil] at eq
        rw [eq] at q
        simp only at q
        have hx : upd (fun p => if p = Dn then none else H2 p) Dn (.lst vs2) = H2 := by
          funext p
          by_cases z : p = Dn
          · subst z; rw [upd_same, hDn]
          · rw [upd_ne z, if_neg z]
        have := q Dn vs2 (fun p => if p = Dn then none else H2 p) ?_ (if_pos rfl) (rx.mono ?_)
        · rwa [hx] at this
        · intro p o hp
          have h1 := s1 _ _ hp
          show (if p = Dn then none else H2 p) = some o
          rw [if_neg fun z => by subst z; rw [hD] at h1; cases h1]
          exact sH2 _ _ h1
        · intro p o hp
          show (if p = Dn then none else H2 p) = some o
          rw [if_neg fun z => by subst z; rw [(Ri.frd p (List.mem_singleton.mpr rfl)).1] at hp; cases hp]
          exact Ri.sF _ _ hp
    · rw [if_neg hb] at q; exact q.elim
end
section
variable {X : Cx} {elt tg iter : Expr} {ifs : List Expr} {scope : Scope} {own : List (Str × Nat)} {pos spos py : Pos} {mi : Env → Res (Bool × List D)} {g : D → Env → Option Env} {c : Env → Res Bool} {m : Env → Res D}
theorem df_lc (own : List (Str × Nat)) (hc : X.calm = true) (hN : X.N.Nodup) (hi : DIv X tg iter mi) (ok : BlkOk X.N X.env.scope scope own)
    (hg : ∀ (s : Shared) (H : Hp) (C : Addr) (cl : List (Str × Addr)) (fp : List Addr), DGv (X.blk s H scope (compEnvC scope cl C X.env) fp) tg g (own.map (·.2)))
    (ht : ∀ (s : Shared) (H : Hp) (C : Addr) (cl : List (Str × Addr)) (fp : List Addr), DTs (X.blk s H scope (compEnvC scope cl C X.env) fp) ifs c)
    (he : ∀ (s : Shared) (H : Hp) (C : Addr) (cl : List (Str × Addr)) (fp : List Addr), DV (X.blk s H scope (compEnvC scope cl C X.env) fp) elt m)
    (hs : ∀ x, foldedSetIterable iter X.env x = pure x := by intro _; rfl) : DF X (.ListComp elt [⟨tg, iter, ifs, 0⟩] scope pos) (fLc mi g c m (own.map (·.2))) := fun W tk =>
  PEw (pe_lc (own := own) (g := tGv X.K g (own.map fun p : Str × Nat => p.2)) (tt := tTm X.K X.mg (fun _ _ _ _ => False) c) (te := tV X.K X.mg (fun _ _ _ _ => False) m) hc hN (hi W tk) ok (fun s H C cl fp => hg s H C cl fp) (fun s H C cl fp => ht s H C cl fp _ takes_no) (fun s H C cl fp => he s H C cl fp _ takes_no) hs) fun σ H Q h => lc_read h
theorem ds_setLc {i : Nat} {y : Str} (own : List (Str × Nat)) (hc : X.calm = true) (hN : X.N.Nodup) (hy : X.N[i]? = some y) (hyl : X.env.scope.names.lookup y = some .local)
    (hsw : swapsWith (.ListComp elt [⟨tg, iter, ifs, 0⟩] scope pos) (some (.Name y py)) spos.line X.env = pure true) (hi : DIv X tg iter mi) (ok : BlkOk X.N X.env.scope scope own)
    (hg : ∀ (s : Shared) (H : Hp) (C : Addr) (cl : List (Str × Addr)) (fp : List Addr), DGv (X.blk s H scope (compEnvC scope cl C X.env) fp) tg g (own.map (·.2)))
    (ht : ∀ (s : Shared) (H : Hp) (C : Addr) (cl : List (Str × Addr)) (fp : List Addr), DTs (X.blk s H scope (compEnvC scope cl C X.env) fp) ifs c)
    (he : ∀ (s : Shared) (H : Hp) (C : Addr) (cl : List (Str × Addr)) (fp : List Addr), DV (X.blk s H scope (compEnvC scope cl C X.env) fp) elt m)
    (hs : ∀ x, foldedSetIterable iter X.env x = pure x := by intro _; rfl) : DS X (.Assign [.Name y py] (.ListComp elt [⟨tg, iter, ifs, 0⟩] scope pos) spos) (sSet i (oL (fLc mi g c m (own.map (·.2))))) := fun W tk ps =>
  PSw (ps_setLc (own := own) (g := tGv X.K g (own.map fun p : Str × Nat => p.2)) (tt := tTm X.K X.mg (fun _ _ _ _ => False) c) (te := tV X.K X.mg (fun _ _ _ _ => False) m) hc hN hy hyl hsw (hi W tk) ok (fun s H C cl fp => hg s H C cl fp) (fun s H C cl fp => ht s H C cl fp _ takes_no) (fun s H C cl fp => he s H C cl fp _ takes_no) hs) fun E σ H ⟨L, F, fr, env, fps, R, q⟩ => by
  show tLc (tIv X.K X.mg W mi) (tGv X.K g (own.map (·.2))) (tTm X.K X.mg (fun _ _ _ _ => False) c) (tV X.K X.mg (fun _ _ _ _ => False) m) (own.map (·.2)) σ H fun x H1 => gName i x σ H1 E.nx
  refine lc_read ⟨L, F, fr, env, fps, R, ?_⟩
  unfold sSet oL at q
  cases e : fLc mi g c m (own.map (·.2)) env with
  | bad => rw [e] at q; exact q
  | er x =>
    rw [e] at q
    exact fun cls d H' s z => q cls d σ _ H' fps (R.grow s) (Ev.grow R s) z
  | ok ds =>
    rw [e] at q
    intro p vs H1 s n r
    simp only at q
    by_cases hi : D.imms ds = true
    · rw [if_pos hi] at q
      simp only at q
      by_cases hl : i < env.length
      · rw [if_pos hl] at q
        simp only at q
        have s' := s.trans (same_upd (o := .lst vs) n)
        have f1 : ∀ q ∈ [p], H q = none := fun q hq => by rw [List.mem_singleton.mp hq]; exact s.free n
        have f2 : ∀ q ∈ [p], Nt (upd H1 p (.lst vs) q) := fun q hq => by rw [List.mem_singleton.mp hq]; exact nt_lst upd_same
        have sv : SlotV X.K (tkF F (upd H1 p (.lst vs))) (upd H1 p (.lst vs)) (.ref p) (.own (.lst ds)) [p] := ⟨.lst upd_same (ROs.of_imm ((r.mono (same_upd n)).chg tkF_tk hi) hi), by simp⟩
        exact q _ _ _ _ ((R.fresh s' f1 f2).set sv (R.nofr f1) hl) (Ev.grow R s')
      · rw [if_neg hl] at q; exact q.elim
    · rw [if_neg hi] at q; exact q.elim
end
end G9

namespace G9
open PySem PySem.Spec PyProof.Rows L2
noncomputable def valD (kvs : List (D × D)) (k : D) : Option D := (kvs.find? fun p => pr (p.1 = k)).map (·.2)
noncomputable def putD (kvs : List (D × D)) (k v : D) : List (D × D) := if (kvs.any fun p => pr (p.1 = k)) = true then kvs.map (fun p => if pr (p.1 = k) = true then (p.1, v) else p) else kvs ++ [(k, v)]
theorem rke_inj {k k' : Key} {d d' : D} (h : RKe k d) (h' : RKe k' d') : k = k' ↔ d = d' := by
  cases h with
  | int i =>
    cases h' with
    | int j => simp
    | str t => simp
  | str s =>
    cases h' with
    | int j => simp
    | str t => simp
theorem rkes_inj : ∀ {k k' : List Key} {d d' : List D}, RKes k d → RKes k' d' → (k = k' ↔ d = d')
  | _, _, _, _, .nil, .nil => by simp
  | _, _, _, _, .nil, .cons _ _ => by simp
  | _, _, _, _, .cons _ _, .nil => by simp
  | _, _, _, _, .cons a b, .cons a' b' => by
    have h1 := rke_inj a a'
    have h2 := rkes_inj b b'
    simp [h1, h2]
theorem rkey_inj {k k' : Sum Key (List Key)} {d d' : D} (h : RKey k d) (h' : RKey k' d') : k = k' ↔ d = d' := by
  cases h with
  | one a =>
    cases h' with
    | one b => simp [rke_inj a b]
    | tup b => cases a <;> simp
  | tup a =>
    cases h' with
    | one b => cases b <;> simp
    | tup b => simp [rkes_inj a b]
section
variable {K : PySem.W.Frag} {H F : Hp} {κ : Type} [DecidableEq κ] {f : κ → Sum Key (List Key)}
theorem pr_of {p q : Prop} [Decidable p] (h : p ↔ q) : pr q = decide p := by
  have : pr q = pr p := by rw [propext h]
  rw [this]
  unfold pr
  by_cases z : p <;> simp [z]
theorem rks_any (hf : ∀ a b, f a = f b → a = b) {k : κ} {dk : D} (rk : RKey (f k) dk) : ∀ {kvs : List (κ × V)} {dks : List (D × D)}, RKs K H (kvs.map fun p => (f p.1, p.2)) dks → (dks.any fun p => pr (p.1 = dk)) = kvs.any fun p => decide (p.1 = k)
  | [], _, .nil => rfl
  | p :: kvs, _, .cons (kd := kd) a b c => by
    rw [List.any_cons, List.any_cons, rks_any hf rk c]
    have : (p.1 = k) ↔ (kd = dk) := ⟨fun e => (rkey_inj a rk).mp (by rw [e]), fun e => hf _ _ ((rkey_inj a rk).mpr e)⟩
    rw [show pr ((kd, _).1 = dk) = decide (p.1 = k) from pr_of this]
theorem rks_app : ∀ {v w : List ((Sum Key (List Key)) × V)} {d e : List (D × D)}, RKs K H v d → RKs K H w e → RKs K H (v ++ w) (d ++ e)
  | _, _, _, _, .nil, s => s
  | _, _, _, _, .cons k a b, s => .cons k a (rks_app b s)
theorem rks_map (hf : ∀ a b, f a = f b → a = b) {k : κ} {dk : D} (rk : RKey (f k) dk) {v : V} {dv : D} (rv : RV K H v dv) : ∀ {kvs : List (κ × V)} {dks : List (D × D)}, RKs K H (kvs.map fun p => (f p.1, p.2)) dks →
    RKs K H ((kvs.map fun kv => if kv.1 = k then (kv.1, v) else kv).map fun p => (f p.1, p.2)) (dks.map fun p => if pr (p.1 = dk) = true then (p.1, dv) else p)
  | [], _, .nil => .nil
  | p :: kvs, _, .cons (kd := kd) (d := d) a b c => by
    have e : pr (kd = dk) = decide (p.1 = k) := pr_of ⟨fun e => (rkey_inj a rk).mp (by rw [e]), fun e => hf _ _ ((rkey_inj a rk).mpr e)⟩
    rw [List.map_cons, List.map_cons, List.map_cons]
    have ih := rks_map hf rk rv c
    by_cases h : p.1 = k
    · rw [if_pos h, if_pos (show pr ((kd, d).1 = dk) = true by rw [e]; simp [h])]
      exact .cons a rv ih
    · rw [if_neg h, if_neg (show ¬ pr ((kd, d).1 = dk) = true by rw [e]; simp [h])]
      exact .cons a b ih
theorem rks_put (hf : ∀ a b, f a = f b → a = b) {k : κ} {dk : D} (rk : RKey (f k) dk) {v : V} {dv : D} (rv : RV K H v dv) {kvs : List (κ × V)} {dks : List (D × D)} (h : RKs K H (kvs.map fun p => (f p.1, p.2)) dks) :
    RKs K H ((putK kvs k v).map fun p => (f p.1, p.2)) (putD dks dk dv) := by
  unfold putK putD
  rw [rks_any hf rk h]
  split
  · exact rks_map hf rk rv h
  · rw [List.map_append]
    exact rks_app h (.cons rk rv .nil)
theorem rks_len {v : List ((Sum Key (List Key)) × V)} {d : List (D × D)} (h : RKs K H v d) : v.length = d.length := by
  induction v generalizing d with
  | nil => cases h; rfl
  | cons p v ih =>
    cases h with
    | cons k a b => rw [List.length_cons, List.length_cons, ih b]
theorem ROk.imms : ∀ {v : List ((Sum Key (List Key)) × V)} {d : List (D × D)} {fp : List Addr}, ROk K F H v d fp → D.imms (d.map (·.2)) = true → RKs K F v d ∧ fp = []
  | _, _, _, .nil, _ => ⟨.nil, rfl⟩
  | _, _, _, .cons k a b, e => by
    rw [List.map_cons, imms_cons, Bool.and_eq_true] at e
    obtain ⟨h1, h2⟩ := RO.imm_fp a e.1
    obtain ⟨h3, h4⟩ := ROk.imms b e.2
    exact ⟨.cons k h1 h3, by rw [h2, h4]; rfl⟩
theorem ROk.of_imm : ∀ {v : List ((Sum Key (List Key)) × V)} {d : List (D × D)}, RKs K F v d → D.imms (d.map (·.2)) = true → ROk K F H v d []
  | _, _, .nil, _ => .nil
  | _, _, .cons k a b, e => by
    rw [List.map_cons, imms_cons, Bool.and_eq_true] at e
    exact .cons k (.imm e.1 a) (ROk.of_imm b e.2)
end
theorem imms_map_if {kvs : List (D × D)} {c : D × D → Bool} {v : D} (h : D.imms (kvs.map (·.2)) = true) (hv : v.imm = true) : D.imms ((kvs.map fun p => if c p = true then (p.1, v) else p).map (·.2)) = true := by
  induction kvs with
  | nil => exact h
  | cons p kvs ih =>
    rw [List.map_cons, imms_cons, Bool.and_eq_true] at h
    rw [List.map_cons, List.map_cons, imms_cons, ih h.2, Bool.and_true]
    split
    · exact hv
    · exact h.1
theorem imms_put {kvs : List (D × D)} {k v : D} (h : D.imms (kvs.map (·.2)) = true) (hv : v.imm = true) : D.imms ((putD kvs k v).map (·.2)) = true := by
  unfold putD
  split
  · exact imms_map_if h hv
  · rw [List.map_append]
    have app : ∀ (s t : List D), D.imms s = true → D.imms t = true → D.imms (s ++ t) = true := by
      intro s t hs ht
      induction s with
      | nil => exact ht
      | cons x s ih =>
        rw [imms_cons, Bool.and_eq_true] at hs
        rw [List.cons_append, imms_cons, hs.1, ih hs.2]
        rfl
    refine app _ _ h ?_
    rw [List.map_cons, List.map_nil, imms_cons, hv]
    rw [D.imms]
    rfl
def KeyAt (H : Hp) (t : Bool) (y : V) (d : D) : Prop := match t with
  | false => ∃ k, y = kV k ∧ RKe k d
  | true => ∃ ks b ds, d = .tup ds ∧ y = .ref b ∧ H b = some (.tup (ks.map kV)) ∧ RKes ks ds
def tKy (K : PySem.W.Frag) (mg : Str → Option Value) (W : WX) (t : Bool) (m : Env → Res D) : TE := fun σ H Q => ∃ L F fr env fps, RE K L F H fr σ env fps ∧
  match m env with
  | .bad => False
  | .er x => ∀ cls d H', Same H H' → ExR K mg x cls d H' → W cls d σ H'
  | .ok d => ∀ v H', Same H H' → KeyAt H' t v d → Q v H'
def DKy (X : Cx) (e : Expr) (t : Bool) (m : Env → Res D) : Prop := ∀ W, Takes X W → PE X e (tKy X.K X.mg W t m)
def kAtom (m : Env → Res D) : Env → Res D := fun env => match m env with
  | .ok (.int i) => .ok (.int i)
  | .ok (.str s) => .ok (.str s)
  | .er x => .er x
  | _ => .bad
def atomD : D → Bool
  | .int _ => true
  | .str _ => true
  | _ => false
theorem rvs_atoms {K : PySem.W.Frag} {H : Hp} : ∀ {vs : List V} {ds : List D}, RVs K H vs ds → ds.all atomD = true → ∃ ks : List Key, vs = ks.map kV ∧ RKes ks ds
  | _, _, .nil, _ => ⟨[], rfl, .nil⟩
  | _, _, .cons a b, h => by
    rw [List.all_cons, Bool.and_eq_true] at h
    obtain ⟨ks, e, r⟩ := rvs_atoms b h.2
    cases a with
    | int i => exact ⟨.inl i :: ks, by rw [e]; rfl, .cons (.int i) r⟩
    | str s => exact ⟨.inr _ :: ks, by rw [e]; rfl, .cons (.str s) r⟩
    | _ => cases h.1
section
variable {X : Cx} {a b e o i f : Expr} {es : List Expr} {pos : Pos} {t : Bool} {mk mv md : Env → Res D} {ms : Env → Res (List D)} {mp : Env → Res (Bool × D)} {ml : Env → Res (Nat × List Step)}
theorem dk_v (h : DV X e md) : DKy X e false (kAtom md) := fun W tk => PEw (h W tk) fun σ H Q ⟨L, F, fr, env, fps, R, q⟩ => by
  refine ⟨L, F, fr, env, fps, R, ?_⟩
  unfold kAtom at q
  cases ed : md env with
  | bad => rw [ed] at q; exact q
  | er x => rw [ed] at q; exact q
  | ok d =>
    rw [ed] at q
    intro v H' s r
    cases r with
    | int i => exact q _ H' s ⟨.inl i, rfl, .int i⟩
    | str z => exact q _ H' s ⟨.inr _, rfl, .str z⟩
    | _ => exact q.elim
def oDNew (t : Bool) : Env → ORes := fun env => .ok (.own (.dic t [])) env
theorem do_dnewK : DO X (.Dict [] [] pos) (oDNew false) := fun W _ => PEw pe_dnewK fun σ H Q ⟨L, F, fr, env, fps, R, q⟩ p n => by
  exact q (.ref p) _ _ [p] fps (R.more n (nt_dK (xs := []) rfl)) (Ev.grow R (same_upd n)) ⟨.dicK (kvs := []) upd_same .nil, by simp⟩ (fun r hr z => by rw [List.mem_singleton.mp hr] at z; exact (R.frd p z).2.some n)
noncomputable def sDPutV (t : Bool) (ml : Env → Res (Nat × List Step)) (mk mv : Env → Res D) : Env → Out := fun env => match mv env with
  | .bad => .bad
  | .er x => .er x env
  | .ok v => match ml env with
    | .ok (i, []) => match env[i]? with
      | some (.own (.dic t' kvs)) => match mk env with
        | .bad => .bad
        | .er x => .er x env
        | .ok k => if t' = t ∧ v.imm = true ∧ D.imms (kvs.map (·.2)) = true ∧ kvs.length < sizeLine then .nx (env.set i (.own (.dic t (putD kvs k v)))) else .bad
      | _ => .bad
    | _ => .bad
theorem ds_dput {tpos : Pos} (hu : X.A.units + 1 < cLine) (hv : DV X b mv) (ho : DPl X a ml) (hi : DKy X i t mk) (hs : swapsWith b (some (.Subscript a i tpos)) pos.line X.env = pure false := by rfl) :
    DS X (.Assign [.Subscript a i tpos] b pos) (sDPutV t ml mk mv) := fun W tk _ =>
  PSw (ps_dput hu (ho W tk) (hi W tk) (hv W tk) hs) fun E σ H ⟨L, F, fr, env, fps, R, q⟩ => by
  refine ⟨L, F, fr, env, fps, R, ?_⟩
  unfold sDPutV at q
  cases ev : mv env with
  | bad => rw [ev] at q; exact q
  | er x => rw [ev] at q; exact fun cls d H' s z => q cls d σ _ H' fps (R.grow s) (Ev.grow R s) z
  | ok v =>
    rw [ev] at q
    simp only at q
    intro w H1 s1 rw1
    refine ⟨L, _, fr, env, fps, R.grow s1, ?_⟩
    cases ea : ml env with
    | bad => rw [ea] at q; exact q
    | er y => rw [ea] at q; exact q.elim
    | ok p =>
      obtain ⟨j, r⟩ := p
      rw [ea] at q
      cases r with
      | cons _ _ => exact q.elim
      | nil =>
        simp only at q
        cases es : env[j]? with
        | none => rw [es] at q; exact q.elim
        | some sl =>
          rw [es] at q
          cases sl with
          | own d =>
            cases d with
            | dic t' kvs =>
              simp only at q
              intro v0 x H2 hv0 s2 hx
              refine ⟨L, _, fr, env, fps, (R.grow s1).grow s2, ?_⟩
              cases ek : mk env with
              | bad => rw [ek] at q; exact q
              | er y => rw [ek] at q; exact fun cls d H' s z => q cls d σ _ H' fps (R.grow ((s1.trans s2).trans s)) (Ev.grow R ((s1.trans s2).trans s)) z
              | ok k =>
                rw [ek] at q
                intro y H3 s3 ry
                simp only at q
                by_cases hc : t' = t ∧ v.imm = true ∧ D.imms (kvs.map (·.2)) = true ∧ kvs.length < sizeLine
                · rw [if_pos hc] at q
                  obtain ⟨rfl, him, hims, hlen⟩ := hc
                  have s123 := (s1.trans s2).trans s3
                  have R3 := R.grow s123
                  cases hx
                  obtain ⟨v1, hv1, ro, nd⟩ := R3.get es (.inr ⟨_, rfl⟩)
                  rw [hv0] at hv1
                  cases hv1
                  obtain ⟨fj, hfj⟩ : ∃ fj, fj = fps j := ⟨_, rfl⟩
                  rw [← hfj] at ro
                  have rv3 : RV X.K (tkF F H3) w v := (rw1.mono (s2.trans s3)).chg tkF_tk him
                  have him2 := imms_put (k := k) hims him
                  cases ro with
                  | imm hi' _ => rw [D.imm] at hi'; cases hi'
                  | @dicK a' kv0 _ f g rk =>
                    obtain ⟨rk', rfl⟩ := rk.imms hims
                    obtain ⟨k1, rfl, e⟩ := ry
                    have hl0 : kv0.length < sizeLine := by
                      have := rks_len rk'
                      rw [List.length_map] at this
                      omega
                    refine ⟨a', _, rfl, .inl ⟨kv0, k1, g, rfl, hl0, rfl⟩, ?_⟩
                    have rp := rks_put (f := Sum.inl) (fun _ _ h => Sum.inl.inj h) (.one e) rv3 rk'
                    obtain ⟨R4, ev4⟩ := RE.mut (tf := []) (fe := fps j) (fe' := [a']) (fp' := [a']) (out := []) (b := a') (o := .dK (putK kv0 k1 w)) (d' := .dic false (putD kvs k v)) R3.nil (fun p hp => by cases hp) es hv0 (by rw [← hfj]; exact List.mem_singleton.mpr rfl) (nt_dK rfl) (.dicK upd_same (ROk.of_imm rp him2))
                      ⟨by simp, fun p => ⟨fun h => .inl h, fun h => h.elim id fun z => absurd z.1 z.2⟩⟩ (fun p hp => .inl (by rw [← hfj]; exact hp)) (fun p hp => by cases hp) (fun p hp => by cases hp)
                    exact q σ _ _ _ (R4.frw fun p hp => .inl hp) ((Ev.grow R s123).trans ev4)
                  | @dicT a' kv0 _ f g rk =>
                    obtain ⟨rk', rfl⟩ := rk.imms hims
                    obtain ⟨ks, b', ds, rfl, rfl, hb, e⟩ := ry
                    have hl0 : kv0.length < sizeLine := by
                      have := rks_len rk'
                      rw [List.length_map] at this
                      omega
                    refine ⟨a', _, rfl, .inr ⟨kv0, ks, b', g, rfl, hb, hl0, rfl⟩, ?_⟩
                    have rp := rks_put (f := Sum.inr) (fun _ _ h => Sum.inr.inj h) (.tup e) rv3 rk'
                    obtain ⟨R4, ev4⟩ := RE.mut (tf := []) (fe := fps j) (fe' := [a']) (fp' := [a']) (out := []) (b := a') (o := .dT (putK kv0 ks w)) (d' := .dic true (putD kvs (.tup ds) v)) R3.nil (fun p hp => by cases hp) es hv0 (by rw [← hfj]; exact List.mem_singleton.mpr rfl) (nt_dT rfl) (.dicT upd_same (ROk.of_imm rp him2))
                      ⟨by simp, fun p => ⟨fun h => .inl h, fun h => h.elim id fun z => absurd z.1 z.2⟩⟩ (fun p hp => .inl (by rw [← hfj]; exact hp)) (fun p hp => by cases hp) (fun p hp => by cases hp)
                    exact q σ _ _ _ (R4.frw fun p hp => .inl hp) ((Ev.grow R s123).trans ev4)
                · rw [if_neg hc] at q; exact q.elim
            | _ => exact q.elim
          | _ => exact q.elim
end
end G9

namespace G9
open PySem PySem.Spec PyProof.Rows L2
def flatD : D → Bool
  | .non => true
  | .bl _ => true
  | .int _ => true
  | .str _ => true
  | _ => false
def feq (x y : D) : Bool := (scalD x y).getD false
def fOk (x y : D) : Bool := (scalD x y).isSome
def inD (x : D) (xs : List D) : Bool := xs.any fun y => feq y x
def gInQ (neg : Bool) (x y : D) : Res D := match itemsD y with
  | some ds => if flatD x = true ∧ ds.all flatD = true ∧ (ds.all fun d => fOk d x) = true then .ok (.bl (if neg = true then !inD x ds else inD x ds)) else .bad
  | none => .bad
theorem gInQ_ne {neg : Bool} : ∀ x y e, gInQ neg x y ≠ .er e := by
  intro x y e
  unfold gInQ
  split
  · split
    · intro z; cases z
    · intro z; cases z
  · intro z; cases z
section
variable {K : PySem.W.Frag} {H : Hp}
theorem rv_flat {v : V} {d : D} (r : RV K H v d) (h : flatD d = true) : flatV v = true := by
  cases r <;> first | rfl | cases h
theorem rv_feq {v u : V} {d e : D} (r : RV K H v d) (s : RV K H u e) (h : fOk d e = true) : eqV v u = feq d e := by
  cases r <;> cases s <;> first | rfl | (simp [fOk, scalD] at h; done) | (unfold feq; simp only [scalD, eqV, Option.getD_some]; rw [Bool.eq_iff_iff]; simp)
theorem rvs_flat : ∀ {vs : List V} {ds : List D}, RVs K H vs ds → ds.all flatD = true → vs.all flatV = true
  | _, _, .nil, _ => rfl
  | _, _, .cons a b, h => by
    rw [List.all_cons, Bool.and_eq_true] at h ⊢
    exact ⟨rv_flat a h.1, rvs_flat b h.2⟩
theorem rvs_in {x : V} {dx : D} (rx : RV K H x dx) : ∀ {vs : List V} {ds : List D}, RVs K H vs ds → (ds.all fun d => fOk d dx) = true → inV x vs = inD dx ds
  | _, _, .nil, _ => rfl
  | _, _, .cons a b, h => by
    rw [List.all_cons, Bool.and_eq_true] at h
    unfold inV inD
    rw [List.any_cons, List.any_cons, rv_feq a rx h.1]
    congr 1
    exact rvs_in rx b h.2
theorem ok_in {neg : Bool} : R2ok K (gInQ neg) (rIn K neg) := by
  intro H x y dx dy d Q hx hy eg h
  unfold gInQ at eg
  have go : ∀ (p : Addr) (xs : List V) (ds : List D), y = .ref p → (SqL K H p xs ∨ SqT K H p xs) → RVs K H xs ds → itemsD dy = some ds → rIn K neg x y H Q := by
    intro p xs ds hy' hs rs e
    rw [e] at eg
    simp only at eg
    by_cases c : flatD dx = true ∧ ds.all flatD = true ∧ (ds.all fun d => fOk d dx) = true
    · rw [if_pos c] at eg
      cases eg
      refine ⟨p, xs, hy', hs, rv_flat hx c.1, rvs_flat rs c.2.1, ?_⟩
      rw [rvs_in hx rs c.2.2]
      cases neg
      · exact h _ H (Same.refl H) (.bl _)
      · exact h _ H (Same.refl H) (.bl _)
    · rw [if_neg c] at eg; cases eg
  cases hy with
  | lst g rs => exact go _ _ _ rfl (.inl (.inl g)) rs rfl
  | scr g rs => exact go _ _ _ rfl (.inl g.sq) rs rfl
  | tup g rs => exact go _ _ _ rfl (.inr g) rs rfl
  | _ => cases eg
end
section
variable {X : Cx} {a b c e o i f : Expr} {es : List Expr} {pos : Pos} {ma mb md mk : Env → Res D} {ms : Env → Res (List D)} {mp : Env → Res (Bool × D)} {t : Bool}
def eInQ (neg : Bool) := m2 (gInQ neg)
theorem dt_inQ (ha : DV X a ma) (hb : DV X b mb) (hm : behindInMarks .In b = false := by rfl) : DT X (.Compare a [.In] [b] pos) (mB (eInQ false ma mb)) := dt_cmp op_in_seq ok_in gInQ_ne hm ha hb
def rngC (lo c : Int) (n : Nat) : List D := (List.range n).map fun (i : Nat) => .int (lo + (i : Int) * c)
noncomputable def rng3 : List D → Option (Int × Int × Nat)
  | [.int i, .int j, .int c] => @ite _ (RgC i j c (Builtin.Range.rangeSize i j c).toNat) (Classical.propDecidable _) (some (i, c, (Builtin.Range.rangeSize i j c).toNat)) none
  | _ => none
noncomputable def iRng3M (m : Env → Res (List D)) : Env → IRes := fun env => match m env with
  | .ok ds => match rng3 ds with
    | some r => .ok (rngC r.1 r.2.1 r.2.2) env
    | none => .bad
  | .er x => .er x env
  | .bad => .bad
theorem rng3_in {K : PySem.W.Frag} {H : Hp} {vs : List V} {ds : List D} {r : Int × Int × Nat} (rv : RVs K H vs ds) (h : rng3 ds = some r) : ∃ i j c n, vs = [.int i, .int j, .int c] ∧ RgC i j c n ∧ r = (i, c, n) := by
  unfold rng3 at h
  split at h
  · rename_i i j c
    split at h
    · rename_i hc
      cases h
      cases rv with
      | cons a r1 =>
        cases r1 with
        | cons b r2 =>
          cases r2 with
          | cons d r3 =>
            cases r3
            cases a
            cases b
            cases d
            exact ⟨i, j, c, _, rfl, hc, rfl⟩
    · cases h
  · cases h
theorem iter_rngC {K : PySem.W.Frag} {F1 H1 : Hp} {fp : List Addr} (lo c : Int) (n : Nat) : IterOk K (Itc lo c n) F1 H1 fp (rngC lo c n) := fun F2 H2 s1 s2 _ => by
  unfold rngC
  refine ⟨by show n ≤ _; rw [List.length_map, List.length_range]; exact Nat.le_refl _, fun i d hd => ?_⟩
  rw [List.getElem?_map] at hd
  cases ec : (List.range n)[i]? with
  | none => rw [ec] at hd; cases hd
  | some k =>
    rw [ec] at hd
    cases hd
    obtain ⟨hi, hc⟩ := List.getElem?_eq_some_iff.mp ec
    rw [List.length_range] at hi
    rw [List.getElem_range] at hc
    subst hc
    refine ⟨hi, fun x H' y => ?_⟩
    obtain ⟨rfl, rfl⟩ := y
    exact ⟨Same.refl _, .int _⟩
theorem di_range3 {tg : Expr} {p : Pos} (hg : Gl X "range") (hm : X.mg "range" = none) (h : DA X [a, b, c] ms) 
    (hs2 : starEach [a, b, c] X.env = (false, eval a X.env) :: starEach [b, c] X.env := by rfl) (hpl : (backTo pos (starEach [b, c] X.env)).any (·.1) = false := by rfl) : DI X tg (.Call (.Name "range" p) [a, b, c] [] pos) (iRng3M ms) := fun W tk =>
  PIw (pi_range3 hg hm (h W tk) hs2 hpl) fun σ H Rr ⟨L, F, fr, env, fps, R, q⟩ => by
  refine ⟨L, F, fr, env, fps, R, ?_⟩
  unfold iRng3M at q
  cases e : ms env with
  | bad => rw [e] at q; exact q
  | er x => rw [e] at q; exact fun cls d H' s z => q cls d _ H' fps (R.grow s) (Ev.grow R s) z
  | ok ds =>
    rw [e] at q
    intro vs H1 s r
    simp only at q
    cases er : rng3 ds with
    | none => rw [er] at q; exact q.elim
    | some rr =>
      rw [er] at q
      obtain ⟨i, j, c, n, rfl, hc, rfl⟩ := rng3_in r er
      exact ⟨i, j, c, n, rfl, hc, q _ _ H1 [] fps (R.grow s).nil (Ev.grow R s) (fun p hp => by cases hp) (iter_rngC i c n)⟩
def keysD (kvs : List (D × D)) : List D := kvs.map (·.1)
end
end G9

namespace G9
open PySem PySem.Spec PyProof.Rows L2
noncomputable instance decD : DecidableEq D := fun a b => Classical.propDecidable _
theorem un_le {k B : Nat} {A : Around} (hr : Room k A) (h : B ≤ 16 * k + 200) : A.units + B < cLine := by have := hr.un; omega
@[simp] theorem gInQ_l (neg : Bool) (x : D) (ds : List D) : gInQ neg x (.lst ds) = if flatD x = true ∧ ds.all flatD = true ∧ (ds.all fun d => fOk d x) = true then .ok (.bl (if neg = true then !inD x ds else inD x ds)) else .bad := (rfl)
@[simp] theorem gInQ_t (neg : Bool) (x : D) (ds : List D) : gInQ neg x (.tup ds) = if flatD x = true ∧ ds.all flatD = true ∧ (ds.all fun d => fOk d x) = true then .ok (.bl (if neg = true then !inD x ds else inD x ds)) else .bad := (rfl)
@[simp] theorem eInQ_d (neg : Bool) (a b : Env → Res D) (env : Env) : eInQ neg a b env = (a env).bind fun x => (b env).bind fun y => gInQ neg x y := (rfl)
@[simp] theorem flatD_i (i : Int) : flatD (.int i) = true := (rfl)
@[simp] theorem flatD_s (i : List Nat) : flatD (.str i) = true := (rfl)
theorem inD_ints (i : Int) (js : List Int) : ((js.map D.int).all flatD = true ∧ ((js.map D.int).all fun d => fOk d (.int i)) = true) ∧ inD (.int i) (js.map D.int) = decide (i ∈ js) := by
  refine ⟨⟨by simp, by simp [fOk, scalD]⟩, ?_⟩
  unfold inD
  rw [List.any_map, Bool.eq_iff_iff]
  simp [feq, scalD]
@[simp] theorem gInQ_ti (neg : Bool) (i : Int) (js : List Int) : gInQ neg (.int i) (.tup (js.map D.int)) = .ok (.bl (if neg = true then !decide (i ∈ js) else decide (i ∈ js))) := by
  obtain ⟨⟨h1, h2⟩, h3⟩ := inD_ints i js
  rw [gInQ_t, h3, if_pos ⟨rfl, h1, h2⟩]
@[simp] theorem gInQ_li (neg : Bool) (i : Int) (js : List Int) : gInQ neg (.int i) (.lst (js.map D.int)) = .ok (.bl (if neg = true then !decide (i ∈ js) else decide (i ∈ js))) := by
  obtain ⟨⟨h1, h2⟩, h3⟩ := inD_ints i js
  rw [gInQ_l, h3, if_pos ⟨rfl, h1, h2⟩]
@[simp] theorem kAtom_d (m : Env → Res D) (env : Env) : kAtom m env = match m env with
  | .ok (.int i) => .ok (.int i)
  | .ok (.str s) => .ok (.str s)
  | .er x => .er x
  | _ => .bad := (rfl)
@[simp] theorem atomD_i (i : Int) : atomD (.int i) = true := (rfl)
@[simp] theorem atomD_s (i : List Nat) : atomD (.str i) = true := (rfl)
@[simp] theorem oDNew_d (t : Bool) (env : Env) : oDNew t env = .ok (.own (.dic t [])) env := (rfl)
@[simp] theorem sDPutV_d (t : Bool) (ml : Env → Res (Nat × List Step)) (mk mv : Env → Res D) (env : Env) : sDPutV t ml mk mv env = match mv env with
  | .bad => .bad
  | .er x => .er x env
  | .ok v => match ml env with
    | .ok (i, []) => match env[i]? with
      | some (.own (.dic t' kvs)) => match mk env with
        | .bad => .bad
        | .er x => .er x env
        | .ok k => if t' = t ∧ v.imm = true ∧ D.imms (kvs.map (·.2)) = true ∧ kvs.length < sizeLine then .nx (env.set i (.own (.dic t (putD kvs k v)))) else .bad
      | _ => .bad
    | _ => .bad := (rfl)
@[simp] theorem valD_nil (k : D) : valD [] k = none := (rfl)
theorem valD_cons (p : D × D) (r : List (D × D)) (k : D) : valD (p :: r) k = if p.1 = k then some p.2 else valD r k := by
  unfold valD
  rw [List.find?_cons]
  by_cases h : p.1 = k
  · rw [show pr (p.1 = k) = true by rw [pr_eq]; exact h, if_pos h]
    rfl
  · rw [show pr (p.1 = k) = false by rw [← Bool.not_eq_true, pr_eq]; exact h, if_neg h]
theorem putD_new {kvs : List (D × D)} {k v : D} (h : valD kvs k = none) : putD kvs k v = kvs ++ [(k, v)] := by
  unfold putD
  have : (kvs.any fun p => pr (p.1 = k)) = false := by
    induction kvs with
    | nil => rfl
    | cons p kvs ih =>
      rw [valD_cons] at h
      split at h
      · cases h
      · rename_i hn
        rw [List.any_cons, ih h, show pr (p.1 = k) = false by rw [← Bool.not_eq_true, pr_eq]; exact hn]
        rfl
  rw [this]
  simp
@[simp] theorem fLc_d (mi : Env → Res (Bool × List D)) (g : D → Env → Option Env) (c : Env → Res Bool) (m : Env → Res D) (vs : List Nat) (env : Env) : fLc mi g c m vs env = (mi env).bind fun p =>
  if p.2.length ≤ sizeLine ∧ (p.1 = true ∨ D.imms p.2 = true) then (match runLc g c m (killW env vs) p.2 with | .ok xs => .ok xs | _ => .bad) else .bad := (rfl)
@[simp] theorem killW_n (env : Env) : killW env [] = env := (rfl)
@[simp] theorem killW_c (env : Env) (v : Nat) (vs : List Nat) : killW env (v :: vs) = (killW env vs).set v .dead := (rfl)
@[simp] theorem cYes_d (env : Env) : cYes env = .ok true := (rfl)
@[simp] theorem jTup_d (m : Env → Res (Bool × D)) (env : Env) : jTup m env = match m env with
  | .ok (k, .tup ds) => .ok (k, ds)
  | .er x => .er x
  | _ => .bad := (rfl)
noncomputable def jR : Res (List D) → Res (Bool × List D)
  | .ok [.int j] => @ite _ (-(2 ^ 62) ≤ j ∧ j < 2 ^ 62) (Classical.propDecidable _) (.ok (true, rngD 0 j.toNat)) .bad
  | .ok [.int i, .int j] => @ite _ (-(2 ^ 62) ≤ i ∧ i < 2 ^ 62 ∧ -(2 ^ 62) ≤ j ∧ j < 2 ^ 62) (Classical.propDecidable _) (.ok (true, rngD i (j - i).toNat)) .bad
  | .er x => .er x
  | _ => .bad
@[simp] theorem jRng_d (m : Env → Res (List D)) (env : Env) : jRng m env = jR (m env) := by
  unfold jRng jR
  rfl
@[simp] theorem jR_1 (j : Int) : jR (.ok [.int j]) = if -4611686018427387904 ≤ j ∧ j < 4611686018427387904 then .ok (true, rngD 0 j.toNat) else .bad := by
  have e : jR (.ok [.int j]) = if -(2 ^ 62) ≤ j ∧ j < 2 ^ 62 then .ok (true, rngD 0 j.toNat) else .bad := by
    by_cases h : -(2 ^ 62) ≤ j ∧ j < 2 ^ 62
    · rw [if_pos h]
      exact if_pos h
    · rw [if_neg h]
      exact if_neg h
  rw [e]
  simp only [p62]
@[simp] theorem jR_2 (i j : Int) : jR (.ok [.int i, .int j]) = if -4611686018427387904 ≤ i ∧ i < 4611686018427387904 ∧ -4611686018427387904 ≤ j ∧ j < 4611686018427387904 then .ok (true, rngD i (j - i).toNat) else .bad := by
  have e : jR (.ok [.int i, .int j]) = if -(2 ^ 62) ≤ i ∧ i < 2 ^ 62 ∧ -(2 ^ 62) ≤ j ∧ j < 2 ^ 62 then .ok (true, rngD i (j - i).toNat) else .bad := by
    by_cases h : -(2 ^ 62) ≤ i ∧ i < 2 ^ 62 ∧ -(2 ^ 62) ≤ j ∧ j < 2 ^ 62
    · rw [if_pos h]
      exact if_pos h
    · rw [if_neg h]
      exact if_neg h
  rw [e]
  simp only [p62]
@[simp] theorem itmL_l (xs : List D) : itmL (.lst xs) = some xs := (rfl)
@[simp] theorem itmL_c (xs : List D) : itmL (.scr xs) = some xs := (rfl)
noncomputable def srt (B : Nat) (xs : List D) : Res (List D) := @ite _ (SrtOk B xs) (Classical.propDecidable _) (.ok (sortD xs)) .bad
theorem srt_ok {B : Nat} {xs : List D} (h : SrtOk B xs) : srt B xs = .ok (sortD xs) := if_pos h
@[simp] theorem iRng3M_d (m : Env → Res (List D)) (env : Env) : iRng3M m env = match m env with
  | .ok ds => match rng3 ds with
    | some r => .ok (rngC r.1 r.2.1 r.2.2) env
    | none => .bad
  | .er x => .er x env
  | .bad => .bad := (rfl)
theorem rng3_ok {i j c : Int} {n : Nat} (h : RgC i j c n) : rng3 [.int i, .int j, .int c] = some (i, c, n) := by
  have e : (Builtin.Range.rangeSize i j c).toNat = n := by
    rw [h.2.2.2]
    simp
  unfold rng3
  dsimp only
  rw [e]
  exact if_pos h
end G9

namespace G9
open PySem PySem.Spec PyProof.Rows L2
def s5 : Nat → Nat
  | 0 => 0
  | k + 1 => s5 k * 5 + 1
theorem s5_lcg (m : Nat) : ∀ k, lcgN m k = s5 k % (m + 1)
  | 0 => by simp [lcgN, s5]
  | k + 1 => by
    show (lcgN m k * 5 + 1) % (m + 1) = (s5 k * 5 + 1) % (m + 1)
    rw [s5_lcg m k]
    simp [Nat.add_mod, Nat.mul_mod]
theorem s5_add (a : Nat) : ∀ b, s5 (a + b) = s5 a * 5 ^ b + s5 b
  | 0 => by simp [s5]
  | b + 1 => by
    show s5 (a + b) * 5 + 1 = s5 a * 5 ^ (b + 1) + (s5 b * 5 + 1)
    rw [s5_add a b, Nat.pow_succ, Nat.add_mul, Nat.mul_assoc]
    omega
theorem five_mod (n : Nat) : 5 ^ n % 4 = 1 := by
  induction n with
  | zero => rfl
  | succ n ih => rw [Nat.pow_succ]; omega
theorem s5_par : ∀ k, s5 k % 2 = k % 2
  | 0 => rfl
  | k + 1 => by
    have := s5_par k
    show (s5 k * 5 + 1) % 2 = _
    omega
theorem s5_twice (c : Nat) : ∃ q, s5 (2 * c) = s5 c * (2 * q + 1) * 2 := by
  have h := five_mod c
  refine ⟨5 ^ c / 4, ?_⟩
  have e : 5 ^ c + 1 = (2 * (5 ^ c / 4) + 1) * 2 := by omega
  rw [show 2 * c = c + c by omega, s5_add, Nat.mul_assoc, ← e, Nat.mul_add, Nat.mul_one]
theorem odd_cop (k q : Nat) : Nat.Coprime (2 ^ k) (2 * q + 1) := by
  refine Nat.Coprime.pow_left k ?_
  unfold Nat.Coprime
  rw [Nat.gcd_rec]
  have : (2 * q + 1) % 2 = 1 := by omega
  rw [this]
  decide
theorem s5_dvd : ∀ (k b : Nat), 2 ^ k ∣ s5 b → 2 ^ k ∣ b
  | 0, b, _ => by rw [Nat.pow_zero]; exact Nat.one_dvd b
  | k + 1, b, h => by
    have h2 : 2 ∣ s5 b := Nat.dvd_trans ⟨2 ^ k, by rw [Nat.pow_succ, Nat.mul_comm]⟩ h
    have hp := s5_par b
    obtain ⟨c, rfl⟩ : ∃ c, b = 2 * c := ⟨b / 2, by omega⟩
    obtain ⟨q, e⟩ := s5_twice c
    rw [e, Nat.pow_succ] at h
    have h3 : 2 ^ k ∣ s5 c * (2 * q + 1) := Nat.dvd_of_mul_dvd_mul_right (by decide) h
    have h4 := s5_dvd k c ((odd_cop k q).dvd_of_dvd_mul_right h3)
    rw [Nat.pow_succ, Nat.mul_comm]
    exact Nat.mul_dvd_mul_left 2 h4
theorem dvd_s5 : ∀ k, 2 ^ k ∣ s5 (2 ^ k)
  | 0 => Nat.one_dvd _
  | k + 1 => by
    obtain ⟨q, e⟩ := s5_twice (2 ^ k)
    rw [Nat.pow_succ, Nat.mul_comm (2 ^ k) 2, e, Nat.mul_comm 2]
    exact Nat.mul_dvd_mul_right (Nat.dvd_trans (dvd_s5 k) ⟨_, rfl⟩) 2
def Ones (m : Nat) : Prop := ∃ k, m + 1 = 2 ^ k
theorem one_round {m : Nat} (hm : Ones m) : lcgN m (m + 1) = 0 := by
  obtain ⟨k, e⟩ := hm
  rw [s5_lcg, e]
  exact Nat.mod_eq_zero_of_dvd (dvd_s5 k)
theorem one_inj {m : Nat} (hm : Ones m) {a b : Nat} (hab : a ≤ b) (hb : b ≤ m) (h : lcgN m a = lcgN m b) : a = b := by
  obtain ⟨k, e⟩ := hm
  rw [s5_lcg, s5_lcg, e] at h
  obtain ⟨d, rfl⟩ : ∃ d, b = d + a := ⟨b - a, by omega⟩
  rw [s5_add] at h
  have h1 : 2 ^ k ∣ s5 d * 5 ^ a := by
    have q := Nat.dvd_of_mod_eq_zero (Nat.sub_mod_eq_zero_of_mod_eq h.symm)
    rwa [Nat.add_sub_cancel] at q
  have h2 : Nat.Coprime (2 ^ k) (5 ^ a) := by
    have := five_mod a
    obtain ⟨q, hq⟩ : ∃ q, 5 ^ a = 2 * q + 1 := ⟨5 ^ a / 2, by omega⟩
    rw [hq]
    exact odd_cop k q
  have h3 := s5_dvd k d (h2.dvd_of_dvd_mul_right h1)
  rcases Nat.eq_zero_or_pos d with z | z
  · omega
  · have := Nat.le_of_dvd z h3
    omega
theorem one_all {m : Nat} (hm : Ones m) {j : Nat} (hj : j ≤ m) : ∃ b, b ≤ m ∧ lcgN m b = j := by
  rcases Classical.em (∃ b, b ≤ m ∧ lcgN m b = j) with c | c
  · exact c
  · exfalso
    have nd : ((List.range (m + 1)).map (lcgN m)).Nodup := by
      refine List.pairwise_map.mpr ((List.pairwise_lt_range).imp_of_mem fun {a b} ha hb hlt he => ?_)
      have := one_inj hm (Nat.le_of_lt hlt) (Nat.le_of_lt_succ (List.mem_range.mp hb)) he
      omega
    have nj : j ∉ (List.range (m + 1)).map (lcgN m) := fun h => by
      obtain ⟨b, hb, e⟩ := List.mem_map.mp h
      exact c ⟨b, Nat.le_of_lt_succ (List.mem_range.mp hb), e⟩
    have q := nat_nodup_len (j :: (List.range (m + 1)).map (lcgN m)) (List.range (m + 1)) (List.nodup_cons.mpr ⟨nj, nd⟩) fun x hx => by
      rcases List.mem_cons.mp hx with e | hx
      · rw [e]; exact List.mem_range.mpr (Nat.lt_succ_of_le hj)
      · obtain ⟨b, _, e⟩ := List.mem_map.mp hx
        rw [← e, s5_lcg]
        exact List.mem_range.mpr (Nat.mod_lt _ (Nat.succ_pos m))
    simp at q
    omega
theorem one_mod {m : Nat} (hm : Ones m) : ∀ k, lcgN m (m + 1 + k) = lcgN m k
  | 0 => one_round hm
  | k + 1 => by
    have := one_mod hm k
    show (lcgN m (m + 1 + k) * 5 + 1) % (m + 1) = (lcgN m k * 5 + 1) % (m + 1)
    rw [this]
theorem one_from {m : Nat} (hm : Ones m) {i j : Nat} (hi : i ≤ m) (hj : j ≤ m) : ∃ k, k ≤ m ∧ lcgI m i k = j := by
  obtain ⟨a, ha, ea⟩ := one_all hm hi
  obtain ⟨b, hb, eb⟩ := one_all hm hj
  subst ea
  by_cases c : a ≤ b
  · exact ⟨b - a, by omega, by rw [lcgN_add, show a + (b - a) = b by omega, eb]⟩
  · exact ⟨m + 1 + b - a, by omega, by rw [lcgN_add, show a + (m + 1 + b - a) = m + 1 + b by omega, one_mod hm, eb]⟩
theorem one_meets {m : Nat} (hm : Ones m) (h : Int) {j : Nat} (hj : j ≤ m) : ∃ n, n ≤ m + 12 ∧ runI m (SetTable.bits h) n = j := by
  obtain ⟨k, hk, e⟩ := one_from hm (runI_le m (SetTable.bits h) 12) hj
  exact ⟨12 + k, by omega, (runI_tail (bits_lt h) k).trans e⟩
theorem way_in (m : Nat) (h : Int) (k : Nat) : way m h k ≤ m := by
  have hi : SetTable.bits h % (m + 1) ≤ m := Nat.le_of_lt_succ (Nat.mod_lt _ (Nat.succ_pos _))
  have r := runEnd_bd hi
  have q := nth_in (m := m) k (runAt m (SetTable.bits h % (m + 1)) (SetTable.bits h)) (by
    show SetTable.bits h % (m + 1) + (SetTable.runEnd m (SetTable.bits h % (m + 1)) - SetTable.bits h % (m + 1)) ≤ m
    omega)
  exact Nat.le_trans (Nat.le_add_right _ _) q
theorem way_meets {m : Nat} (hm : Ones m) (h : Int) {j : Nat} (hj : j ≤ m) : ∃ k, k < 10 * SetTable.turns m ∧ way m h k = j := by
  obtain ⟨n, hn, e⟩ := one_meets hm h hj
  obtain ⟨k, hk, e2⟩ := run_nth m (SetTable.bits h) n
  refine ⟨k, by unfold SetTable.turns; omega, ?_⟩
  show (nth m (runAt m (SetTable.bits h % (m + 1)) (SetTable.bits h)) k).j = j
  rw [e2]
  exact e
structure Tab (t : SetTable) (hs : List Int) : Prop where
  ris : Ris t.place.toList
  dm : t.dummies = #[]
  sz : t.place.size = hs.length
  one : Ones t.mask
  le : ∀ x ∈ t.place.toList, x ≤ t.mask
  hit : ∀ (i : Nat) (h : Int) (j : Nat), hs[i]? = some h → t.place.toList[i]? = some j → ∃ k, way t.mask h k = j ∧ ∀ k', k' < k → way t.mask h k' ∈ t.place.toList
theorem Tab.len {t : SetTable} {hs : List Int} (T : Tab t hs) : t.place.toList.length = hs.length := by rw [Array.length_toList, T.sz]
theorem Tab.gap {t : SetTable} {hs : List Int} (T : Tab t hs) (hl : hs.length ≤ t.mask) (h : Int) : ∃ K, K < 10 * SetTable.turns t.mask ∧ way t.mask h K ∉ t.place.toList ∧ ∀ k, k < K → way t.mask h k ∈ t.place.toList := by
  have hlen := T.len
  obtain ⟨j, hj, hn⟩ := st_missing t.place.toList (t.mask + 1) (by omega)
  obtain ⟨k, hk, e⟩ := way_meets T.one h (Nat.le_of_lt_succ hj)
  obtain ⟨K, h1, h2, h3⟩ := st_least (p := fun k => way t.mask h k ∉ t.place.toList) k (by rw [e]; exact hn)
  exact ⟨K, by omega, h2, fun k' hk' => Classical.byContradiction fun c => h3 k' hk' c⟩
theorem Tab.ahead {t : SetTable} {hs : List Int} (T : Tab t hs) {h : Int} {K i j : Nat} (hK : way t.mask h K ∉ t.place.toList) (hi : hs[i]? = some h) (hj : t.place.toList[i]? = some j) : ∃ k, k < K ∧ way t.mask h k = j := by
  obtain ⟨k, e, hb⟩ := T.hit i h j hi hj
  refine ⟨k, Classical.byContradiction fun c => ?_, e⟩
  rcases Nat.lt_or_ge K k with z | z
  · exact hK (hb K z)
  · have : k = K := by omega
    subst this
    rw [e] at hK
    exact hK (List.mem_of_getElem? hj)
structure PutIn (t : SetTable) (h : Int) (j : Nat) (hs : List Int) (t' : SetTable) (p : Nat) : Prop where
  ple : p ≤ hs.length
  tab : Tab t' (hs.take p ++ h :: hs.drop p)
  ma : t'.mask = t.mask
  ld : t'.led = t.led
  fl : t'.fill = hs.length + 1
theorem Tab.putIn {t : SetTable} {hs : List Int} (T : Tab t hs) {h : Int} {K : Nat} (hK : way t.mask h K ∉ t.place.toList) (hb : ∀ k, k < K → way t.mask h k ∈ t.place.toList) :
    PutIn t h (way t.mask h K) hs (t.put (way t.mask h K)).1 (t.put (way t.mask h K)).2 := by
  have hjm := way_in t.mask h K
  generalize hj : way t.mask h K = j at hK hjm ⊢
  have c1 := (below_cut T.ris j).1
  have hph : (t.put j).2 ≤ hs.length := by rw [← T.sz]; exact c1
  have hpl : SetTable.below t.place j ≤ t.place.toList.length := by rw [T.len]; exact hph
  have hnp : t.place[SetTable.below t.place j]? ≠ some j := fun e => hK (List.mem_of_getElem? (by rw [Array.getElem?_toList]; exact e))
  have hpp := put_place t j
  have hsize : (t.put j).1.place.size = hs.length + 1 := by rw [← Array.length_toList, hpp, len_ins _ hpl, T.len]
  have hdm := put_dm T.dm j
  have up : ∀ x ∈ t.place.toList, x ∈ (t.put j).1.place.toList := fun x hx => by rw [hpp]; exact mem_ins.2 (.inr hx)
  refine ⟨hph, ⟨ris_insert T.ris hnp, hdm, ?_, T.one, fun x hx => ?_, fun i h' j' h1 h2 => ?_⟩, rfl, rfl, ?_⟩
  · rw [len_ins _ hph, hsize]
  · rw [hpp] at hx
    rcases mem_ins.1 hx with z | z
    · rw [z]; exact hjm
    · exact T.le x z
  · rw [tins_get hs hph] at h1
    rw [hpp, tins_get _ hpl] at h2
    have old : ∀ i', hs[i']? = some h' → t.place.toList[i']? = some j' → ∃ k, way t.mask h' k = j' ∧ ∀ k', k' < k → way t.mask h' k' ∈ (t.put j).1.place.toList := fun i' a b => by
      obtain ⟨k, e, z⟩ := T.hit i' h' j' a b
      exact ⟨k, e, fun k' hk' => up _ (z k' hk')⟩
    change (if i < SetTable.below t.place j then _ else _) = _ at h1
    show ∃ k, way t.mask h' k = j' ∧ ∀ k', k' < k → way t.mask h' k' ∈ (t.put j).1.place.toList
    by_cases c : i < SetTable.below t.place j
    · rw [if_pos c] at h1 h2
      exact old i h1 h2
    · rw [if_neg c] at h1 h2
      by_cases d : i = SetTable.below t.place j
      · change (if i = SetTable.below t.place j then _ else _) = _ at h1
        rw [if_pos d] at h1 h2
        obtain rfl := Option.some.inj h1
        obtain rfl := Option.some.inj h2
        exact ⟨K, hj, fun k' hk' => up _ (hb k' hk')⟩
      · change (if i = SetTable.below t.place j then _ else _) = _ at h1
        rw [if_neg d] at h1 h2
        exact old (i - 1) h1 h2
  · show (t.put j).1.place.size + (t.put j).1.dummies.size = _
    rw [hsize, hdm]
    rfl
theorem free_at {m : Nat} (hm : Ones m) (owner : Array (Option Nat)) (h : Int) {j : Nat} (hj : j ≤ m) (hf : oAt owner j = none) :
    ∃ K, SetTable.layClean.free m owner (SetTable.turns m) (SetTable.bits h % (m + 1)) (SetTable.bits h) = some (way m h K) ∧ oAt owner (way m h K) = none ∧ ∀ k, k < K → oAt owner (way m h k) ≠ none := by
  obtain ⟨n, hn, e⟩ := one_meets hm h hj
  have hw : way m h (off m (SetTable.bits h % (m + 1)) (SetTable.bits h) n) = j := by
    show (nth m (runAt m (SetTable.bits h % (m + 1)) (SetTable.bits h)) (off m (SetTable.bits h % (m + 1)) (SetTable.bits h) n)).j = j
    rw [nth_off, itL_run]
    exact e
  obtain ⟨K, k1, k2, k3⟩ := st_least (p := fun k => oAt owner (way m h k) = none) (off m (SetTable.bits h % (m + 1)) (SetTable.bits h) n) (by rw [hw]; exact hf)
  refine ⟨K, free_spec m owner (SetTable.turns m) n _ _ K (by unfold SetTable.turns; omega) k1 (fun k hk => ?_) ?_, k2, k3⟩
  · cases z : oAt owner (nth m (runAt m (SetTable.bits h % (m + 1)) (SetTable.bits h)) k).j with
    | none => exact absurd z (k3 k hk)
    | some _ => rfl
  · rw [show oAt owner (nth m (runAt m (SetTable.bits h % (m + 1)) (SetTable.bits h)) K).j = none from k2]
    rfl
theorem own_more {m : Nat} (hm : Ones m) {done : List Int} {owner : Array (Option Nat)} (W : Own m done owner) (hl : done.length ≤ m) (h : Int) :
    ∃ j, SetTable.layClean.free m owner (SetTable.turns m) (SetTable.bits h % (m + 1)) (SetTable.bits h) = some j ∧ Own m (done ++ [h]) (owner.setIfInBounds j (some done.length)) := by
  obtain ⟨ps, hps, hin⟩ := W.ps
  obtain ⟨j0, h0, hn0⟩ := st_missing ps (m + 1) (by omega)
  have hj0 : oAt owner j0 = none := Classical.byContradiction fun c => hn0 (hin j0 (Nat.le_of_lt_succ h0) c)
  obtain ⟨K, e1, e2, e3⟩ := free_at hm owner h (Nat.le_of_lt_succ h0) hj0
  have hjm := way_in m h K
  have hself := oAt_set_self (owner := owner) (j := way m h K) (some done.length) (by rw [W.sz]; omega)
  have mono : ∀ {i : Nat}, oAt owner i ≠ none → oAt (owner.setIfInBounds (way m h K) (some done.length)) i ≠ none := fun {i} hi => by
    by_cases c : i = way m h K
    · rw [c, hself]; exact Option.some_ne_none _
    · rw [oAt_set_ne _ c]; exact hi
  refine ⟨way m h K, e1, by rw [Array.size_setIfInBounds]; exact W.sz, fun j k hj e => ?_, fun k hk => ?_, way m h K :: ps, by simp [hps], fun j hj e => ?_⟩
  · by_cases c : j = way m h K
    · rw [c, hself] at e
      obtain rfl := Option.some.inj e
      exact ⟨h, K, by simp, c.symm, fun k' hk' => mono (e3 k' hk')⟩
    · rw [oAt_set_ne _ c] at e
      obtain ⟨h', K', a1, a2, a3⟩ := W.at_ j k hj e
      exact ⟨h', K', by rw [List.getElem?_append_left (List.getElem?_eq_some_iff.mp a1).1]; exact a1, a2, fun k' hk' => mono (a3 k' hk')⟩
  · by_cases c : k < done.length
    · obtain ⟨j, hj, e⟩ := W.all k c
      refine ⟨j, hj, ?_⟩
      rw [oAt_set_ne _ (fun z => by rw [z, e2] at e; cases e)]
      exact e
    · simp at hk
      have : k = done.length := by omega
      subst this
      exact ⟨way m h K, hjm, hself⟩
  · by_cases c : j = way m h K
    · rw [c]; exact List.mem_cons_self
    · rw [oAt_set_ne _ c] at e
      exact List.mem_cons_of_mem _ (hin j hj e)
theorem own_fold {m : Nat} (hm : Ones m) : ∀ (rest done : List Int) (owner : Array (Option Nat)), Own m done owner → done.length + rest.length ≤ m →
    ∃ owner', rest.foldl (stepF m) (some (owner, done.length)) = some (owner', (done ++ rest).length) ∧ Own m (done ++ rest) owner'
  | [], done, owner, W, _ => ⟨owner, by rw [List.append_nil]; rfl, by rw [List.append_nil]; exact W⟩
  | h :: rest, done, owner, W, hl => by
    rw [List.length_cons] at hl
    obtain ⟨j, e, W'⟩ := own_more hm W (by omega) h
    have hl' : (done ++ [h]).length = done.length + 1 := by simp
    obtain ⟨owner', f, W2⟩ := own_fold hm rest (done ++ [h]) _ W' (by omega)
    rw [List.append_assoc, hl'] at f
    rw [List.append_assoc] at W2
    refine ⟨owner', ?_, W2⟩
    rw [List.foldl_cons, stepF_some e]
    exact f
theorem relaid_tab (t : SetTable) {hs : Array Int} {wanted M : Nat} (hw : SetTable.sizeAbove wanted - 1 = M) (hM : Ones M) (hn : hs.size ≤ M) :
    ∃ t' order, t.relaid hs wanted = some (t', order) ∧ order.toList.Perm (List.range hs.size) ∧ Tab t' (order.toList.map fun i => hs.getD i 0) ∧ t'.mask = M ∧ t'.led = t.led := by
  obtain ⟨owner, f, W⟩ := own_fold hM hs.toList [] _ (Own.init M) (by simpa using hn)
  have e : SetTable.layClean M hs = some owner := by
    rw [layClean_eq]
    have f' : hs.toList.foldl (stepF M) (some (Array.replicate (M + 1) none, 0)) = some (owner, ([] ++ hs.toList).length) := f
    rw [f']
    rfl
  rw [List.nil_append] at W
  have hr : t.relaid hs wanted = some (tabOf t M owner, ((liveOf M owner).map (·.2)).toArray) := by
    rw [relaid_eq, hw, e]
    rfl
  obtain ⟨r1, r2⟩ := ris_live (fun j => owner.getD j none) (List.range (M + 1)) (by unfold Ris; exact List.pairwise_lt_range)
  have hlen : (liveOf M owner).length = hs.size := by
    obtain ⟨ps, p1, p2⟩ := W.ps
    have a := nat_nodup_len ((liveOf M owner).map (·.1)) ps (show ((liveOf M owner).map (·.1)).Nodup from List.Pairwise.imp (fun h => Nat.ne_of_lt h) r1) fun x hx => by
      obtain ⟨⟨y, k⟩, hq, rfl⟩ := List.mem_map.mp hx
      obtain ⟨b1, b2⟩ := (mem_live W.sz).1 hq
      exact p2 y b1 (by rw [b2]; exact Option.some_ne_none _)
    have b := nat_nodup_len (List.range hs.size) ((liveOf M owner).map (·.2)) List.nodup_range fun k hk => by
      obtain ⟨j, b1, b2⟩ := W.all k (by rw [Array.length_toList]; exact List.mem_range.mp hk)
      exact List.mem_map.mpr ⟨(j, k), (mem_live W.sz).2 ⟨b1, b2⟩, rfl⟩
    rw [List.length_map, p1] at a
    have hz : hs.toList.length = hs.size := Array.length_toList
    rw [List.length_map, List.length_range] at b
    omega
  refine ⟨_, _, hr, perm_range hs.size _ ?_ fun k hk => ?_, ⟨r1, rfl, ?_, hM, fun x hx => Nat.le_of_lt_succ (List.mem_range.mp (r2 x hx)), fun i h j h1 h2 => ?_⟩, rfl, rfl⟩
  · show ((liveOf M owner).map (·.2)).length = _
    rw [List.length_map, hlen]
  · obtain ⟨j, b1, b2⟩ := W.all k (by rw [Array.length_toList]; exact hk)
    exact List.mem_map.mpr ⟨(j, k), (mem_live W.sz).2 ⟨b1, b2⟩, rfl⟩
  · show ((liveOf M owner).map (·.1)).toArray.size = (((liveOf M owner).map (·.2)).map fun i => hs.getD i 0).length
    simp
  · have h1' : (((liveOf M owner).map (·.2)).map fun i => hs.getD i 0)[i]? = some h := h1
    have h2' : ((liveOf M owner).map (·.1))[i]? = some j := h2
    rw [List.getElem?_map, List.getElem?_map] at h1'
    rw [List.getElem?_map] at h2'
    cases hq : (liveOf M owner)[i]? with
    | none => rw [hq] at h2'; cases h2'
    | some q =>
      obtain ⟨y, k⟩ := q
      rw [hq] at h1' h2'
      obtain rfl : y = j := Option.some.inj h2'
      have eh : hs.getD k 0 = h := Option.some.inj h1'
      obtain ⟨b1, b2⟩ := (mem_live W.sz).1 (List.mem_of_getElem? hq)
      obtain ⟨h0, K, a1, a2, a3⟩ := W.at_ y k b1 b2
      have e0 : hs.getD k 0 = h0 := by
        rw [Array.getElem?_toList] at a1
        simp [Array.getD_eq_getD_getElem?, a1]
      obtain rfl : h0 = h := e0.symm.trans eh
      refine ⟨K, a2, fun k' hk' => ?_⟩
      show way M h0 k' ∈ (liveOf M owner).map (·.1)
      cases z : oAt owner (way M h0 k') with
      | none => exact absurd z (a3 k' hk')
      | some k2 => exact List.mem_map.mpr ⟨(way M h0 k', k2), (mem_live W.sz).2 ⟨way_in M h0 k', z⟩, rfl⟩
theorem size_5 : SetTable.sizeAbove (SetTable.grown 5) = 32 := by decide +kernel
theorem size_19 : SetTable.sizeAbove (SetTable.grown 19) = 128 := by decide +kernel
theorem size_77 : SetTable.sizeAbove (SetTable.grown 77) = 512 := by decide +kernel
theorem size_307 : SetTable.sizeAbove (SetTable.grown 307) = 2048 := by decide +kernel
end G9

namespace G9
open PySem PySem.Spec PyProof.Rows L2
section
variable {P : Program} {w : World} {A : Around} {E : Value → Shared → Prop} {s : Shared}
theorem byVal_quiet (n : Nat) {v : Value} (h : carriedByValue v = true) : ofAClassStatement n v = pure false := by
  cases v with
  | ref a => simp [carriedByValue] at h
  | _ => cases n <;> rfl
theorem byVal_hash (n : Nat) {v : Value} (h : carriedByValue v = true) : ∃ b, ∀ (Q : Bool → Shared → Prop), Q b s → wpAny (model P w) A (hashByValue n v) Q E s := by
  cases v with
  | ref a => simp [carriedByValue] at h
  | none => exact ⟨true, fun Q q => by cases n <;> exact wpAny_pure q⟩
  | bool b => exact ⟨true, fun Q q => by cases n <;> exact wpAny_pure q⟩
  | int i t => exact ⟨true, fun Q q => by cases n <;> exact wpAny_pure q⟩
  | float b t => exact ⟨(Float64.hash? b).isSome, fun Q q => by cases n <;> exact wpAny_pure q⟩
  | _ => exact ⟨false, fun Q q => by cases n <;> exact wpAny_pure q⟩
abbrev kh (P : Program) (w : World) (k : List Key) : Int := tupleKeyHash (mixKind P w) k
abbrev IsK (P : Program) (w : World) (h : Heap) (k : List Key) (a : Addr) : Prop := IsTupleKey (mixKind P w) h k a
theorem isK_class {k : List Key} {b : Addr} {Q : Bool → Shared → Prop} (hk : IsK P w s.heap k b) (h : Q false s) : wpAny (model P w) A (ofAClassStatement 8 (.ref b)) Q E s := by
  have hT := hk.typeIs
  obtain ⟨o, items, n, ho, _, hd, hi⟩ := hk
  have hbv := hi.byValue
  unfold ofAClassStatement
  refine wpAny_bind (wpAny_typeOf hT ?_)
  dsimp only
  have e : (("tuple" : String) == "tuple") = true := by decide
  simp only [e, if_true]
  try refine wpAny_bind (wpAny_pure ?_)
  simp only [Bool.not_true, Bool.false_eq_true, if_false]
  show wpAny _ _ (seqItems? (.ref b) >>= _) _ _ s
  refine wpAny_bind (wpAny_seqItems ho hd ?_)
  dsimp only
  refine wpAny_bind ?_
  show wpAny _ _ (forIn items _ _) _ _ s
  rw [← Array.forIn_toList]
  refine wpAny_forIn_list _ (fun rest r s' => r.1 = none ∧ s' = s ∧ ∀ v ∈ rest, carriedByValue v = true) _ (fun v rest r s' hh => ?_) (fun r s' hh => ?_) _ _ ⟨rfl, rfl, hbv⟩
  · obtain ⟨hr, rfl, hall⟩ := hh
    rw [byVal_quiet _ (hall v List.mem_cons_self)]
    refine wpAny_bind (wpAny_pure ?_)
    simp only [Bool.false_eq_true, if_false]
    exact wpAny_pure ⟨rfl, rfl, fun u hu => hall u (List.mem_cons_of_mem _ hu)⟩
  · obtain ⟨r1, r2⟩ := r
    obtain ⟨hr, rfl, _⟩ := hh
    simp only at hr
    subst hr
    exact wpAny_pure h
theorem isK_byHash {k : List Key} {b : Addr} {Q : Bool → Shared → Prop} (hk : IsK P w s.heap k b) (h : ∀ x, Q x s) : wpAny (model P w) A (hashByValue 8 (.ref b)) Q E s := by
  have hT := hk.typeIs
  obtain ⟨o, items, n, ho, _, hd, hi⟩ := hk
  have hbv := hi.byValue
  unfold hashByValue
  refine wpAny_bind (wpAny_specialOf hT F.slot_tuple_hash.lookup ?_)
  show wpAny _ _ (seqItems? (.ref b) >>= _) _ _ s
  refine wpAny_bind (wpAny_seqItems ho hd ?_)
  refine wpAny_bind ?_
  show wpAny _ _ (forIn items _ _) _ _ s
  rw [← Array.forIn_toList]
  refine wpAny_forIn_list _ (fun rest r s' => s' = s ∧ ∀ v ∈ rest, carriedByValue v = true) _ (fun v rest r s' hh => ?_) (fun r s' hh => ?_) _ _ ⟨rfl, hbv⟩
  · obtain ⟨rfl, hall⟩ := hh
    obtain ⟨x, hx⟩ := byVal_hash (P := P) (w := w) (A := A) (E := E) (s := s') 7 (hall v List.mem_cons_self)
    refine wpAny_bind (hx _ ?_)
    cases x with
    | true =>
      simp only [Bool.not_true, Bool.false_eq_true, if_false]
      exact wpAny_pure ⟨rfl, fun u hu => hall u (List.mem_cons_of_mem _ hu)⟩
    | false =>
      simp only [Bool.not_false, if_true]
      exact wpAny_pure (wpAny_pure (h _))
  · obtain ⟨r1, r2⟩ := r
    obtain ⟨rfl, _⟩ := hh
    cases r1 with
    | none => exact wpAny_pure (h _)
    | some x => exact wpAny_pure (h _)
theorem isK_seen {k : List Key} {b : Addr} {Q : Bool → Shared → Prop} (hk : IsK P w s.heap k b) {ys : List Value} (hy : ∀ y ∈ ys, ∃ k' c, y = Value.ref c ∧ IsK P w s.heap k' c) (h : Q false s) :
    wpAny (model P w) A (searchCouldBeSeen (.ref b) ys) Q E s := by
  unfold searchCouldBeSeen
  refine wpAny_bind ?_
  refine wpAny_forIn_list _ (fun rest r s' => r.1 = none ∧ s' = s ∧ ∀ y ∈ rest, ∃ k' c, y = Value.ref c ∧ IsK P w s.heap k' c) _ (fun v rest r s' hh => ?_) (fun r s' hh => ?_) _ _ ⟨rfl, rfl, hy⟩
  · obtain ⟨hr, rfl, hall⟩ := hh
    obtain ⟨k', c, rfl, hc⟩ := hall v List.mem_cons_self
    have more : ∀ y ∈ rest, ∃ k' c, y = Value.ref c ∧ IsK P w s'.heap k' c := fun u hu => hall u (List.mem_cons_of_mem _ hu)
    dsimp only
    by_cases hv : (b == c || (carriedByValue (.ref b) && carriedByValue (.ref c))) = true
    · exact wp_if_pos hv (wpAny_pure ⟨rfl, rfl, more⟩)
    · refine wp_if_neg hv ?_
      refine wpAny_bind (wpAny_eqIsQuiet_tuple hk ?_)
      simp only [Bool.not_true, Bool.false_eq_true, if_false]
      refine wpAny_bind (wpAny_eqIsQuiet_tuple hc ?_)
      simp only [Bool.not_true, Bool.false_eq_true, if_false]
      refine wpAny_bind (isK_class hk ?_)
      simp only [Bool.false_eq_true, if_false]
      refine wpAny_bind (isK_class hc ?_)
      simp only [Bool.false_eq_true, if_false]
      exact wpAny_pure ⟨rfl, rfl, more⟩
  · obtain ⟨r1, r2⟩ := r
    obtain ⟨hr, rfl, _⟩ := hh
    simp only at hr
    subst hr
    exact wpAny_pure h
theorem isK_keep {h h' : Heap} {k : List Key} {b : Addr} (x : IsK P w h k b) (hk : ∀ c o, h.get? c = some o → h'.get? c = some o) : IsK P w h' k b :=
  let ⟨o, items, n, ho, r⟩ := x
  ⟨o, items, n, hk b o ho, r⟩
theorem isK_same {h h' : Heap} {k : List Key} {a b : Addr} {o : Obj} {es : Array (Int × Value)} {ep : Nat} {t : SetTable} (hb : IsK P w h k b) (ho : h.get? a = some o) (hd : o.data = .set es ep t) (hs : Heap.SameBut a h h') : IsK P w h' k b := by
  obtain ⟨o', items, n, ho', hc, hd', hi⟩ := hb
  refine ⟨o', items, n, (hs.2 b fun e => ?_).trans ho', hc, hd', hi⟩
  subst e
  obtain rfl := Option.some.inj (ho'.symm.trans ho)
  rw [hd] at hd'
  cases hd'

def krow (P : Program) (w : World) (p : Addr × List Key) : Int × Value := (kh P w p.2, Value.ref p.1)
def khs (P : Program) (w : World) (L : List (Addr × List Key)) : List Int := L.map fun p => kh P w p.2
structure SetG (P : Program) (w : World) (h : Heap) (a : Addr) (L : List (Addr × List Key)) (es : Array (Int × Value)) (ep : Nat) (t : SetTable) : Prop where
  ob : ∃ o, h.get? a = some o ∧ o.ExactSet ∧ o.data = .set es ep t
  rows : es.toList = L.map (krow P w)
  tab : Tab t (khs P w L)
  nd : (L.map (·.2)).Nodup
  tup : ∀ p ∈ L, IsK P w h p.2 p.1
  led : w.params.followText "set-order" = true ∨ t.led = true
  room : L.length * 5 < t.mask * 3
  msk : t.mask = 7 ∨ t.mask = 31 ∨ t.mask = 127 ∨ t.mask = 511 ∨ t.mask = 2047
  few : L.length ≤ 1200
variable {a : Addr} {L : List (Addr × List Key)} {es : Array (Int × Value)} {ep : Nat} {t : SetTable}
theorem khs_len (L : List (Addr × List Key)) : (khs P w L).length = L.length := List.length_map _
theorem SetG.size {h0 : Heap} (R : SetG P w h0 a L es ep t) : es.size = L.length := by
  have h := congrArg List.length R.rows
  rwa [Array.length_toList, List.length_map] at h
theorem SetG.bound {h0 : Heap} (R : SetG P w h0 a L es ep t) : L.length ≤ t.mask ∧ t.mask ≤ 2047 := by
  have h1 := R.room
  have h2 := R.msk
  omega
theorem SetG.fits {h0 : Heap} (R : SetG P w h0 a L es ep t) : t.fits es.size = true := by
  have h1 := R.tab.sz
  rw [khs_len] at h1
  have h2 := R.size
  have h3 := R.bound
  unfold SetTable.fits SetTable.fill
  rw [R.tab.dm, Bool.and_eq_true, beq_iff_eq, decide_eq_true_eq]
  show t.place.size = es.size ∧ t.place.size + 0 ≤ t.mask
  omega
theorem SetG.entry (R : SetG P w s.heap a L es ep t) {i : Nat} {p : Addr × List Key} (h : L[i]? = some p) : es[i]? = some (kh P w p.2, Value.ref p.1) := by
  rw [← Array.getElem?_toList, R.rows, List.getElem?_map, h]
  rfl
theorem SetG.stays {h0 : Heap} (R : SetG P w h0 a L es ep t) : ¬ t.gaveWay = true := by
  have h := R.msk
  unfold SetTable.gaveWay
  rw [beq_iff_eq]
  omega
abbrev stp (m : Nat) (h : Int) (c : Nat) : SetTable.Probe := nth m (runAt m (SetTable.bits h % (m + 1)) (SetTable.bits h)) c
theorem stp_dummy (m : Nat) (h : Int) (c : Nat) : (stp m h c).dummy = none := by
  have key : ∀ (n : Nat) (p : SetTable.Probe), p.dummy = none → (nth m p n).dummy = none := by
    intro n
    induction n with
    | zero => exact fun p h => h
    | succ n ih => exact fun p h => ih _ (by unfold adv; split <;> exact h)
  exact key c _ rfl
theorem stp_add (m : Nat) (h : Int) (c q : Nat) : nth m (stp m h c) q = stp m h (c + q) := (nth_add m c _ q).symm
theorem SetG.search (R : SetG P w s.heap a L es ep t) {x : Addr} {k : List Key} (hx : IsK P w s.heap k x) (hu : A.units < cLine) {K : Nat} (hKf : K < 10 * SetTable.turns t.mask)
    (hK : way t.mask (kh P w k) K ∉ t.place.toList) (hKb : ∀ c, c < K → way t.mask (kh P w k) c ∈ t.place.toList) {Q : SetFound → Shared → Prop}
    (hin : k ∈ L.map (·.2) → Q (.there none) s) (hout : k ∉ L.map (·.2) → Q (.free (way t.mask (kh P w k) K) false) s) :
    ∀ (f c : Nat) (stand : Option SetTable.Probe), stand.getD (t.probeStart (kh P w k)) = stp t.mask (kh P w k) c → c ≤ K → K - c < f →
      (∀ (i : Nat) p, L[i]? = some p → p.2 = k → ∃ c', c ≤ c' ∧ c' < K ∧ t.place.toList[i]? = some (way t.mask (kh P w k) c')) →
      wpAny (model P w) A (setSearchFrom a (.ref x) (kh P w k) true f stand) Q E s
  | 0, c, stand, _, _, hf, _ => absurd hf (Nat.not_lt_zero _)
  | f + 1, c, stand, hst, hc, hf, hre => by
    obtain ⟨o, ho, hex, hd⟩ := R.ob
    rw [setSearchFrom_succ]
    refine wpAny_bind (wpAny_setState_of ho hd R.fits ?_)
    dsimp only
    refine wp_if_neg R.stays ?_
    try refine wpAny_bind (wpAny_pure ?_)
    have wy : ∀ q, (nth t.mask (stp t.mask (kh P w k) c) q).j = way t.mask (kh P w k) (c + q) := fun q => congrArg SetTable.Probe.j (stp_add ..)
    have hashAt : ∀ (i : Nat) p, L[i]? = some p → (fun i => (es[i]?.map (·.1)).getD 0) i = kh P w p.2 := fun i p hp => by
      show (es[i]?.map (·.1)).getD 0 = _
      rw [R.entry hp]
      rfl
    rcases go_spec t R.tab.ris R.tab.dm (fun i => (es[i]?.map (·.1)).getD 0) (kh P w k) (10 * SetTable.turns t.mask) (K - c) (stp t.mask (kh P w k) c) (stp_dummy ..) (by omega)
      (fun q hq => by rw [wy]; exact hKb (c + q) (by omega)) (by rw [wy, show c + (K - c) = K by omega]; exact hK) with ⟨q, i, hq, hi, hh, hno, hpr⟩ | ⟨hno, hpr⟩
    · -- one of this hash
      rw [wy] at hi
      rw [wy, stp_add] at hpr
      rw [hst, show t.probe (fun i => (es[i]?.map (·.1)).getD 0) (kh P w k) (stp t.mask (kh P w k) c) = _ from hpr]
      dsimp only
      have hil : i < L.length := by
        have h1 : i < t.place.toList.length := (List.getElem?_eq_some_iff.mp hi).1
        rwa [R.tab.len, khs_len] at h1
      obtain ⟨p, hp⟩ : ∃ p, L[i]? = some p := ⟨_, List.getElem?_eq_getElem hil⟩
      have hmem : p ∈ L := List.mem_of_getElem? hp
      have rest : wpAny (model P w) A (searchRest a (.ref x) (kh P w k) true f es t (way t.mask (kh P w k) (c + q)) i (stp t.mask (kh P w k) (c + (q + 1)))) Q E s := by
        unfold searchRest
        rw [R.entry hp]
        dsimp only
        refine wpAny_bind (wpAny_holding (wpAny_eqBool_tuple hu (R.tup p hmem) hx ?_))
        refine wpAny_bind (wpAny_setState_of ho hd R.fits ?_)
        dsimp only
        by_cases hkk : p.2 = k
        · refine wp_if_pos (by simp [hkk]) (wpAny_pure (hin ?_))
          exact List.mem_map.mpr ⟨p, hmem, hkk⟩
        · refine wp_if_neg (by simp [hkk]) ?_
          try refine wpAny_bind (wpAny_pure ?_)
          rw [sameMem]
          dsimp only
          have hsl := slot_live R.tab.ris hi
          simp only [if_true, hsl, R.entry hp]
          refine wpAny_bind (wpAny_isSame_ref_self (wpAny_bind (wpAny_pure ?_)))
          simp only [if_true]
          refine wp_if_neg (by simp [hkk]) ?_
          refine SetG.search R hx hu hKf hK hKb hin hout f (c + (q + 1)) _ rfl (by omega) (by omega) fun i0 p0 h0 hk0 => ?_
          obtain ⟨c', a1, a2, a3⟩ := hre i0 p0 h0 hk0
          refine ⟨c', Classical.byContradiction fun hlt => ?_, a2, a3⟩
          by_cases z : c' = c + q
          · subst z
            have s0 := slot_live R.tab.ris a3
            rw [hsl] at s0
            injection s0 with s0
            rw [← s0, hp] at h0
            exact hkk ((congrArg Prod.snd (Option.some.inj h0)).trans hk0)
          · refine hno (c' - c) i0 (by omega) (by rw [wy, show c + (c' - c) = c' by omega]; exact a3) ?_
            exact (hashAt i0 p0 h0).trans (congrArg (kh P w) hk0)
      by_cases hl : t.led = true
      · refine wp_if_neg (by simp [hl]) ?_
        try refine wpAny_bind (wpAny_pure ?_)
        exact rest
      · refine wp_if_pos (by simp [hl]) ?_
        refine wpAny_bind (isK_seen hx (fun y hy => ?_) ?_)
        · obtain ⟨e, he, ee⟩ := List.mem_map.mp hy
          have he1 : e ∈ es ∧ e.1 = kh P w k := by simpa using he
          have he2 : e ∈ es.toList := by simpa using he1.1
          rw [R.rows] at he2
          obtain ⟨p2, hp2, e2⟩ := List.mem_map.mp he2
          exact ⟨p2.2, p2.1, by rw [← ee, ← e2]; rfl, R.tup p2 hp2⟩
        · refine wp_if_neg (by decide) ?_
          try refine wpAny_bind (wpAny_pure ?_)
          exact rest
    · -- an empty slot
      rw [wy, show c + (K - c) = K by omega] at hpr
      rw [hst, show t.probe (fun i => (es[i]?.map (·.1)).getD 0) (kh P w k) (stp t.mask (kh P w k) c) = _ from hpr]
      dsimp only
      refine wpAny_pure (hout fun hm => ?_)
      obtain ⟨p0, h0, hk0⟩ := List.mem_map.mp hm
      obtain ⟨i0, h00⟩ := List.getElem?_of_mem h0
      obtain ⟨c', a1, a2, a3⟩ := hre i0 p0 h00 hk0
      refine hno (c' - c) i0 (by omega) (by rw [wy, show c + (c' - c) = c' by omega]; exact a3) ?_
      exact (hashAt i0 p0 h00).trans (congrArg (kh P w) hk0)
theorem SetG.found (R : SetG P w s.heap a L es ep t) {x : Addr} {k : List Key} (hx : IsK P w s.heap k x) (hu : A.units < cLine) {Q : SetFound → Shared → Prop}
    (hin : k ∈ L.map (·.2) → Q (.there none) s)
    (hout : ∀ K, k ∉ L.map (·.2) → way t.mask (kh P w k) K ∉ t.place.toList → (∀ c, c < K → way t.mask (kh P w k) c ∈ t.place.toList) → Q (.free (way t.mask (kh P w k) K) false) s) :
    wpAny (model P w) A (setSearch a (.ref x) (kh P w k) true) Q E s := by
  have hb := R.bound
  obtain ⟨K, hKf, hK, hKb⟩ := R.tab.gap (by rw [khs_len]; exact hb.1) (kh P w k)
  have hbig : K < 100000 := by
    unfold SetTable.turns at hKf
    omega
  refine R.search hx hu hKf hK hKb hin (fun hn => hout K hn hK hKb) 100000 0 none rfl (Nat.zero_le _) (by omega) fun i p hp hk => ?_
  have hi : (khs P w L)[i]? = some (kh P w k) := by
    unfold khs
    rw [List.getElem?_map, hp, ← hk]
    rfl
  have hil : i < t.place.toList.length := by
    rw [R.tab.len]
    exact (List.getElem?_eq_some_iff.mp hi).1
  have hj := List.getElem?_eq_getElem hil
  obtain ⟨c, hc, e⟩ := R.tab.ahead hK hi hj
  exact ⟨c, Nat.zero_le _, hc, by rw [hj, e]⟩
end
end G9

namespace G9
open PySem PySem.Spec PyProof.Rows L2
section
variable {P : Program} {w : World} {A : Around} {E : Value → Shared → Prop} {s : Shared}
variable {a : Addr} {L : List (Addr × List Key)} {es : Array (Int × Value)} {ep : Nat} {t : SetTable}
theorem pick_range {α : Type} (L : List α) : ∀ n, n ≤ L.length → (List.range n).filterMap (fun i => L[i]?) = L.take n
  | 0, _ => rfl
  | n + 1, h => by
    rw [List.range_succ, List.filterMap_append, pick_range L n (Nat.le_of_succ_le h), List.take_succ, List.getElem?_eq_getElem h, List.filterMap_cons_some (List.getElem?_eq_getElem h)]
    rfl
theorem picked (L : List (Addr × List Key)) (es : Array (Int × Value)) (hr : es.toList = L.map (krow P w)) : ∀ l : List Nat, (∀ i ∈ l, i < L.length) →
    l.filterMap (fun i => es[i]?) = (l.filterMap fun i => L[i]?).map (krow P w) ∧ khs P w (l.filterMap fun i => L[i]?) = l.map fun i => (es.map (·.1)).getD i 0
  | [], _ => ⟨rfl, rfl⟩
  | i :: l, hl => by
    obtain ⟨e1, e2⟩ := picked L es hr l fun j hj => hl j (List.mem_cons_of_mem _ hj)
    obtain ⟨p, hi⟩ : ∃ p, L[i]? = some p := ⟨_, List.getElem?_eq_getElem (hl i List.mem_cons_self)⟩
    have he : es[i]? = some (krow P w p) := by rw [← Array.getElem?_toList, hr, List.getElem?_map, hi]; rfl
    rw [List.filterMap_cons_some he, List.filterMap_cons_some hi, e1]
    refine ⟨rfl, ?_⟩
    show kh P w _ :: khs P w _ = _
    rw [e2, List.map_cons]
    simp [Array.getD_eq_getD_getElem?, Array.getElem?_map, he, krow]
theorem reorder (L : List (Addr × List Key)) (es : Array (Int × Value)) (order : Array Nat) (hr : es.toList = L.map (krow P w)) (hp : order.toList.Perm (List.range L.length)) :
    ∃ L2, (order.filterMap (es[·]?)).toList = L2.map (krow P w) ∧ L2.Perm L ∧ khs P w L2 = order.toList.map fun i => (es.map (·.1)).getD i 0 := by
  obtain ⟨e1, e2⟩ := picked L es hr order.toList fun i hi => List.mem_range.mp (hp.mem_iff.mp hi)
  refine ⟨_, by first | (rw [Array.toList_filterMap]; exact e1) | simpa using e1, ?_, e2⟩
  have q := hp.filterMap fun i => L[i]?
  rw [pick_range L L.length (Nat.le_refl _), List.take_length] at q
  exact q
structure SetH (P : Program) (w : World) (h : Heap) (a : Addr) (L : List (Addr × List Key)) (es : Array (Int × Value)) (ep : Nat) (t : SetTable) : Prop where
  ob : ∃ o, h.get? a = some o ∧ o.ExactSet ∧ o.data = .set es ep t
  rows : es.toList = L.map (krow P w)
  sz : t.place.size = es.size
  dm : t.dummies = #[]
  nd : (L.map (·.2)).Nodup
  tup : ∀ p ∈ L, IsK P w h p.2 p.1
  led : w.params.followText "set-order" = true ∨ t.led = true
  fl : es.size ≤ t.mask
  few : L.length ≤ 1200
theorem SetH.relay (R : SetH P w s.heap a L es ep t) {wanted M : Nat} (hw : SetTable.sizeAbove wanted = M + 1) (hM : Ones M) (hM2 : M = 7 ∨ M = 31 ∨ M = 127 ∨ M = 511 ∨ M = 2047) (hn : L.length * 5 < M * 3) {Q : Unit → Shared → Prop}
    (hQ : ∀ h' L' es' ep' t', Heap.SameBut a s.heap h' → SetG P w h' a L' es' ep' t' → L'.Perm L → Q () { s with heap := h' }) : wpAny (model P w) A (setRelay a wanted) Q E s := by
  obtain ⟨⟨o, ho, hex, hd⟩, hrows, hsz, hdm, nd, tup, ld, hfl, few⟩ := R
  have hsl : es.size = L.length := by
    have h := congrArg List.length hrows
    rwa [Array.length_toList, List.length_map] at h
  have hfits : t.fits es.size = true := by
    unfold SetTable.fits SetTable.fill
    rw [hdm, Bool.and_eq_true, beq_iff_eq, decide_eq_true_eq]
    show t.place.size = es.size ∧ t.place.size + 0 ≤ t.mask
    omega
  obtain ⟨t', order, e, hp, T, em, el⟩ := relaid_tab t (hs := es.map (·.1)) (wanted := wanted) (M := M) (by omega) hM (by rw [Array.size_map, hsl]; omega)
  rw [Array.size_map, hsl] at hp
  obtain ⟨L2, r1, r2, r3⟩ := reorder L es order hrows hp
  rw [← r3] at T
  have hl2 := r2.length_eq
  have hs2 : (order.filterMap (es[·]?)).size = es.size := by
    have h := congrArg List.length r1
    rw [Array.length_toList, List.length_map] at h
    omega
  rw [setRelay_eq]
  refine wpAny_bind (wpAny_setState_of ho hd hfits ?_)
  dsimp only
  refine wp_if_neg (by rw [sizeLine_eq]; omega) ?_
  try refine wpAny_bind (wpAny_pure ?_)
  rw [e]
  dsimp only
  refine wpAny_bind ?_
  refine wp_if_neg (by rw [hs2]; simp) ?_
  try refine wpAny_bind (wpAny_pure ?_)
  refine wpAny_pure ?_
  dsimp only
  refine wpAny_storeSet_of ho hd ?_ (by rw [hs2, hsl, sizeLine_eq]; omega)
  have sb : Heap.SameBut a s.heap (s.heap.update a (Obj.putSet (order.filterMap (es[·]?)) t')) := Heap.SameBut.update ..
  exact hQ _ L2 (order.filterMap (es[·]?)) (ep + 1) t' sb
    ⟨⟨_, store_at ho hd, ⟨hex.1, hex.2.1, hex.2.2⟩, rfl⟩, r1, T, (r2.map (·.2)).nodup_iff.mpr nd, fun p hpm => isK_same (tup p (r2.mem_iff.mp hpm)) ho hd sb, by rw [el]; exact ld, by rw [hl2, em]; exact hn, by rw [em]; exact hM2, by rw [hl2]; exact few⟩ r2
theorem SetG.add (R : SetG P w s.heap a L es ep t) {x : Addr} {k : List Key} (hx : IsK P w s.heap k x) (hu : A.units < cLine) (hfew : L.length + 1 ≤ 1200) {Q : Bool → Shared → Prop}
    (hQ : ∀ b h' L' es' ep' t', Heap.SameBut a s.heap h' → SetG P w h' a L' es' ep' t' → (k ∈ L.map (·.2) → L' = L) → (k ∉ L.map (·.2) → L'.Perm ((x, k) :: L)) → Q b { s with heap := h' }) :
    wpAny (model P w) A (setAddHashed a (.ref x) (kh P w k)) Q E s := by
  obtain ⟨o, ho, hex, hd⟩ := R.ob
  have hsl := R.size
  have hroom := R.room
  have hbd := R.bound
  unfold setAddHashed
  refine wpAny_holding ?_
  rw [show (100000 : Nat) = 99999 + 1 from rfl, setAddHashedIn_succ]
  refine wpAny_bind (wpAny_setState_of ho hd R.fits ?_)
  dsimp only
  refine wp_if_neg (by simp [byScan, Value.scannable]) ?_
  try refine wpAny_bind (wpAny_pure ?_)
  refine wpAny_bind (R.found hx hu (fun hm => ?_) fun K hm hK hb => ?_)
  · dsimp only
    exact wpAny_pure (hQ false s.heap L es ep t (Heap.SameBut.refl a s.heap) R (fun _ => rfl) fun z => absurd hm z)
  dsimp only
  refine wpAny_bind (wpAny_setState_of ho hd R.fits ?_)
  dsimp only
  obtain ⟨q2, q3, q4, q5, q9⟩ := R.tab.putIn hK hb
  generalize hpt : t.put (way t.mask (kh P w k) K) = pt at q2 q3 q4 q5 q9 ⊢
  obtain ⟨t1, p⟩ := pt
  dsimp only at q2 q3 q4 q5 q9 ⊢
  rw [khs_len] at q2 q9
  have hin : (SetTable.insertAt es p (kh P w k, Value.ref x)).toList = (L.take p ++ (x, k) :: L.drop p).map (krow P w) := by
    rw [SetTable.toList_insertAt, R.rows, List.map_append, List.map_cons, List.map_take, List.map_drop]
    rfl
  have pm := put_perm L p (x, k)
  have hlen : (L.take p ++ (x, k) :: L.drop p).length = L.length + 1 := pm.length_eq
  have hhs : khs P w (L.take p ++ (x, k) :: L.drop p) = (khs P w L).take p ++ kh P w k :: (khs P w L).drop p := by
    unfold khs
    rw [List.map_append, List.map_cons, List.map_take, List.map_drop]
  rw [← hhs] at q3
  have nd1 : ((L.take p ++ (x, k) :: L.drop p).map (·.2)).Nodup := by
    refine (pm.map (·.2)).nodup_iff.mpr ?_
    rw [List.map_cons]
    exact List.nodup_cons.mpr ⟨hm, R.nd⟩
  have hes : (SetTable.insertAt es p (kh P w k, Value.ref x)).size = L.length + 1 := by
    have h := congrArg List.length hin
    rwa [Array.length_toList, List.length_map, hlen] at h
  generalize SetTable.insertAt es p (kh P w k, Value.ref x) = es1 at hin hes ⊢
  generalize L.take p ++ (x, k) :: L.drop p = L1 at pm hlen q3 nd1 hin
  -- whichever the word of the table's plainness
  have after : ∀ t2 : SetTable, t2.place = t1.place → t2.dummies = t1.dummies → t2.mask = t1.mask → t2.led = t1.led →
      wpAny (model P w) A (do
        storeSet a es1 t2
        if !false && t2.tooFull then setRelay a (SetTable.grown (es.size + 1))
        return true) Q E s := fun t2 c1 c2 c3 c4 => by
    have T2 : Tab t2 (khs P w L1) := by
      obtain ⟨z1, z2, z3, z4, z5, z6⟩ := q3
      exact ⟨by rw [c1]; exact z1, by rw [c2]; exact z2, by rw [c1]; exact z3, by rw [c3]; exact z4, by rw [c1, c3]; exact z5, by rw [c1, c3]; exact z6⟩
    have f2 : t2.fill = L.length + 1 := by
      unfold SetTable.fill
      rw [c1, c2]
      exact q9
    have m2 : t2.mask = t.mask := c3.trans q4
    refine wpAny_bind (wpAny_storeSet_of ho hd ?_ (by rw [hes, sizeLine_eq]; omega))
    have sb : Heap.SameBut a s.heap (s.heap.update a (Obj.putSet es1 t2)) := Heap.SameBut.update ..
    have ho1 := store_at (es' := es1) (t' := t2) ho hd
    generalize s.heap.update a (Obj.putSet es1 t2) = h1 at sb ho1 ⊢
    have tup1 : ∀ p ∈ L1, IsK P w h1 p.2 p.1 := fun p hp => by
      rcases List.mem_cons.mp (pm.mem_iff.mp hp) with e | hp
      · rw [e]; exact isK_same hx ho hd sb
      · exact isK_same (R.tup p hp) ho hd sb
    have ld1 : w.params.followText "set-order" = true ∨ t2.led = true := by rw [c4, q5]; exact R.led
    by_cases hf : t2.tooFull = true
    · first
        | (refine wpAny_bind ?_; refine wp_if_pos (by simp [hf]) ?_)
        | (refine wp_if_pos (by simp [hf]) ?_; refine wpAny_bind ?_)
      have hfull : (L.length + 1) * 5 ≥ t2.mask * 3 := by
        have h := hf
        unfold SetTable.tooFull at h
        rwa [decide_eq_true_eq, f2] at h
      rw [hsl]
      have hsz1 : t2.place.size = es1.size := by
        have h := T2.sz
        rw [khs_len, hlen] at h
        rw [h, hes]
      have go : ∀ M, SetTable.sizeAbove (SetTable.grown (L.length + 1)) = M + 1 → Ones M → (M = 7 ∨ M = 31 ∨ M = 127 ∨ M = 511 ∨ M = 2047) → (L.length + 1) * 5 < M * 3 →
          wpAny (model P w) A (setRelay a (SetTable.grown (L.length + 1))) (fun _ s' => wpAny (model P w) A (pure true) Q E s') E { s with heap := h1 } := fun M g1 g2 g3 g4 => by
        refine SetH.relay (s := { s with heap := h1 }) ⟨⟨_, ho1, ⟨hex.1, hex.2.1, hex.2.2⟩, rfl⟩, hin, hsz1, T2.dm, nd1, tup1, ld1, by rw [hes, m2]; have := R.msk; omega, by rw [hlen]; exact hfew⟩ g1 g2 g3 (by rw [hlen]; exact g4) ?_
        intro h2 L2 es2 ep2 t3 sb2 R2 pm2
        exact wpAny_pure (hQ true h2 L2 es2 ep2 t3 (sb.trans sb2) R2 (fun z => absurd z hm) fun _ => pm2.trans pm)
      rw [m2] at hfull
      rcases R.msk with e | e | e | e | e
      · have : L.length = 4 := by omega
        rw [this] at go ⊢
        exact go 31 size_5 ⟨5, rfl⟩ (by omega) (by omega)
      · have : L.length = 18 := by omega
        rw [this] at go ⊢
        exact go 127 size_19 ⟨7, rfl⟩ (by omega) (by omega)
      · have : L.length = 76 := by omega
        rw [this] at go ⊢
        exact go 511 size_77 ⟨9, rfl⟩ (by omega) (by omega)
      · have : L.length = 306 := by omega
        rw [this] at go ⊢
        exact go 2047 size_307 ⟨11, rfl⟩ (by omega) (by omega)
      · omega
    · first
        | refine wp_if_neg (by simp [hf]) ?_
        | (refine wpAny_bind ?_; refine wp_if_neg (by simp [hf]) ?_; refine wpAny_pure ?_)
      refine wpAny_pure (hQ true h1 L1 es1 (ep + 1) t2 sb ⟨⟨_, ho1, ⟨hex.1, hex.2.1, hex.2.2⟩, rfl⟩, hin, T2, nd1, tup1, ld1, ?_, by rw [m2]; exact R.msk, by rw [hlen]; exact hfew⟩ (fun z => absurd z hm) fun _ => pm)
      have h := hf
      unfold SetTable.tooFull at h
      rw [decide_eq_true_eq, f2] at h
      omega
  have both : ∀ b : Bool, wpAny (model P w) A (do
        storeSet a es1 (if b = true then t1 else { t1 with plain := false })
        if !false && (if b = true then t1 else { t1 with plain := false }).tooFull then setRelay a (SetTable.grown (es.size + 1))
        return true) Q E s := fun b => by
    cases b with
    | true => exact after t1 rfl rfl rfl rfl
    | false => exact after { t1 with plain := false } rfl rfl rfl rfl
  by_cases hpl : t1.plain = true
  · first
      | (refine wpAny_bind ?_; refine wp_if_pos hpl ?_; refine isK_byHash hx fun b => ?_; exact both b)
      | (refine wp_if_pos hpl (wpAny_bind (isK_byHash hx fun b => ?_)); exact both b)
  · first
      | (refine wpAny_bind ?_; refine wp_if_neg hpl ?_; refine wpAny_pure ?_; exact both true)
      | (refine wp_if_neg hpl (wpAny_bind (wpAny_pure ?_)); exact both true)
      | (refine wp_if_neg hpl ?_; exact both true)
end
end G9

namespace G9
open PySem PySem.Spec PyProof.Rows L2
theorem perm_back {α β : Type} (f : α → β) : ∀ {l l' : List β}, l.Perm l' → ∀ {m : List α}, m.map f = l' → ∃ m' : List α, m'.map f = l ∧ m'.Perm m := by
  intro l l' h
  induction h with
  | nil => intro m e; exact ⟨[], rfl, by rw [List.map_eq_nil_iff.mp e]⟩
  | @cons x l1 l2 _ ih =>
    intro m e
    cases m with
    | nil => cases e
    | cons y m =>
      obtain ⟨e1, e2⟩ := List.cons.inj e
      obtain ⟨m', a, b⟩ := ih e2
      exact ⟨y :: m', by rw [List.map_cons, e1, a], b.cons y⟩
  | swap x y l =>
    intro m e
    cases m with
    | nil => cases e
    | cons a m =>
      cases m with
      | nil => cases (List.cons.inj e).2
      | cons b m =>
        obtain ⟨e1, e2⟩ := List.cons.inj e
        obtain ⟨e3, e4⟩ := List.cons.inj e2
        exact ⟨b :: a :: m, by rw [List.map_cons, List.map_cons, e1, e3, e4], List.Perm.swap a b m⟩
  | trans _ _ ih1 ih2 =>
    intro m e
    obtain ⟨m1, a1, b1⟩ := ih2 e
    obtain ⟨m2, a2, b2⟩ := ih1 a1
    exact ⟨m2, a2, b2.trans b1⟩
def freshSet (w : World) : Obj := { cls := .type "set", dict := none, data := .set #[] 0 (.fresh 0 0 (!w.params.followText "set-order")) }
structure Face (w : World) (h : Heap) (a : Addr) (us : List Value) (es : Array (Int × Value)) (ep : Nat) (t : SetTable) : Prop where
  ob : ∃ o, h.get? a = some o ∧ o.ExactSet ∧ o.data = .set es ep t
  vs : es.toList.map (·.2) = us
  fit : t.fits es.size = true
  sm : es.size ≤ 1200
  ris : Ris t.place.toList
  led : w.params.followText "set-order" = true ∨ t.led = true
structure SK (P : Program) (w : World) (κ : Type) where
  is : Heap → κ → Value → Prop
  iv : Heap → Addr → List (Value × κ) → Prop
  isKeep : ∀ {h h' : Heap} {k : κ} {v : Value}, is h k v → (∀ c o, h.get? c = some o → h'.get? c = some o) → is h' k v
  ivKeep : ∀ {h h' : Heap} {a : Addr} {L : List (Value × κ)}, iv h a L → (∀ o, h.get? a = some o → h'.get? a = some o) → (∀ c o, (∃ p ∈ L, p.1 = .ref c) → h.get? c = some o → h'.get? c = some o) → iv h' a L
  isIn : ∀ {h : Heap} {a : Addr} {L : List (Value × κ)}, iv h a L → ∀ p ∈ L, is h p.2 p.1
  nd : ∀ {h : Heap} {a : Addr} {L : List (Value × κ)}, iv h a L → (L.map (·.2)).Nodup
  fresh : ∀ {h : Heap} {a : Addr}, h.get? a = some (freshSet w) → iv h a []
  add : ∀ {A : Around} {E : Value → Shared → Prop} {s : Shared} {a : Addr} {L : List (Value × κ)} {k : κ} {v : Value} {Q : Bool → Shared → Prop}, iv s.heap a L → is s.heap k v → A.units < cLine → L.length + 1 ≤ 1200 →
    (∀ b h' tk L', Heap.SameBut a s.heap h' → s.toks ≤ tk → iv h' a L' → (k ∈ L.map (·.2) → L' = L) → (k ∉ L.map (·.2) → L'.Perm ((v, k) :: L)) → Q b { s with heap := h', toks := tk }) → wpAny (model P w) A (setAdd a v) Q E s
  face : ∀ {h : Heap} {a : Addr} {L : List (Value × κ)}, iv h a L → ∃ es ep t, Face w h a (L.map (·.1)) es ep t
section
variable {P : Program} {w : World}
def lv (p : Addr × List Key) : Value × List Key := (.ref p.1, p.2)
theorem lv_snd (L : List (Addr × List Key)) : (L.map lv).map (·.2) = L.map (·.2) := by rw [List.map_map]; rfl
theorem setG_move {h h' : Heap} {a : Addr} {L : List (Addr × List Key)} {es : Array (Int × Value)} {ep : Nat} {t : SetTable} (R : SetG P w h a L es ep t) (ha : ∀ o, h.get? a = some o → h'.get? a = some o) (ht : ∀ p ∈ L, IsK P w h' p.2 p.1) : SetG P w h' a L es ep t :=
  let ⟨o, ho, r⟩ := R.ob
  ⟨⟨o, ha o ho, r⟩, R.rows, R.tab, R.nd, ht, R.led, R.room, R.msk, R.few⟩
theorem setG_fresh {h : Heap} {a : Addr} (ho : h.get? a = some (freshSet w)) : SetG P w h a [] #[] 0 (.fresh 0 0 (!w.params.followText "set-order")) where
  ob := ⟨_, ho, ⟨rfl, rfl, rfl⟩, rfl⟩
  rows := rfl
  tab := ⟨List.Pairwise.nil, rfl, rfl, ⟨3, rfl⟩, fun x hx => (by cases hx), fun i h j hi => (by simp [khs] at hi)⟩
  nd := List.nodup_nil
  tup := fun p hp => (by cases hp)
  led := by
    show _ ∨ (!w.params.followText "set-order") = true
    cases w.params.followText "set-order"
    · exact .inr rfl
    · exact .inl rfl
  room := by
    show 0 * 5 < 7 * 3
    decide
  msk := .inl rfl
  few := by
    show 0 ≤ 1200
    decide
def skT (P : Program) (w : World) : SK P w (List Key) where
  is := fun h k v => ∃ b, v = .ref b ∧ IsK P w h k b
  iv := fun h a L => ∃ L0 es ep t, L = L0.map lv ∧ SetG P w h a L0 es ep t
  isKeep := fun ⟨b, e, x⟩ hk => ⟨b, e, isK_keep x hk⟩
  ivKeep := fun {h h' a L} ⟨L0, es, ep, t, e, R⟩ ha hc => ⟨L0, es, ep, t, e, setG_move R ha fun p hp => by
    obtain ⟨o, items, n, ho, r⟩ := R.tup p hp
    exact ⟨o, items, n, hc p.1 o ⟨lv p, by rw [e]; exact List.mem_map.mpr ⟨p, hp, rfl⟩, rfl⟩ ho, r⟩⟩
  isIn := fun ⟨L0, es, ep, t, e, R⟩ p hp => by
    rw [e] at hp
    obtain ⟨q, hq, rfl⟩ := List.mem_map.mp hp
    exact ⟨q.1, rfl, R.tup q hq⟩
  nd := fun ⟨L0, es, ep, t, e, R⟩ => by rw [e, lv_snd]; exact R.nd
  fresh := fun {h a} ho => ⟨[], #[], 0, _, rfl, setG_fresh ho⟩
  add := fun {A E s a L k v Q} ⟨L0, es, ep, t, e, R⟩ ⟨b, ev, hb⟩ hu hl hQ => by
    subst ev
    subst e
    rw [List.length_map] at hl
    unfold setAdd
    refine wpAny_holding ?_
    refine wpAny_bind (wpAny_pyHash_tuple hu hb ?_)
    refine SetG.add (s := { s with toks := s.toks + (k.length + 1) }) R hb hu hl fun r h' L' es' ep' t' sb R' c1 c2 => ?_
    refine hQ r h' _ (L'.map lv) sb (Nat.le_add_right _ _) ⟨L', es', ep', t', rfl, R'⟩ (fun hm => ?_) fun hm => ?_
    · rw [lv_snd] at hm
      rw [c1 hm]
    · rw [lv_snd] at hm
      exact (c2 hm).map lv
  face := fun {h a L} ⟨L0, es, ep, t, e, R⟩ => ⟨es, ep, t, R.ob, by
    rw [R.rows, e, List.map_map, List.map_map]
    rfl, R.fits, by rw [R.size]; exact R.few, R.tab.ris, R.led⟩
end
end G9

namespace G9
open PySem PySem.Spec PyProof.Rows L2
section
variable {P : Program} {w : World}
def arow (w : World) (p : Value × Key) : Int × Value := (keyH w p.2, p.1)
structure SetS (w : World) (h : Heap) (a : Addr) (L : List (Value × Key)) (es : Array (Int × Value)) (ep : Nat) (t : SetTable) : Prop where
  ob : ∃ o, h.get? a = some o ∧ o.ExactSet ∧ o.data = .set es ep t
  rows : es.toList = L.map (arow w)
  isk : ∀ p ∈ L, keyIs p.2 p.1 = true
  nd : (L.map (·.2)).Nodup
  fit : t.fits es.size = true
  ris : Ris t.place.toList
  led : w.params.followText "set-order" = true ∨ t.led = true
  few : L.length ≤ 1200
theorem SetS.size {h : Heap} {a : Addr} {L : List (Value × Key)} {es : Array (Int × Value)} {ep : Nat} {t : SetTable} (R : SetS w h a L es ep t) : es.size = L.length := by
  have h := congrArg List.length R.rows
  rwa [Array.length_toList, List.length_map] at h
theorem SetS.elems {h : Heap} {a : Addr} {L : List (Value × Key)} {es : Array (Int × Value)} {ep : Nat} {t : SetTable} (R : SetS w h a L es ep t) : ElemsOf (mixKind P w) es.toList := fun e he => by
  rw [R.rows] at he
  obtain ⟨p, hp, rfl⟩ := List.mem_map.mp he
  refine ⟨⟨p.2, R.isk p hp, rfl⟩, ?_⟩
  rcases keyIs_shape (R.isk p hp) with ⟨i, t, _, e⟩ | ⟨x, t, _, e⟩
  · show Value.scannable p.1 = true
    rw [e]; rfl
  · show Value.scannable p.1 = true
    rw [e]; rfl
section
variable {A : Around} {E : Value → Shared → Prop} {s : Shared} {a : Addr} {L : List (Value × Key)} {es : Array (Int × Value)} {ep : Nat} {t : SetTable}
theorem setS_tail {g : Bool → Sem Unit} (hg : ∀ (b : Bool) (s₁ : Shared) (Q' : Unit → Shared → Prop), Q' () s₁ → wpAny (model P w) A (g b) Q' E s₁)
    {o : Obj} (ho : s.heap.get? a = some o) (hex : o.ExactSet) (hd : o.data = .set es ep t) {es1 : Array (Int × Value)} {t2 : SetTable}
    (R : ∀ h' ep' es' t', Heap.SameBut a s.heap h' → (∃ o, h'.get? a = some o ∧ o.ExactSet ∧ o.data = .set es' ep' t') → es'.toList.Perm es1.toList → t'.fits es'.size = true → Ris t'.place.toList → (w.params.followText "set-order" = true ∨ t'.led = true) → ∃ L', SetS w h' a L' es' ep' t' ∧ L'.Perm L)
    (hb1 : es1.size < scanBound) (hf2 : t2.fits es1.size = true) (hr : Ris t2.place.toList) (hl : w.params.followText "set-order" = true ∨ t2.led = true) {wasDummy : Bool} {Q : Option Bool → Shared → Prop}
    (hQ : ∀ h' L' es' ep' t', Heap.SameBut a s.heap h' → SetS w h' a L' es' ep' t' → L'.Perm L → Q (some true) { s with heap := h' }) :
    wpAny (model P w) A (do
        storeSet a es1 t2
        if (!wasDummy && t2.tooFull) = true then do
            g (relayAll t2 es1 (SetTable.grown es1.size)).2.2
            storeSet a (relayAll t2 es1 (SetTable.grown es1.size)).1 (relayAll t2 es1 (SetTable.grown es1.size)).2.1
            pure (some true)
          else pure (some true)) Q E s := by
  refine wpAny_bind (wpAny_storeSet_of ho hd ?_ (fits_of_scanBound hb1))
  have ho1 := store_at (es' := es1) (t' := t2) ho hd
  have sb1 := Heap.SameBut.update s.heap a (Obj.putSet es1 t2)
  split
  · have pm := relayAll_perm t2 es1 (SetTable.grown es1.size)
    have hf3 := relayAll_fits t2 es1 (SetTable.grown es1.size)
    have hr3 := relayAll_ris t2 es1 (SetTable.grown es1.size)
    have hl3 := relayAll_led t2 es1 (SetTable.grown es1.size)
    generalize relayAll t2 es1 (SetTable.grown es1.size) = Z at pm hf3 hr3 hl3 ⊢
    obtain ⟨es2, t3, gave⟩ := Z
    dsimp only at pm hf3 hr3 hl3 ⊢
    have hsz : es2.size = es1.size := by rw [← Array.length_toList, pm.length_eq, Array.length_toList]
    refine wpAny_bind (hg _ _ _ ?_)
    refine wpAny_bind (wpAny_storeSet_of ho1 rfl ?_ (fits_of_scanBound (by rw [hsz]; exact hb1)))
    have ho2 := store_at (es' := es2) (t' := t3) ho1 rfl
    have sb2 := sb1.trans (Heap.SameBut.update (s.heap.update a (Obj.putSet es1 t2)) a (Obj.putSet es2 t3))
    obtain ⟨L', R', pl⟩ := R _ _ es2 t3 sb2 ⟨_, ho2, hex, rfl⟩ pm hf3 hr3 (hl.imp id fun z => by rw [hl3]; exact z)
    exact wpAny_pure (hQ _ L' es2 _ t3 sb2 R' pl)
  · obtain ⟨L', R', pl⟩ := R _ _ es1 t2 sb1 ⟨_, ho1, hex, rfl⟩ (List.Perm.refl _) hf2 hr hl
    exact wpAny_pure (hQ _ L' es1 _ t2 sb1 R' pl)
theorem SetS.add (R : SetS w s.heap a L es ep t) {v : Value} {k : Key} (hk : keyIs k v = true) (hfew : L.length + 1 ≤ 1200) {Q : Bool → Shared → Prop}
    (hQ : ∀ b h' L' es' ep' t', Heap.SameBut a s.heap h' → SetS w h' a L' es' ep' t' → (k ∈ L.map (·.2) → L' = L) → (k ∉ L.map (·.2) → L'.Perm ((v, k) :: L)) → Q b { s with heap := h' }) :
    wpAny (model P w) A (setAddHashed a v (keyH w k)) Q E s := by
  obtain ⟨o, ho, hex, hd⟩ := R.ob
  have hsl := R.size
  have hel := R.elems (P := P)
  have hsc : v.scannable = true := by
    rcases keyIs_shape hk with ⟨i, t, _, e⟩ | ⟨x, t, _, e⟩ <;> rw [e] <;> rfl
  have hb : es.size < scanBound := by unfold scanBound; omega
  show wpAny (model P w) A (setAddHashed a v ((mixKind P w).hash k)) Q E s
  unfold setAddHashed setAddHashedIn
  refine wpAny_holding (wpAny_bind (wpAny_setState_of ho hd R.fit ?_))
  dsimp only
  rw [byScan_of hsc hb hel]
  simp only [↓reduceIte]
  unfold setAddByScan
  refine wpAny_bind ?_
  refine wpAny_bind (wpAny_rule ?_)
  refine wpAny_bind (wpAny_setScan_of (knd := mixKind P w) hk ho hd R.fit hel ?_)
  have seen : (∃ e ∈ es.toList, (mixKind P w).is k e.2 = true) ↔ k ∈ L.map (·.2) := by
    rw [R.rows]
    constructor
    · rintro ⟨e, he, q⟩
      obtain ⟨p, hp, rfl⟩ := List.mem_map.mp he
      exact List.mem_map.mpr ⟨p, hp, (mixKind P w).inj p.1 _ _ (R.isk p hp) q⟩
    · intro hm
      obtain ⟨p, hp, rfl⟩ := List.mem_map.mp hm
      exact ⟨arow w p, List.mem_map.mpr ⟨p, hp, rfl⟩, R.isk p hp⟩
  cases hfi : List.findIdx? (fun e => (mixKind P w).is k e.2) es.toList with
  | some j =>
    dsimp only
    obtain ⟨hj, pj, _⟩ := List.findIdx?_eq_some_iff_getElem.mp hfi
    have hm : k ∈ L.map (·.2) := seen.1 ⟨es.toList[j], List.getElem_mem hj, pj⟩
    exact wpAny_pure (wpAny_pure (hQ false s.heap L es ep t (Heap.SameBut.refl a s.heap) R (fun _ => rfl) fun z => absurd hm z))
  | none =>
    dsimp only
    have hm : k ∉ L.map (·.2) := fun z => by
      obtain ⟨e, he, q⟩ := seen.2 z
      have c := List.findIdx?_eq_none_iff.mp hfi e he
      rw [q] at c
      cases c
    have hgw : ∀ (b : Bool) {s₁ : Shared} {Q' : Unit → Shared → Prop}, Q' () s₁ → wpAny (model P w) A (match b with | true => rule "set.scan.the-table-gave-way" | false => pure ()) Q' E s₁ :=
      fun b s₁ Q' q => by cases b <;> first | exact wpAny_pure q | exact wpAny_rule q
    have pm := layNew_perm t es ((mixKind P w).hash k) v
    have hf1 := layNew_fits t es ((mixKind P w).hash k) v
    have hr1 := layNew_ris t es ((mixKind P w).hash k) v R.ris
    have hl1 := layNew_led t es ((mixKind P w).hash k) v
    generalize layNew t es ((mixKind P w).hash k) v = Z at pm hf1 hr1 hl1 ⊢
    obtain ⟨es1, t1, wasDummy, gave⟩ := Z
    dsimp only at pm hf1 hr1 hl1 ⊢
    rw [Array.toList_push] at pm
    have pc : es1.toList.Perm (((v, k) :: L).map (arow w)) := by
      rw [List.map_cons, ← R.rows]
      exact pm.trans (List.perm_append_singleton _ _)
    have hsz : es1.size = L.length + 1 := by
      have h := pc.length_eq
      rwa [Array.length_toList, List.length_map, List.length_cons] at h
    have hb1 : es1.size < scanBound := by unfold scanBound; omega
    have hled : w.params.followText "set-order" = true ∨ t1.led = true := R.led.imp id fun z => by rw [hl1]; exact z
    have mk : ∀ h' ep' es' t', Heap.SameBut a s.heap h' → (∃ o, h'.get? a = some o ∧ o.ExactSet ∧ o.data = .set es' ep' t') → es'.toList.Perm es1.toList → t'.fits es'.size = true → Ris t'.place.toList → (w.params.followText "set-order" = true ∨ t'.led = true) →
        ∃ L', SetS w h' a L' es' ep' t' ∧ L'.Perm ((v, k) :: L) := fun h' ep' es' t' sb ob pp f r l => by
      obtain ⟨L', e1, p1⟩ := perm_back (arow w) (pp.trans pc) rfl
      refine ⟨L', ⟨ob, e1.symm, fun p hp => ?_, ?_, f, r, l, by rw [p1.length_eq]; exact hfew⟩, p1⟩
      · rcases List.mem_cons.mp (p1.mem_iff.mp hp) with e | hp
        · rw [e]; exact hk
        · exact R.isk p hp
      · refine (p1.map (·.2)).nodup_iff.mpr ?_
        rw [List.map_cons]
        exact List.nodup_cons.mpr ⟨hm, R.nd⟩
    refine wpAny_bind (hgw _ ?_)
    split
    · refine wpAny_bind ?_
      rw [hashByValue_scannable 8 hsc]
      refine wpAny_pure ?_
      refine setS_tail (L := (v, k) :: L) ?_ ho hex hd mk hb1 ?_ ?_ ?_ ?_
      · intro b s₁ Q' q; cases b <;> first | exact wpAny_pure q | exact wpAny_rule q
      · first | (split <;> first | exact hf1 | exact SetTable.fits_plain_off hf1) | exact hf1
      · first | (split <;> exact hr1) | exact hr1
      · first | (split <;> exact hled) | exact hled
      · intro h' L' es' ep' t' sb r pl; dsimp only; exact wpAny_pure (hQ true h' L' es' ep' t' sb r (fun z => absurd z hm) fun _ => pl)
    · refine wpAny_bind (wpAny_pure ?_)
      simp only [↓reduceIte]
      refine setS_tail (L := (v, k) :: L) ?_ ho hex hd mk hb1 hf1 hr1 hled ?_
      · intro b s₁ Q' q; cases b <;> first | exact wpAny_pure q | exact wpAny_rule q
      · intro h' L' es' ep' t' sb r pl; dsimp only; exact wpAny_pure (hQ true h' L' es' ep' t' sb r (fun z => absurd z hm) fun _ => pl)
end
def skA (P : Program) (w : World) : SK P w Key where
  is := fun _ k v => keyIs k v = true
  iv := fun h a L => ∃ es ep t, SetS w h a L es ep t
  isKeep := fun x _ => x
  ivKeep := fun ⟨es, ep, t, R⟩ ha _ =>
    let ⟨o, ho, r⟩ := R.ob
    ⟨es, ep, t, ⟨o, ha o ho, r⟩, R.rows, R.isk, R.nd, R.fit, R.ris, R.led, R.few⟩
  isIn := fun ⟨es, ep, t, R⟩ p hp => R.isk p hp
  nd := fun ⟨es, ep, t, R⟩ => R.nd
  fresh := fun {h a} ho => ⟨#[], 0, _, ⟨_, ho, ⟨rfl, rfl, rfl⟩, rfl⟩, rfl, fun p hp => (by cases hp), List.nodup_nil, rfl, List.Pairwise.nil, (setG_fresh (P := P) ho).led, by decide⟩
  add := fun {A E s a L k v Q} ⟨es, ep, t, R⟩ hk hu hl hQ => by
    unfold setAdd
    refine wpAny_holding ?_
    refine wpAny_bind ((mixKind P w).pyHash (k := k) hk ?_)
    exact SetS.add (s := { s with toks := s.toks + 1 }) R hk hl fun r h' L' es' ep' t' sb R' c1 c2 => hQ r h' _ L' sb (Nat.le_add_right _ _) ⟨es', ep', t', R'⟩ c1 c2
  face := fun {h a L} ⟨es, ep, t, R⟩ => ⟨es, ep, t, R.ob, by
    rw [R.rows, List.map_map]
    rfl, R.fit, by rw [R.size]; exact R.few, R.ris, R.led⟩
end
end G9

namespace G9
open PySem PySem.Spec PyProof.Rows L2
section
variable {κ : Type}
structure Gt (ks : List (Value × κ)) (i : Nat) (L : List (Value × κ)) : Prop where
  sub : ∀ p ∈ L, p ∈ ks.take i
  all : ∀ p ∈ ks.take i, p.2 ∈ L.map (·.2)
  len : L.length ≤ i
theorem Gt.zero (ks : List (Value × κ)) : Gt ks 0 [] := ⟨fun p h => (by cases h), fun p h => (by simp at h), Nat.le_refl _⟩
theorem Gt.same {ks L : List (Value × κ)} {i : Nat} {x : Value × κ} (g : Gt ks i L) (h : ks[i]? = some x) (hm : x.2 ∈ L.map (·.2)) : Gt ks (i + 1) L := by
  have e := L2.take_next h
  refine ⟨fun p hp => by rw [e]; exact List.mem_append_left _ (g.sub p hp), fun p hp => ?_, Nat.le_succ_of_le g.len⟩
  rw [e] at hp
  rcases List.mem_append.mp hp with z | z
  · exact g.all p z
  · rw [List.mem_singleton.mp z]; exact hm
theorem Gt.more {ks L L' : List (Value × κ)} {i : Nat} {x : Value × κ} (g : Gt ks i L) (h : ks[i]? = some x) (pm : L'.Perm (x :: L)) : Gt ks (i + 1) L' := by
  have e := L2.take_next h
  refine ⟨fun p hp => ?_, fun p hp => ?_, by rw [pm.length_eq]; exact Nat.succ_le_succ g.len⟩
  · rw [e]
    rcases List.mem_cons.mp (pm.mem_iff.mp hp) with z | z
    · rw [z]; exact List.mem_append_right _ (List.mem_singleton.mpr rfl)
    · exact List.mem_append_left _ (g.sub p z)
  · rw [(pm.map (·.2)).mem_iff, List.map_cons]
    rw [e] at hp
    rcases List.mem_append.mp hp with z | z
    · exact List.mem_cons_of_mem _ (g.all p z)
    · rw [List.mem_singleton.mp z]; exact List.mem_cons_self
end
mutual
theorem reads_old {h : Heap} : ∀ {v : Value} {d : PyData} {as : List Addr}, Reads h v d as → ∀ a ∈ as, a < h.objs.size
  | _, _, _, .none, a, ha => by cases ha
  | _, _, _, .bool _, a, ha => by cases ha
  | _, _, _, .int _ _, a, ha => by cases ha
  | _, _, _, .str _ _, a, ha => by cases ha
  | _, _, _, .list ho _ _ r, a, ha => by
    rcases List.mem_cons.mp ha with e | ha
    · rw [e]; exact Heap.lt_size ho
    · exact reads_old_all r a ha
  | _, _, _, .tuple _ _ _ r, a, ha => reads_old_all r a ha
  | _, _, _, .dict ho _ _ r1 r2, a, ha => by
    rcases List.mem_append.mp ha with ha | ha
    · rcases List.mem_cons.mp ha with e | ha
      · rw [e]; exact Heap.lt_size ho
      · exact reads_old_all r1 a ha
    · exact reads_old_all r2 a ha
theorem reads_old_all {h : Heap} : ∀ {v : List Value} {d : List PyData} {as : List Addr}, ReadsAll h v d as → ∀ a ∈ as, a < h.objs.size
  | _, _, _, .nil, a, ha => by cases ha
  | _, _, _, .cons r1 r2, a, ha => by
    rcases List.mem_append.mp ha with ha | ha
    · exact reads_old r1 a ha
    · exact reads_old_all r2 a ha
end
section
variable {P : Program} {w : World} {A : Around} {E : Value → Shared → Prop} {s : Shared} {κ : Type} (S : SK P w κ)
theorem loop_set {I : Addr} {fp wr : List Addr} {G : Array GenState → Array GenState → Prop} {n : Nat} {Pv : Nat → Value → Prop} {St : Nat → Shared → Prop} {R : Result → Shared → Prop}
    (W : WalksS P w A.in1 I fp wr G n Pv St) (a : Addr) (haf : a ∉ fp) (ks : List (Value × κ)) (hn : n = ks.length) (hfew : ks.length ≤ 1200) (hval : ∀ i v, Pv i v → ∃ p, ks[i]? = some p ∧ v = p.1)
    (h0 : Heap) (hk : ∀ p ∈ ks, S.is h0 p.2 p.1) (hv0 : ∀ p ∈ ks, ∀ c, p.1 = .ref c → ∃ o, h0.get? c = some o) (ha0 : h0.get? a = none) (hw0 : ∀ b ∈ wr, h0.get? b = none) (hu : A.in1.units < cLine) :
    ∀ (k i : Nat) (s : Shared), n - i = k → i ≤ n → St i s → (∀ b o, h0.get? b = some o → s.heap.get? b = some o) → (∃ L, S.iv s.heap a L ∧ Gt ks i L) →
      (∀ s' L, Moved (a :: wr) G s s' → S.iv s'.heap a L → Gt ks n L → (∀ b o, h0.get? b = some o → s'.heap.get? b = some o) → R (.ok (.ret .none)) s') →
      codeAny (model P w) A (.builtin "set.update.loop" ⟨[.ref a, .ref I], []⟩) R s := by
  have haw : a ∉ wr := fun h => haf (W.sub _ h)
  have hsub : ∀ b ∈ wr, b ∈ a :: wr := fun b hb => List.mem_cons_of_mem _ hb
  have keepM : ∀ {s s' : Shared}, Moved wr G s s' → (∀ b o, h0.get? b = some o → s.heap.get? b = some o) → ∀ b o, h0.get? b = some o → s'.heap.get? b = some o := fun hm hkp b o e =>
    hm.heap b o (fun hb => by rw [hw0 b hb] at e; cases e) (hkp b o e)
  have ivM : ∀ {s s' : Shared} {L : List (Value × κ)}, Moved wr G s s' → (∀ b o, h0.get? b = some o → s.heap.get? b = some o) → (∀ p ∈ L, p ∈ ks) → S.iv s.heap a L → S.iv s'.heap a L := fun {s s' L} hm hkp hs h =>
    S.ivKeep h (fun o e => hm.heap a o haw e) fun c o ⟨p, hp, e⟩ q => by
      obtain ⟨o', ho'⟩ := hv0 p (hs p hp) c e
      have q1 := hkp c o' ho'
      obtain rfl := Option.some.inj (q1.symm.trans q)
      exact keepM hm hkp c o' ho'
  intro k
  induction k with
  | zero =>
    intro i s hk' hi hst hkp ⟨L, hS, g⟩ hR
    have hin : i = n := by omega
    subst hin
    refine codeAny_builtin F.entry_set_update_loop ?_
    rw [Around.under_plainId F.plain_set_update_loop _]
    show wpAny _ A.in1 (pyNext (.ref I) >>= _) _ _ s
    refine wpAny_bind (W.done s _ _ hst fun s' hm => ?_)
    show wpAny _ A.in1 (ret Value.none) _ _ s'
    exact wpAny_pure (hR s' L (hm.mono hsub) (ivM hm hkp (fun p hp => List.mem_of_mem_take (g.sub p hp)) hS) g (keepM hm hkp))
  | succ k ih =>
    intro i s hk' hi hst hkp ⟨L, hS, g⟩ hR
    have hlt : i < n := by omega
    refine codeAny_builtin F.entry_set_update_loop ?_
    rw [Around.under_plainId F.plain_set_update_loop _]
    show wpAny _ A.in1 (pyNext (.ref I) >>= _) _ _ s
    refine wpAny_bind (W.item i s _ _ hlt hst fun v s' hP hst' hm => ?_)
    obtain ⟨p, hp, rfl⟩ := hval i v hP
    have hkp' := keepM hm hkp
    have hS' := ivM hm hkp (fun p hp => List.mem_of_mem_take (g.sub p hp)) hS
    have hx : S.is s'.heap p.2 p.1 := S.isKeep (hk p (List.mem_of_getElem? hp)) hkp'
    show wpAny _ A.in1 (holding [p.1] (setAdd a p.1) >>= _) _ _ s'
    refine wpAny_bind (wpAny_holding ?_)
    refine S.add hS' hx hu (by have := g.len; omega) fun b h' tk L' hsb htk hS2 c1 c2 => ?_
    have g' : Gt ks (i + 1) L' := by
      rcases Classical.em (p.2 ∈ L.map (·.2)) with c | c
      · rw [c1 c]; exact g.same hp c
      · exact g.more hp (c2 c)
    have hkp2 : ∀ b o, h0.get? b = some o → h'.get? b = some o := fun b o e => (hsb.2 b (fun z => by rw [z, ha0] at e; cases e)).trans (hkp' b o e)
    refine wpAny_pure ⟨plainId_quiet F.plain_set_update_loop _, ih (i + 1) { s' with heap := h', toks := tk } (by omega) hlt (W.frame _ s' _ _ hst' htk fun b hb o e => ?_) hkp2 ⟨L', hS2, g'⟩ fun s'' L2 hm'' hS'' g'' hkp'' => ?_⟩
    · rw [hsb.2 b (fun h : b = a => haf (by rw [← h]; exact hb))]; exact e
    · refine hR s'' L2 (Moved.trans W.gtrans ((hm.mono hsub).then_heap htk fun b o hb e => ?_) hm'') hS'' g'' hkp''
      rw [hsb.2 b (fun h : b = a => hb (by rw [h]; exact List.mem_cons_self))]; exact e

set_option maxHeartbeats 3200000 in
/-- set(xs) of a list -/
theorem call_setL {l : Addr} {items : Array Value} (ks : List (Value × κ)) {Q : Value → Shared → Prop} (hh : A.handled = none) (hl : s.heap.IsList l items) (hit : items.toList = ks.map (·.1))
    (hk : ∀ p ∈ ks, S.is s.heap p.2 p.1) (hv0 : ∀ p ∈ ks, ∀ c, p.1 = .ref c → ∃ o, s.heap.get? c = some o) (hfew : ks.length ≤ 1200) (hu : A.units + 3 < cLine)
    (h : ∀ (h' : Heap) (tk : Nat) L, S.iv h' s.heap.objs.size L → Gt ks ks.length L → (∀ b o, s.heap.get? b = some o → h'.get? b = some o) → Q (.ref s.heap.objs.size) { s with heap := h', toks := tk }) :
    wpAny (model P w) A (call (.type "set") [.ref l]) Q E s := by
  have hisz : items.size = ks.length := by
    have q := congrArg List.length hit
    rwa [Array.length_toList, List.length_map] at q
  obtain ⟨c, tl, hmro⟩ := F.called_set.mro
  have hmade := F.called_set.made
  have hsub := F.called_set.sub
  refine wpAny_call (codeAny_of_tree ?_)
  show wpAny _ _ (callAny (.type "set") _) _ _ _
  refine wpAny_pure ⟨Code.quiet_builtin _ (by decide +kernel), codeAny_builtin F.entry_type_call ?_⟩
  rw [Around.under_plain (weight_type_call_type "set" [.ref l] []) rfl]
  have h1 := F.called_set.notType
  have h2 := F.called_set.canCreate
  have hct := F.typeCall_set_1 (.ref l)
  repeat (any_goals (first | assumption | wp_step))
  refine codeAny_mono (code_set_led1 (.ref l) (E := E) (Q₁ := fun obj s₁ => obj = .ref s.heap.objs.size ∧ s₁ = { s with heap := s.heap.push (freshSet w) }) ⟨rfl, rfl⟩) fun r s₁ hr => ?_
  cases r with
  | error e => exact hr
  | ok fl =>
    cases fl with
    | ret obj =>
      obtain ⟨rfl, rfl⟩ := hr
      have hS : (s.heap.push (freshSet w)).get? s.heap.objs.size = some (freshSet w) := Heap.get?_push_size _ rfl
      have hT : Shared.TypeIs { s with heap := s.heap.push (freshSet w) } (.ref s.heap.objs.size) "set" := ⟨_, hS, rfl⟩
      have hli := F.called_set.init.lookup
      have hbi := F.called_set.init.bind (.ref s.heap.objs.size)
      repeat (any_goals (first | assumption | wp_step))
      refine codeAny_mono (codeAny_call_builtin (R := wants (fun r s₂ => r = .none ∧ ∃ h' tk L, s₂ = { s with heap := h', toks := tk } ∧ S.iv h' s.heap.objs.size L ∧ Gt ks ks.length L ∧
          (∀ b o, s.heap.get? b = some o → h'.get? b = some o)) E) F.called_set.init.plain F.entry_set_init (check_set_init_1 hT ?_)) fun r₂ s₂ hr₂ => ?_
      · obtain ⟨ol, hol, hcl, nl, hdl⟩ := hl
        obtain ⟨ocls, odict, odata, oslots⟩ := ol
        simp only at hcl hdl
        subst hcl; subst hdl
        have hol' : (s.heap.push (freshSet w)).get? l = some { cls := .type "list", dict := odict, data := .seq items nl, slots := oslots } := Heap.get?_push_of_some _ hol
        have hsls := F.sub_list_set
        have hslf := F.sub_list_frozenset
        have hne : (Value.type "list" == Value.type "dict") = false := by decide
        have hl1 : (s.heap.push (freshSet w)).IsList l items := ⟨_, hol', rfl, nl, rfl⟩
        unfold Builtin.«set.__init__» noKeywords Builtin.Frozenset.updateFrom
        generalize hPI : pyIter = PI
        wp_walk
        subst hPI
        refine wpAny_pyIter_list hl1 ?_
        refine wpAny_bind (wpAny_runValue ?_)
        have hlS : l < s.heap.objs.size := Heap.lt_size hol
        have hh3 : A.in1.in1.in1.handled = none := by simp [hh]
        have hneI : l ≠ (s.heap.push (freshSet w)).objs.size := by
          rw [Heap.size_push]; exact Nat.ne_of_lt (Nat.lt_succ_of_lt hlS)
        have hSf : s.heap.objs.size ∉ [(s.heap.push (freshSet w)).objs.size, l] := by
          rw [Heap.size_push]; simp only [List.mem_cons, List.not_mem_nil, or_false, not_or]
          exact ⟨Nat.ne_of_lt (Nat.lt_succ_self _), Nat.ne_of_gt hlS⟩
        have hval : ∀ (i : Nat) (v : Value), items[i]? = some v → ∃ p, ks[i]? = some p ∧ v = p.1 := fun i v hv => by
          have q : items.toList[i]? = some v := by rw [Array.getElem?_toList]; exact hv
          rw [hit, List.getElem?_map] at q
          cases hq : ks[i]? with
          | none => rw [hq] at q; cases q
          | some p => rw [hq] at q; exact ⟨p, rfl, (Option.some.inj q).symm⟩
        have none_of : ∀ b, s.heap.objs.size ≤ b → s.heap.get? b = none := fun b hb => by
          cases q : s.heap.get? b with
          | none => rfl
          | some o => exact absurd (Nat.lt_of_lt_of_le (Heap.lt_size q) hb) (Nat.lt_irrefl _)
        refine loop_set S ((Walks.list hh3 _ l hneI items).toS) s.heap.objs.size
          hSf ks hisz hfew hval s.heap hk hv0 (none_of _ (Nat.le_refl _)) (fun b hb => none_of b (by
            rw [List.mem_singleton.mp hb, Heap.size_push]
            exact Nat.le_succ _)) hu (items.size - 0) 0 _ (by omega) (Nat.zero_le _)
          ⟨⟨_, Heap.get?_push_size _ rfl, rfl, rfl⟩, (hl1.push _)⟩ (fun b o e => Heap.get?_push_of_some _ (Heap.get?_push_of_some _ e)) ?hS0 ?hR
        case hS0 => exact ⟨[], S.fresh (Heap.get?_push_of_some _ hS), Gt.zero ks⟩
        case hR =>
          intro s' L hm hS' g' hkp
          obtain ⟨h', g2, d', tk', os'⟩ := s'
          have eg : g2 = s.gens := hm.gens
          have ed : d' = s.drawn := hm.drawn
          have eo : os' = s.os := hm.os
          subst eg; subst ed; subst eo
          show wpAny _ _ _ _ _ _
          refine wpAny_pure ?_
          show wpAny _ _ (ret Value.none) _ _ _
          rw [hisz] at g'
          exact wpAny_pure ⟨rfl, h', tk', L, rfl, hS', g', hkp⟩
      · cases r₂ with
        | error e => exact hr₂
        | ok fl₂ =>
          cases fl₂ with
          | ret r =>
            obtain ⟨rfl, h', tk, L, rfl, hS', g', hk'⟩ := hr₂
            repeat (any_goals (first | assumption | wp_step))
            exact h _ _ _ hS' g' hk'
          | _ => exact hr₂.elim
    | _ => exact hr.elim
theorem sorted_face {a : Addr} {us : List Value} {es : Array (Int × Value)} {ep : Nat} {t : SetTable} {β : Type} {bs : List β} {enc : β → PyData} {R : Value → β → Prop} {Q : Value → Shared → Prop} (F : Face w s.heap a us es ep t) (hh : A.handled = none)
    (e : PySem.W.EachIs R us bs) (er : PySem.W.EachIs (fun v b => ∃ as, Reads s.heap v (enc b) as) us bs) (hal : PySem.W.AllAlike (bs.map enc)) (hk : PySem.W.Sortable (bs.map enc)) (hu : ∀ b, b ∈ bs → A.units + 2 + (enc b).depth < cLine)
    (hQ : ∀ s' p (out : List Value) (c : Nat) (bs' : List β), (∀ b o, s.heap.get? b = some o → s'.heap.get? b = some o) → s'.gens = s.gens → s'.os = s.os → s.heap.objs.size ≤ p →
      s'.heap.get? p = some (seqObj "list" out.toArray c) → bs'.Perm bs → PySem.W.EachIs R out (bs'.mergeSort (PySem.W.dataLe false enc)) → Q (.ref p) s') :
    wpAny (model P w) A (call (.builtin "sorted") [.ref a]) Q E s := by
  obtain ⟨⟨o, ho, hex, hd⟩, hvs, hf, hsm, ris, led⟩ := F
  have hlu : us.length = es.size := by rw [← hvs, List.length_map, Array.length_toList]
  refine Calls.call_function_entry kind_sorted plain_sorted entry_sorted (args_sorted1 _) ?_
  unfold Builtin.«sorted»
  refine wpAny_bind (m := checkCount "sorted" 1 1 _) (wpAny_pure ?_)
  refine wpAny_bind (collect_set (A := A.in1) hh ⟨o, ho, hex.1, hd⟩ hf (by unfold scanBound; omega) ris led fun s1 vs k1 hz g1 o1 pm => ?_)
  rw [hvs] at pm
  -- the items in the walk's order, with what they stand for
  have lz : us.length = bs.length := by rw [e.length]
  obtain ⟨zs, hz1, hz2⟩ := perm_back (Prod.fst : Value × β → Value) pm (m := us.zip bs) (List.map_fst_zip (by omega))
  have both : ∀ z ∈ us.zip bs, R z.1 z.2 ∧ ∃ as, Reads s.heap z.1 (enc z.2) as := by
    clear hz2 hz1 pm hvs hlu lz hal hk hu hQ
    induction e with
    | nil => exact fun z hz => by cases hz
    | cons r _ ih =>
      cases er with
      | cons r' er' =>
        intro z hz
        rcases List.mem_cons.mp hz with rfl | hz
        · exact ⟨r, r'⟩
        · exact ih er' z hz
  have each : ∀ {R' : Value → β → Prop} (l : List (Value × β)), (∀ z ∈ l, R' z.1 z.2) → PySem.W.EachIs R' (l.map Prod.fst) (l.map Prod.snd) := by
    intro R' l
    induction l with
    | nil => exact fun _ => .nil
    | cons z l ih => exact fun h => .cons (h z List.mem_cons_self) (ih fun y hy => h y (List.mem_cons_of_mem _ hy))
  have pb : (zs.map Prod.snd).Perm bs := by
    have q := hz2.map Prod.snd
    rwa [List.map_snd_zip (by omega)] at q
  have e1 : PySem.W.EachIs R vs (zs.map Prod.snd) := by
    rw [← hz1]
    exact each zs fun z hz => (both z (hz2.mem_iff.mp hz)).1
  have er1 : PySem.W.EachIs (fun v b => ∃ as, Reads s1.heap v (enc b) as) vs (zs.map Prod.snd) := by
    rw [← hz1]
    exact each zs fun z hz => by
      obtain ⟨as, r⟩ := (both z (hz2.mem_iff.mp hz)).2
      exact ⟨as, PyProof.Rows.Reads.keeps k1 r⟩
  have hvl : vs.length ≤ 1200 := by rw [pm.length_eq, hlu]; exact hsm
  have hbl : (zs.map Prod.snd).length ≤ 1200 := by rw [← hz1, List.length_map] at hvl; rw [List.length_map]; exact hvl
  have pe : ((zs.map Prod.snd).map enc).Perm (bs.map enc) := pb.map enc
  refine wpAny_bind (wpAny_newList ?_ (by rw [sizeLine_eq]; omega))
  have hoL : (s1.heap.push (seqObj "list" vs.toArray 0)).get? s1.heap.objs.size = some (seqObj "list" vs.toArray 0) := Heap.get?_push_size _ rfl
  refine wpAny_bind (wpAny_holding (PySem.W.list_sort_data (s := { s1 with heap := s1.heap.push (seqObj "list" vs.toArray 0) }) hoL e1 (er1.mono fun v b ⟨as, r⟩ => ⟨as, PyProof.Rows.Reads.keeps (fun _ _ q => Heap.get?_push_of_some _ q) r, ?notin⟩) ?_ ?_ (by rw [sizeLine_eq]; omega) (fun b hb => ?_) fun out hlen ho => ?_))
  case notin =>
    intro hm
    exact absurd (reads_old r _ hm) (Nat.lt_irrefl _)
  · exact fun d hd' d' hd2 => hal d (pe.mem_iff.mp hd') d' (pe.mem_iff.mp hd2)
  · rcases hk with h | h
    · exact .inl fun d hd' => h d (pe.mem_iff.mp hd')
    · exact .inr fun d hd' => h d (pe.mem_iff.mp hd')
  · have := hu b (pb.mem_iff.mp hb)
    show A.in1.units + 1 + _ < cLine
    have e0 : A.in1.units ≤ A.units + 1 := by simp [Around.in1]
    omega
  · obtain ⟨c, hc⟩ := sortedHeap_at (vs := vs) (out := out.toArray) hoL
    refine wpAny_pure ⟨_, rfl, hQ _ s1.heap.objs.size out c (zs.map Prod.snd) (fun b u q => ?_) g1 o1 hz hc pb ho⟩
    have q1 := k1 b u q
    have hlt := Heap.lt_size q1
    show (sortedHeap (s1.heap.push (seqObj "list" vs.toArray 0)) s1.heap.objs.size vs out.toArray).get? b = some u
    rw [sortedHeap_old (Nat.ne_of_lt hlt) (by rw [size_push']; exact Nat.lt_succ_of_lt hlt)]
    exact Heap.get?_push_of_some _ q1
end
end G9

namespace G9
open PySem PySem.Spec PyProof.Rows L2
def FaceO (w : World) (a : Addr) (us : List Value) : HO := .ext fun h => ∃ es ep t, Face w h a us es ep t
theorem faceO_new {P : Program} {w : World} {H : Hp} {h : Heap} {a : Addr} {us : List Value} (R : ∃ es ep t, Face w h a us es ep t) : ObjOk P w H h a (FaceO w a us) := by
  obtain ⟨es, ep, t, F⟩ := R
  obtain ⟨o, ho, r⟩ := F.ob
  refine ⟨⟨es, ep, t, F⟩, ⟨o, ho⟩, fun h1 h2 p k => ?_⟩
  have ⟨es', ep', t', F'⟩ := p
  obtain ⟨o', ho', r'⟩ := F'.ob
  exact ⟨es', ep', t', ⟨o', k o' ho', r'⟩, F'.vs, F'.fit, F'.sm, F'.ris, F'.led⟩
def kD : Key → D
  | .inl i => .int i
  | .inr x => .str x.cps.toList
theorem kD_inj : ∀ {a b : Key}, kD a = kD b → a = b
  | .inl _, .inl _, h => by cases h; rfl
  | .inl _, .inr _, h => by cases h
  | .inr _, .inl _, h => by cases h
  | .inr ⟨x⟩, .inr ⟨y⟩, h => by
    injection h with h
    have e : x = y := Array.toList_inj.mp h
    rw [e]
theorem kDs_inj : ∀ {a b : List Key}, a.map kD = b.map kD → a = b
  | [], [], _ => rfl
  | [], _ :: _, h => by cases h
  | _ :: _, [], h => by cases h
  | x :: a, y :: b, h => by
    obtain ⟨e1, e2⟩ := List.cons.inj h
    rw [kD_inj e1, kDs_inj e2]
def tD (k : List Key) : D := .tup (k.map kD)
theorem tD_inj {a b : List Key} (h : tD a = tD b) : a = b := by
  injection h with h
  exact kDs_inj h
structure SD (X : Cx) (κ : Type) where
  sk : SK X.prog X.w κ
  dOf : κ → D
  vOf : Value × κ → V
  inj : ∀ {a b : κ}, dOf a = dOf b → a = b
  fit : D → Bool
  read : ∀ {pins : List (Addr × Obj)} {s : Shared} {σ : L2.St} {H : Hp} (I : Inv X pins σ H s) {x : V} {u : Value} {d : D}, RelV x u → RV X.K H x d → fit d = true →
    ∃ p : Value × κ, p.1 = u ∧ vOf p = x ∧ dOf p.2 = d ∧ sk.is s.heap p.2 p.1 ∧ ∀ c, p.1 = .ref c → ∃ o, s.heap.get? c = some o
theorem SD.reads {X : Cx} {κ : Type} (S : SD X κ) {pins : List (Addr × Obj)} {s : Shared} {σ : L2.St} {H : Hp} (I : Inv X pins σ H s) : ∀ {xs : List V} {us : List Value} {ds : List D}, Vals xs us → RVs X.K H xs ds → ds.all S.fit = true →
    ∃ ks : List (Value × κ), ks.map (·.1) = us ∧ ks.map S.vOf = xs ∧ ks.map (fun p => S.dOf p.2) = ds ∧ ∀ p ∈ ks, S.sk.is s.heap p.2 p.1 ∧ (∀ c, p.1 = .ref c → ∃ o, s.heap.get? c = some o) ∧ RelV (S.vOf p) p.1 ∧ RV X.K H (S.vOf p) (S.dOf p.2)
  | [], _, _, .nil, .nil, _ => ⟨[], rfl, rfl, rfl, fun p hp => by cases hp⟩
  | _ :: _, _ :: _, _ :: _, .cons r rs, .cons q qs, h => by
    rw [List.all_cons, Bool.and_eq_true] at h
    obtain ⟨p, e1, e2, e3, e4, e5⟩ := S.read I r q h.1
    obtain ⟨ks, f1, f2, f3, f4⟩ := S.reads I rs qs h.2
    refine ⟨p :: ks, by rw [List.map_cons, e1, f1], by rw [List.map_cons, e2, f2], by rw [List.map_cons, e3, f3], fun y hy => ?_⟩
    rcases List.mem_cons.mp hy with rfl | hy
    · exact ⟨e4, e5, by rw [e2, e1]; exact r, by rw [e2, e3]; exact q⟩
    · exact f4 y hy
theorem ks_vals {κ : Type} {f : Value × κ → V} : ∀ {L : List (Value × κ)}, (∀ p ∈ L, RelV (f p) p.1) → Vals (L.map f) (L.map (·.1))
  | [], _ => .nil
  | p :: L, h => .cons (h p List.mem_cons_self) (ks_vals fun q hq => h q (List.mem_cons_of_mem _ hq))
theorem ks_rvs {K : PySem.W.Frag} {H : Hp} {κ : Type} {f : Value × κ → V} {g : Value × κ → D} : ∀ {L : List (Value × κ)}, (∀ p ∈ L, RV K H (f p) (g p)) → RVs K H (L.map f) (L.map g)
  | [], _ => .nil
  | p :: L, h => .cons (h p List.mem_cons_self) (ks_rvs fun q hq => h q (List.mem_cons_of_mem _ hq))
def rSetD (K : PySem.W.Frag) (w : World) (fit : D → Bool) (vs : List V) (H : Hp) (Q : VK) : Prop := ∃ l xs ds, vs = [V.ref l] ∧ SqL K H l xs ∧ RVs K H xs ds ∧ ds.all fit = true ∧ ds.length ≤ 1200 ∧
  ∀ a us ys es, H a = none → Vals ys us → RVs K H ys es → es.Nodup → (∀ d, d ∈ es ↔ d ∈ ds) → Q (.ref a) (upd H a (FaceO w a us))
def rSortF (K : PySem.W.Frag) (w : World) (B : Nat) (vs : List V) (H : Hp) (Q : VK) : Prop := ∃ a us ys es, vs = [V.ref a] ∧ H a = some (FaceO w a us) ∧ Vals ys us ∧ RVs K H ys es ∧ SrtOk B es ∧
  ∀ zs p es', es'.Perm es → RVs K H zs (sortD es') → H p = none → Q (.ref p) (upd H p (.lst zs))
section
variable {X : Cx}
theorem cr_setD {κ : Type} (S : SD X κ) (hc : X.calm = true) (hu : X.A.units + 3 < cLine) : CallR X (.type "set") (rSetD X.K X.w S.fit) := by
  rintro pins s σ H vs us Q I r ⟨l, xs, ds, rfl, hl, hr, hf, hn, q⟩
  rw [Vals.ref1 r]
  obtain ⟨its, rv, pl, hz⟩ := I.list hl
  obtain ⟨ks, f1, f2, f3, f4⟩ := S.reads I rv hr hf
  have hlen : ks.length = ds.length := by rw [← f3, List.length_map]
  refine call_setL S.sk ks (I.ok.hd hc) pl.isList (by simpa using f1.symm) (fun p hp => (f4 p hp).1) (fun p hp => (f4 p hp).2.1) (by omega) hu fun h' tk L R g k => ?_
  have sub : ∀ p ∈ L, p ∈ ks := fun p hp => List.mem_of_mem_take (g.sub p hp)
  have hno : H s.heap.objs.size = none := I.hok.fresh (Nat.le_refl _)
  refine ⟨.ref s.heap.objs.size, upd H s.heap.objs.size (FaceO X.w s.heap.objs.size (L.map (·.1))), I.laid (t' := tk) k (Nat.le_refl _) (faceO_new (S.sk.face R)), rfl,
    q _ (L.map (·.1)) (L.map S.vOf) (L.map fun p => S.dOf p.2) hno (ks_vals fun p hp => (f4 p (sub p hp)).2.2.1) (ks_rvs fun p hp => (f4 p (sub p hp)).2.2.2) ?_ fun d => ?_⟩
  · have nd := S.sk.nd R
    have e : (L.map fun p => S.dOf p.2) = (L.map (·.2)).map S.dOf := by rw [List.map_map]; rfl
    rw [e]
    exact List.pairwise_map.mpr (nd.imp fun hne z => hne (S.inj z))
  · rw [← f3]
    constructor
    · intro hd
      obtain ⟨p, hp, rfl⟩ := List.mem_map.mp hd
      exact List.mem_map.mpr ⟨p, sub p hp, rfl⟩
    · intro hd
      obtain ⟨p, hp, rfl⟩ := List.mem_map.mp hd
      obtain ⟨p', hp', e⟩ := List.mem_map.mp (g.all p (by rw [List.take_length]; exact hp))
      exact List.mem_map.mpr ⟨p', hp', by rw [e]⟩
theorem cr_sortF {B : Nat} (hc : X.calm = true) (hB : X.A.units + B < cLine) : CallR X (.builtin "sorted") (rSortF X.K X.w B) := by
  rintro pins s σ H vs us0 Q I r ⟨a, us, ys, es, rfl, ha, hv, hr, ok, q⟩
  obtain ⟨fe, fp, ft, F⟩ : ∃ es ep t, Face X.w s.heap a us es ep t := (I.hok a _ ha).1
  rw [Vals.ref1 r]
  have len : ys.length = es.length := hr.len
  have zd : (ys.zip es).map (fun b => b.2.pd) = es.map D.pd := by
    have := congrArg (List.map D.pd) (map_snd_zip len)
    rwa [List.map_map] at this
  refine sorted_face (bs := ys.zip es) (enc := fun b => b.2.pd) F (I.ok.hd hc) (vals_each hv len.symm) (each_reads I hv hr ok.lay) (by rw [zd]; exact ok.al) (by rw [zd]; exact ok.so) (fun b hb => ?_) fun s' p out c bs' k g o hp hg pm ho => ?_
  · have := ok.dp b.2 (List.of_mem_zip hb).2
    unfold D.dep at this
    omega
  · have hv2 := each_vals ho
    have e1 : (bs'.mergeSort (PySem.W.dataLe false fun b => b.2.pd)).map Prod.snd = sortD (bs'.map Prod.snd) :=
      List.map_mergeSort (l := bs') (f := Prod.snd) (r := PySem.W.dataLe false fun b : V × D => b.2.pd) (s := fun a b => PySem.W.dataLe false D.pd a b) (fun x _ y _ => rfl)
    have pe : (bs'.map Prod.snd).Perm es := by
      have := pm.map Prod.snd
      rwa [map_snd_zip len] at this
    have hr2 : RVs X.K H ((bs'.mergeSort (PySem.W.dataLe false fun b => b.2.pd)).map Prod.fst) (sortD (bs'.map Prod.snd)) := by
      rw [← e1]
      exact RVs.unzip fun b hb => RVs.zip hr b (pm.mem_iff.mp ((List.mergeSort_perm _ _).mem_iff.mp hb))
    have hbl : bs'.length ≤ 1200 := by
      rw [pm.length_eq, List.length_zip]
      have e2 : ys.length = us.length := hv.length
      have e3 : us.length = fe.size := by rw [← F.vs, List.length_map, Array.length_toList]
      have := F.sm
      omega
    have hlen : ((bs'.mergeSort (PySem.W.dataLe false fun b => b.2.pd)).map Prod.fst).length ≤ sizeLine := by
      rw [List.length_map, List.length_mergeSort, sizeLine_eq]
      omega
    have hn : H p = none := I.hok.fresh hp
    have J : Inv X pins σ (upd H p (.lst ((bs'.mergeSort (PySem.W.dataLe false fun b => b.2.pd)).map Prod.fst))) { s with heap := s'.heap, gens := s'.gens, drawn := s'.drawn, toks := s'.toks } :=
      I.call (ch := []) (Un.laid k hp hn) (I.hok.laid k hp ⟨hlen, out, c, hv2, hg⟩) (by rw [g]; exact I.bare) (fun _ z => nomatch z)
    have e : s' = { s with heap := s'.heap, gens := s'.gens, drawn := s'.drawn, toks := s'.toks } := by
      cases s'
      cases s
      cases o
      rfl
    rw [e]
    exact ⟨.ref p, _, J, rfl, q _ p _ pe hr2 hn⟩
theorem rkes_kd : ∀ {ks : List Key} {ds : List D}, RKes ks ds → ds = ks.map kD
  | _, _, .nil => rfl
  | _, _, .cons k r => by
    cases k with
    | int i => rw [rkes_kd r]; rfl
    | str s => rw [rkes_kd r]; rfl
def tupF : D → Bool
  | .tup xs => xs.all atomD
  | _ => false
def sdT (X : Cx) : SD X (List Key) where
  sk := skT X.prog X.w
  dOf := tD
  vOf := fun p => match p.1 with | .ref a => .ref a | _ => .non
  inj := tD_inj
  fit := tupF
  read := fun {pins s σ H} I {x u d} rx rd hf => by
    cases rd with
    | @tup a xs ds g rr =>
      cases rx
      obtain ⟨ks, rfl, rk⟩ := rvs_atoms rr hf
      obtain ⟨its, rv, ⟨o, ho, hc, n, hd⟩, _⟩ := I.tuple g
      exact ⟨(.ref a, ks), rfl, rfl, by rw [rkes_kd rk]; rfl, ⟨a, rfl, o, its.toArray, n, ho, hc, hd, by simpa using items_are rv⟩, fun c e => by cases e; exact ⟨o, ho⟩⟩
    | _ => cases hf
def sdA (X : Cx) : SD X Key where
  sk := skA X.prog X.w
  dOf := kD
  vOf := fun p => kV p.2
  inj := kD_inj
  fit := atomD
  read := fun {pins s σ H} I {x u d} rx rd hf => by
    cases rd with
    | int i =>
      obtain ⟨t, rfl⟩ := rx
      exact ⟨(.int i t, .inl i), rfl, rfl, rfl, keyIs_int i t, fun c e => by cases e⟩
    | str z =>
      obtain ⟨t, rfl⟩ := rx
      exact ⟨(.str _ t, .inr _), rfl, rfl, rfl, keyIs_str _ t, fun c e => by cases e⟩
    | _ => cases hf
end
end G9

namespace G9
open PySem PySem.Spec PyProof.Rows L2
noncomputable def ddD : List D → List D
  | [] => []
  | x :: xs => @ite _ (x ∈ xs) (Classical.propDecidable _) (ddD xs) (x :: ddD xs)
theorem ddD_mem : ∀ {xs : List D} {d : D}, d ∈ ddD xs ↔ d ∈ xs
  | [], d => Iff.rfl
  | x :: xs, d => by
    unfold ddD
    by_cases h : x ∈ xs
    · rw [if_pos h, ddD_mem, List.mem_cons]
      exact ⟨.inr, fun z => z.elim (fun e => e ▸ h) id⟩
    · rw [if_neg h, List.mem_cons, ddD_mem, List.mem_cons]
theorem ddD_nodup : ∀ (xs : List D), (ddD xs).Nodup
  | [] => List.nodup_nil
  | x :: xs => by
    unfold ddD
    by_cases h : x ∈ xs
    · rw [if_pos h]; exact ddD_nodup xs
    · rw [if_neg h]
      exact List.nodup_cons.mpr ⟨fun z => h (ddD_mem.mp z), ddD_nodup xs⟩
theorem ddD_len : ∀ (xs : List D), (ddD xs).length ≤ xs.length
  | [] => Nat.le_refl _
  | x :: xs => by
    have := ddD_len xs
    unfold ddD
    by_cases h : x ∈ xs
    · rw [if_pos h]; simp only [List.length_cons]; omega
    · rw [if_neg h]; simp only [List.length_cons]; omega
theorem ddD_perm {es xs : List D} (h : es.Nodup) (m : ∀ d, d ∈ es ↔ d ∈ xs) : es.Perm (ddD xs) :=
  (List.perm_ext_iff_of_nodup h (ddD_nodup xs)).mpr fun d => (m d).trans ddD_mem.symm
structure SsOk (B : Nat) (xs : List D) : Prop where
  len : xs.length ≤ 1200
  fit : xs.all tupF = true ∨ xs.all atomD = true
  srt : SrtOk B xs
  one : ∀ es, es.Perm (ddD xs) → sortD es = sortD (ddD xs)
theorem SrtOk.sub {B : Nat} {xs es : List D} (h : SrtOk B xs) (m : ∀ d, d ∈ es → d ∈ xs) : SrtOk B es := by
  have lays_all : ∀ l : List D, D.lays l = true ↔ ∀ d ∈ l, d.lay = true := by
    intro l
    induction l with
    | nil => exact ⟨fun _ d hd => (by cases hd), fun _ => rfl⟩
    | cons x l ih =>
      rw [lays_cons, Bool.and_eq_true, ih]
      exact ⟨fun ⟨a, b⟩ d hd => (List.mem_cons.mp hd).elim (fun e => e ▸ a) (b d), fun z => ⟨z x List.mem_cons_self, fun d hd => z d (List.mem_cons_of_mem _ hd)⟩⟩
  have mm : ∀ p, p ∈ es.map D.pd → p ∈ xs.map D.pd := fun p hp => by
    obtain ⟨d, hd, rfl⟩ := List.mem_map.mp hp
    exact List.mem_map.mpr ⟨d, m d hd, rfl⟩
  refine ⟨(lays_all es).mpr fun d hd => (lays_all xs).mp h.lay d (m d hd), fun d hd d' hd' => h.al d (mm d hd) d' (mm d' hd'), ?_, fun d hd => h.dp d (m d hd)⟩
  rcases h.so with z | z
  · exact .inl fun d hd => z d (mm d hd)
  · exact .inr fun d hd => z d (mm d hd)
noncomputable def fSortSet (B : Nat) (m : Env → Res (List D)) : Env → Res (List D) := fun env => (m env).bind fun ds => match ds with
  | [d] => match itmL d with
    | some xs => @ite _ (SsOk B xs) (Classical.propDecidable _) (.ok (sortD (ddD xs))) .bad
    | none => .bad
  | _ => .bad
section
variable {X : Cx} {e : Expr} {ms : Env → Res (List D)} {p p2 q pos : Pos}
theorem cr_setX (hc : X.calm = true) (hu : X.A.units + 3 < cLine) : CallR X (.type "set") (fun vs H Q => ∃ f, (f = tupF ∨ f = atomD) ∧ rSetD X.K X.w f vs H Q) := by
  rintro pins s σ H vs us Q I r ⟨f, hf, h⟩
  rcases hf with rfl | rfl
  · exact cr_setD (sdT X) hc hu pins s σ H vs us Q I r h
  · exact cr_setD (sdA X) hc hu pins s σ H vs us Q I r h
theorem itm_sq {K : PySem.W.Frag} {H : Hp} {v : V} {d : D} {xs : List D} (r : RV K H v d) (h : itmL d = some xs) : ∃ l ys, v = .ref l ∧ SqL K H l ys ∧ RVs K H ys xs := by
  cases r with
  | @lst a ys ds g rr => cases h; exact ⟨a, ys, rfl, .inl g, rr⟩
  | @scr a ys ds g rr => cases h; exact ⟨a, ys, rfl, g.sq, rr⟩
  | _ => cases h
theorem df_sortset {B : Nat} (hB : X.A.units + B < cLine) (hc : X.calm = true) (hu : X.A.units + 3 < cLine) (hg : Gl X "sorted") (hm : X.mg "sorted" = none) (hg2 : Gl X "set") (hm2 : X.mg "set" = none) (ha : DA X [e] ms) (hv : bootBuiltins "sorted" = some (.builtin "sorted") := by decide +kernel) (hv2 : bootBuiltins "set" = some (.type "set") := by decide +kernel)
    (he : starEach [e] X.env = (false, eval e X.env) :: starEach [] X.env := by rfl) (hpl : (backTo q (starEach [] X.env)).any (·.1) = false := by rfl)
    (he2 : starEach [.Call (.Name "set" p2) [e] [] q] X.env = (false, eval (.Call (.Name "set" p2) [e] [] q) X.env) :: starEach [] X.env := by rfl) (hpl2 : (backTo pos (starEach [] X.env)).any (·.1) = false := by rfl) :
    DF X (.Call (.Name "sorted" p) [.Call (.Name "set" p2) [e] [] q] [] pos) (fSortSet B ms) := fun W tk =>
  PEw (pe_callB (cr_sortF (B := B) hc hB) hg hm hv (pa_cons (pe_callTy (cr_setX hc hu) hg2 hm2 hv2 (ha W tk) (by decide) (by decide) he hpl) pa_nil he2) (by decide) (by decide) he2 hpl2) fun σ H Q ⟨L, F, fr, env, fps, R, q⟩ => by
  refine ⟨L, F, fr, env, fps, R, ?_⟩
  unfold fSortSet at q
  cases ea : ms env with
  | bad => rw [ea] at q; exact q
  | er x => rw [ea] at q; exact q
  | ok ds =>
    rw [ea] at q
    intro vs H1 s1 r
    simp only [Res.bind] at q
    cases r with
    | nil => exact q.elim
    | cons r1 r2 =>
      cases r2 with
      | cons _ _ => exact q.elim
      | @nil =>
        rename_i d1 v1
        cases ei : itmL v1 with
        | none => simp only [ei] at q
        | some xs =>
          simp only [ei] at q
          by_cases hk : SsOk B xs
          · rw [if_pos hk] at q
            obtain ⟨l, ys, rfl, g, rr⟩ := itm_sq r1 ei
            have cont : ∀ a us zs es, H1 a = none → Vals zs us → RVs X.K H1 zs es → es.Nodup → (∀ d, d ∈ es ↔ d ∈ xs) → rSortF X.K X.w B [V.ref a] (upd H1 a (FaceO X.w a us)) Q := fun a us zs es n1 v1 r1 nd mm => by
              refine ⟨a, us, zs, es, rfl, upd_same, v1, r1.mono (same_upd n1), hk.srt.sub fun d hd => (mm d).mp hd, fun zs' p' es' pe' rr' hp' => ?_⟩
              have e1 : sortD es' = sortD (ddD xs) := hk.one es' (pe'.trans (ddD_perm nd mm))
              rw [e1] at rr'
              exact q p' zs' _ (s1.trans (same_upd n1)) hp' rr'
            rcases hk.fit with hf | hf
            · exact ⟨tupF, .inl rfl, l, ys, xs, rfl, g, rr, hf, hk.len, cont⟩
            · exact ⟨atomD, .inr rfl, l, ys, xs, rfl, g, rr, hf, hk.len, cont⟩
          · rw [if_neg hk] at q; exact q.elim
end
end G9

namespace G9
open PySem PySem.Spec PyProof.Rows L2
theorem atom_toks : ∀ {a : D}, atomD a = true → ∃ t, PySem.W.keyToks a.pd = [t] ∧ ∀ b : D, atomD b = true → PySem.W.keyToks b.pd = [t] → a = b
  | .int i, _ => ⟨.inl i, by simp [D.pd, PySem.W.keyToks], fun b hb e => by
    cases b with
    | int j => simp [D.pd, PySem.W.keyToks] at e; rw [e]
    | str s => simp [D.pd, PySem.W.keyToks] at e
    | _ => cases hb⟩
  | .str s, _ => ⟨.inr s, by simp [D.pd, PySem.W.keyToks], fun b hb e => by
    cases b with
    | int j => simp [D.pd, PySem.W.keyToks] at e
    | str z => simp [D.pd, PySem.W.keyToks] at e; rw [e]
    | _ => cases hb⟩
theorem atoms_toks : ∀ {as bs : List D}, as.all atomD = true → bs.all atomD = true → PySem.W.keyToksAll (D.pds as) = PySem.W.keyToksAll (D.pds bs) → as = bs
  | [], [], _, _, _ => rfl
  | [], b :: bs, _, hb, e => by simp [D.pds, PySem.W.keyToksAll] at e
  | a :: as, [], ha, _, e => by simp [D.pds, PySem.W.keyToksAll] at e
  | a :: as, b :: bs, ha, hb, e => by
    rw [List.all_cons, Bool.and_eq_true] at ha hb
    obtain ⟨t, e1, e2⟩ := atom_toks ha.1
    obtain ⟨u, e3, e4⟩ := atom_toks hb.1
    simp only [D.pds, PySem.W.keyToksAll, e1, e3, List.cons_append, List.nil_append, List.cons.injEq, true_and] at e
    obtain ⟨e5, e6⟩ := e
    subst e5
    rw [e2 b hb.1 e3, atoms_toks ha.2 hb.2 e6]
theorem flat_toks {a b : D} (h : (tupF a = true ∧ tupF b = true) ∨ (atomD a = true ∧ atomD b = true)) (e : PySem.W.keyToks a.pd = PySem.W.keyToks b.pd) : a = b := by
  rcases h with ⟨ha, hb⟩ | ⟨ha, hb⟩
  · cases a with
    | tup as =>
      cases b with
      | tup bs =>
        simp only [D.pd, PySem.W.keyToks] at e
        rw [atoms_toks ha hb e]
      | _ => cases hb
    | _ => cases ha
  · obtain ⟨t, e1, e2⟩ := atom_toks ha
    exact e2 b hb (by rw [← e, e1])
theorem sort_one {es fs : List D} (h : es.all tupF = true ∨ es.all atomD = true) (p : es.Perm fs) : sortD es = sortD fs := by
  have tr : ∀ a b c : D, PySem.W.dataLe false D.pd a b = true → PySem.W.dataLe false D.pd b c = true → PySem.W.dataLe false D.pd a c = true := fun a b c h1 h2 => by
    simp only [PySem.W.dataLe_eq, cond_false, Bool.not_eq_true'] at *
    cases h3 : PySem.W.dataLt c.pd a.pd with
    | false => rfl
    | true =>
      rcases PyProof.Rows.lex_negTrans _ (PySem.W.keyToks b.pd) _ h3 with h4 | h4
      · unfold PySem.W.dataLt at h2; rw [h4] at h2; cases h2
      · unfold PySem.W.dataLt at h1; rw [h4] at h1; cases h1
  have tot : ∀ a b : D, (PySem.W.dataLe false D.pd a b || PySem.W.dataLe false D.pd b a) = true := fun a b => by
    simp only [PySem.W.dataLe_eq, cond_false]
    cases h3 : PySem.W.dataLt b.pd a.pd with
    | false => rfl
    | true =>
      cases h4 : PySem.W.dataLt a.pd b.pd with
      | false => rfl
      | true =>
        have := PyProof.Rows.lex_trans _ _ _ h3 h4
        rw [PyProof.Rows.lex_irrefl] at this
        cases this
  refine List.Perm.eq_of_pairwise (le := fun a b => PySem.W.dataLe false D.pd a b = true) (fun a b ha hb h1 h2 => ?_) (List.pairwise_mergeSort tr tot es) (List.pairwise_mergeSort tr tot fs) (((List.mergeSort_perm es _).trans p).trans (List.mergeSort_perm fs _).symm)
  have ma : a ∈ es := (List.mergeSort_perm es _).mem_iff.mp ha
  have mb : b ∈ es := p.mem_iff.mpr ((List.mergeSort_perm fs _).mem_iff.mp hb)
  simp only [PySem.W.dataLe_eq, cond_false, Bool.not_eq_true'] at h1 h2
  refine flat_toks ?_ (PyProof.Rows.lex_total _ _ h2 h1)
  rcases h with h | h
  · exact .inl ⟨List.all_eq_true.mp h a ma, List.all_eq_true.mp h b mb⟩
  · exact .inr ⟨List.all_eq_true.mp h a ma, List.all_eq_true.mp h b mb⟩
theorem ssOk_of {B : Nat} {xs : List D} (hl : xs.length ≤ 1200) (hf : xs.all tupF = true ∨ xs.all atomD = true) (hs : SrtOk B xs) : SsOk B xs where
  len := hl
  fit := hf
  srt := hs
  one := fun es p => by
    refine sort_one ?_ p
    have sub : ∀ d ∈ es, d ∈ xs := fun d hd => ddD_mem.mp (p.mem_iff.mp hd)
    rcases hf with h | h
    · exact .inl (List.all_eq_true.mpr fun d hd => List.all_eq_true.mp h d (sub d hd))
    · exact .inr (List.all_eq_true.mpr fun d hd => List.all_eq_true.mp h d (sub d hd))
theorem sortD_mem {xs : List D} {d : D} : d ∈ sortD xs ↔ d ∈ xs := (List.mergeSort_perm xs _).mem_iff
theorem sortD_perm (xs : List D) : (sortD xs).Perm xs := List.mergeSort_perm xs _
noncomputable def ssD (xs : List D) : List D := sortD (ddD xs)
theorem ssD_mem {xs : List D} {d : D} : d ∈ ssD xs ↔ d ∈ xs := sortD_mem.trans ddD_mem
theorem ssD_nodup (xs : List D) : (ssD xs).Nodup := (sortD_perm (ddD xs)).nodup_iff.mpr (ddD_nodup xs)
theorem ssD_len (xs : List D) : (ssD xs).length ≤ xs.length := by
  unfold ssD
  rw [(sortD_perm (ddD xs)).length_eq]
  exact ddD_len xs
end G9

namespace G9
open PySem PySem.Spec PyProof.Rows L2
theorem keysK_rvs {K : PySem.W.Frag} {H G : Hp} : ∀ {kvs : List (Key × V)} {dks : List (D × D)}, RKs K H (kvs.map fun p => (Sum.inl p.1, p.2)) dks → RVs K G (kvs.map fun p => kV p.1) (keysD dks)
  | [], _, .nil => .nil
  | (pk, pv) :: kvs, _, .cons k a b => by
    cases k with
    | one e =>
      refine .cons ?_ (keysK_rvs b)
      cases e with
      | int i => exact .int i
      | str s => exact .str s
def rSortK (K : PySem.W.Frag) (B : Nat) (vs : List V) (H : Hp) (Q : VK) : Prop := ∃ a kvs ds, vs = [V.ref a] ∧ Rd H a (.dK kvs) ∧ RVs K H (kvs.map fun p => kV p.1) ds ∧ SrtOk B ds ∧
  ∀ zs p, RVs K H zs (sortD ds) → H p = none → Q (.ref p) (upd H p (.lst zs))
section
variable {X : Cx}
theorem cr_sortK {B : Nat} (hc : X.calm = true) (hB : X.A.units + B < cLine) : CallR X (.builtin "sorted") (rSortK X.K B) := by
  rintro pins s σ H xs us Q I r ⟨a, kvs, ds, rfl, hd, hr, ok, q⟩
  rw [Vals.ref1 r]
  obtain ⟨z, lo, vs, rel, dd⟩ := dk_rd I.hok hd
  obtain ⟨ep, hat⟩ := dd.dictAt
  have hl : kvs.length = vs.length := Paired.length rel
  refine Calls.call_function_entry PyProof.Rows.kind_sorted PyProof.Rows.plain_sorted PyProof.Rows.entry_sorted (PyProof.Rows.args_sorted1 _) ?_
  unfold Builtin.«sorted»
  refine wpAny_bind (m := checkCount "sorted" 1 1 _) (wpAny_pure ?_)
  refine wpAny_bind (PySem.W.kdu_collect (A := X.A.in1) (PySem.W.kdl_dict (knd := mixKind X.prog X.w) (kvs := vs) (ep := ep) lo) (I.ok.hd hc) hat (by omega) fun h' tk acc hk hacc => ?_)
  have hal : acc.toList.length = kvs.length := by rw [Array.length_toList, hacc.1, hl]
  have hv : Vals (kvs.map fun p => kV p.1) acc.toList := by
    refine vals_of_at (by rw [List.length_map, hal]) fun j x w h1 h2 => ?_
    obtain ⟨k, y, hky, hi⟩ := hacc.2 j w (by rw [← Array.getElem?_toList]; exact h2)
    have e1 : (kvs.map (·.1))[j]? = some k := by
      rw [KV.keys rel, List.getElem?_map, hky]
      rfl
    have e2 : (kvs.map fun p => kV p.1)[j]? = some (kV k) := by
      have e3 : (kvs.map fun p => kV p.1) = (kvs.map (·.1)).map kV := by rw [List.map_map]; rfl
      rw [e3, List.getElem?_map, e1]
      rfl
    rw [e2] at h1
    cases h1
    exact keyIs_rel hi
  have I1 : Inv X pins σ H { s with heap := h', toks := tk } := I.kept hk
  generalize acc.toList = us at hal hv
  generalize hys : (kvs.map fun p => kV p.1) = ys at hv hr
  have lys : ys.length = kvs.length := by rw [← hys, List.length_map]
  have len : ys.length = ds.length := hr.len
  have lus : us.length = ds.length := by omega
  have zd : (ys.zip ds).map (fun b => b.2.pd) = ds.map D.pd := by
    have := congrArg (List.map D.pd) (map_snd_zip len)
    rwa [List.map_map] at this
  have zl : (ys.zip ds).length = ys.length := by rw [List.length_zip, ← len, Nat.min_self]
  refine wpAny_bind (wpAny_newList ?_ (by omega))
  have hoL : (h'.push (seqObj "list" us.toArray 0)).get? h'.objs.size = some (seqObj "list" us.toArray 0) := Heap.get?_push_size _ rfl
  show wpAny _ _ _ _ _ { s with heap := h'.push (seqObj "list" us.toArray 0), toks := tk }
  have er := each_reads I1 hv hr ok.lay
  refine wpAny_bind (wpAny_holding (PySem.W.list_sort_data (bs := ys.zip ds) (enc := fun b => b.2.pd) (s := { s with heap := h'.push (seqObj "list" us.toArray 0), toks := tk }) hoL (vals_each hv len.symm) (er.mono fun v b ⟨as, r⟩ => ⟨as, PyProof.Rows.Reads.keeps (fun _ _ q => Heap.get?_push_of_some _ q) r, ?notin⟩) (by rw [zd]; exact ok.al) (by rw [zd]; exact ok.so) (by rw [zl]; omega) (fun b hb => ?_) fun out hlen ho => ?_))
  case notin => exact fun hm => absurd (reads_old r _ hm) (Nat.lt_irrefl _)
  · have := ok.dp b.2 (List.of_mem_zip hb).2
    unfold D.dep at this
    show X.A.in1.units + 1 + _ < cLine
    have e0 : X.A.in1.units ≤ X.A.units + 1 := by simp [Around.in1]
    omega
  · obtain ⟨c, hc'⟩ := PyProof.Rows.sortedHeap_at (vs := us) (out := out.toArray) hoL
    have hv2 := each_vals ho
    have e1 : ((ys.zip ds).mergeSort (PySem.W.dataLe false fun b => b.2.pd)).map Prod.snd = sortD ds := by
      have h := List.map_mergeSort (l := ys.zip ds) (f := Prod.snd) (r := PySem.W.dataLe false fun b : V × D => b.2.pd) (s := fun a b => PySem.W.dataLe false D.pd a b) (fun x _ y _ => rfl)
      rw [map_snd_zip len] at h
      exact h
    have hr2 : RVs X.K H (((ys.zip ds).mergeSort (PySem.W.dataLe false fun b => b.2.pd)).map Prod.fst) (sortD ds) := by
      rw [← e1]
      exact RVs.unzip fun b hb => RVs.zip hr b ((List.mergeSort_perm _ _).mem_iff.mp hb)
    have hz : (((ys.zip ds).mergeSort (PySem.W.dataLe false fun b => b.2.pd)).map Prod.fst).length ≤ sizeLine := by
      rw [List.length_map, List.length_mergeSort, zl]
      omega
    refine wpAny_pure ⟨_, rfl, .ref h'.objs.size, upd H h'.objs.size (.lst _), I1.laid (t' := tk) (fun b u e => ?_) (Nat.le_refl _) ⟨hz, out, c, hv2, hc'⟩, rfl, q _ _ hr2 (I1.hok.fresh (Nat.le_refl _))⟩
    have hb : b < h'.objs.size := Heap.lt_size e
    rw [PyProof.Rows.sortedHeap_old (Nat.ne_of_lt hb) (by rw [size_push']; exact Nat.lt_succ_of_lt hb)]
    exact Heap.get?_push_of_some _ e
end
noncomputable def fSortK (B : Nat) (m : Env → Res (List D)) : Env → Res (List D) := fun env => (m env).bind fun ds => match ds with
  | [.dic false kvs] => @ite _ (SrtOk B (keysD kvs)) (Classical.propDecidable _) (.ok (sortD (keysD kvs))) .bad
  | _ => .bad
section
variable {X : Cx} {e : Expr} {es : List Expr} {ms : Env → Res (List D)} {p pos : Pos}
theorem df_sortK {B : Nat} (hc : X.calm = true) (hB : X.A.units + B < cLine) (hg : Gl X "sorted") (hm : X.mg "sorted" = none) (ha : DA X (e :: es) ms) (hv : bootBuiltins "sorted" = some (.builtin "sorted") := by decide +kernel) (he : starEach (e :: es) X.env = (false, eval e X.env) :: starEach es X.env := by rfl) (hpl : (backTo pos (starEach es X.env)).any (·.1) = false := by rfl) :
    DF X (.Call (.Name "sorted" p) (e :: es) [] pos) (fSortK B ms) := fun W tk => PEw (pe_callB (cr_sortK (B := B) hc hB) hg hm hv (ha W tk) (by decide) (by decide) he hpl) fun σ H Q ⟨L, F, fr, env, fps, R, q⟩ => by
  refine ⟨L, F, fr, env, fps, R, ?_⟩
  unfold fSortK at q
  cases ea : ms env with
  | bad => rw [ea] at q; exact q
  | er x => rw [ea] at q; exact q
  | ok ds =>
    rw [ea] at q
    intro vs H1 s1 r
    simp only [Res.bind] at q
    cases r with
    | nil => exact q.elim
    | cons r1 r2 =>
      cases r2 with
      | cons _ _ => cases r1 <;> exact q.elim
      | nil =>
        cases r1 with
        | @dicK a kvs dks g rr =>
          simp only at q
          by_cases hk : SrtOk B (keysD dks)
          · rw [if_pos hk] at q
            exact ⟨a, kvs, _, rfl, g, keysK_rvs rr, hk, fun zs p r' n => q p zs H1 s1 n r'⟩
          · rw [if_neg hk] at q; exact q.elim
        | dicT g rr => exact q.elim
        | _ => exact q.elim
end
end G9

namespace G9
open PySem PySem.Spec PyProof.Rows L2
noncomputable def srtS (B : Nat) (xs : List D) : Res (List D) := @ite _ (SsOk B xs) (Classical.propDecidable _) (.ok (ssD xs)) .bad
theorem srtS_ok {B : Nat} {xs : List D} (h : SsOk B xs) : srtS B xs = .ok (ssD xs) := if_pos h
@[simp] theorem fSortSet_d (B : Nat) (m : Env → Res (List D)) (env : Env) : fSortSet B m env = (m env).bind fun ds => match ds with
  | [d] => match itmL d with
    | some xs => srtS B xs
    | none => .bad
  | _ => .bad := (rfl)
@[simp] theorem fSortK_d (B : Nat) (m : Env → Res (List D)) (env : Env) : fSortK B m env = (m env).bind fun ds => match ds with
  | [.dic false kvs] => srt B (keysD kvs)
  | _ => .bad := (rfl)
def nI (n : Nat) : D := .int n
theorem srtOk_ints {B : Nat} (hB : 2 ≤ B) (is : List Int) : SrtOk B (is.map D.int) where
  lay := by
    induction is with
    | nil => rfl
    | cons i is ih => rw [List.map_cons, lays_cons, ih]; rfl
  al := fun d hd d' hd' => by
    rw [List.map_map] at hd hd'
    obtain ⟨i, _, rfl⟩ := List.mem_map.mp hd
    obtain ⟨j, _, rfl⟩ := List.mem_map.mp hd'
    simp [D.pd, PySem.W.alike]
  so := .inr fun d hd => by
    rw [List.map_map] at hd
    obtain ⟨i, _, rfl⟩ := List.mem_map.mp hd
    exact ⟨fun h => by simp [D.pd] at h, fun xs h => by simp [D.pd] at h⟩
  dp := fun d hd => by
    obtain ⟨i, _, rfl⟩ := List.mem_map.mp hd
    unfold D.dep
    simp [D.pd, PyData.depth]
    omega
theorem sortD_ints (is : List Int) : sortD (is.map D.int) = (is.mergeSort fun a b => decide (a ≤ b)).map D.int := by
  unfold sortD
  exact (List.map_mergeSort (l := is) (f := D.int) (r := fun a b => decide (a ≤ b)) (s := fun a b => PySem.W.dataLe false D.pd a b) (fun x _ y _ => by
    simp only [PySem.W.dataLe_eq, cond_false, D.pd, PySem.W.dataLt_int]
    by_cases h : y < x
    · have : ¬ x ≤ y := by omega
      simp [h, this]
    · have : x ≤ y := by omega
      simp [h, this])).symm
theorem nI_map (ns : List Nat) : ns.map nI = (ns.map fun n : Nat => (n : Int)).map D.int := by rw [List.map_map]; rfl
theorem srtOk_nats {B : Nat} (hB : 2 ≤ B) (ns : List Nat) : SrtOk B (ns.map nI) := by
  rw [nI_map]
  exact srtOk_ints hB _
def upN (ns : List Nat) : List Nat := ns.mergeSort fun a b => decide (a ≤ b)
theorem sortD_nats (ns : List Nat) : sortD (ns.map nI) = (upN ns).map nI := by
  rw [nI_map, sortD_ints, nI_map]
  congr 1
  unfold upN
  exact (List.map_mergeSort (l := ns) (f := fun n : Nat => (n : Int)) (r := fun a b => decide (a ≤ b)) (s := fun a b : Int => decide (a ≤ b)) (fun x _ y _ => by simp)).symm
theorem upN_perm (ns : List Nat) : (upN ns).Perm ns := List.mergeSort_perm _ _
theorem upN_le (ns : List Nat) : (upN ns).Pairwise (· ≤ ·) := by
  have h := List.pairwise_mergeSort (le := fun a b : Nat => decide (a ≤ b)) (by intro a b c h1 h2; simp only [decide_eq_true_eq] at *; omega) (by intro a b; simp only [Bool.or_eq_true, decide_eq_true_eq]; omega) ns
  exact h.imp fun h => by simpa using h
theorem upN_lt {ns : List Nat} (h : ns.Nodup) : (upN ns).Pairwise (· < ·) :=
  List.Pairwise.imp₂ (fun a b h1 h2 => by omega) (upN_le ns) ((upN_perm ns).nodup_iff.mpr h)
theorem rising_eq {a b : List Nat} (ha : a.Pairwise (· < ·)) (hb : b.Pairwise (· < ·)) (h : ∀ x, x ∈ a ↔ x ∈ b) : a = b :=
  List.Perm.eq_of_pairwise (le := (· < ·)) (fun x y _ _ h1 h2 => by omega) ha hb ((List.perm_ext_iff_of_nodup (ha.imp fun h => Nat.ne_of_lt h) (hb.imp fun h => Nat.ne_of_lt h)).mpr h)
theorem nats_of {ds : List D} (h : ∀ d ∈ ds, ∃ n : Nat, d = nI n) : ∃ ns : List Nat, ds = ns.map nI := by
  induction ds with
  | nil => exact ⟨[], rfl⟩
  | cons d ds ih =>
    obtain ⟨n, rfl⟩ := h d List.mem_cons_self
    obtain ⟨ns, rfl⟩ := ih fun x hx => h x (List.mem_cons_of_mem _ hx)
    exact ⟨n :: ns, rfl⟩
theorem nI_inj {a b : Nat} (h : nI a = nI b) : a = b := by
  unfold nI at h
  injection h with h
  omega
theorem nI_mem {n : Nat} {ns : List Nat} : nI n ∈ ns.map nI ↔ n ∈ ns := by
  constructor
  · intro h
    obtain ⟨k, hk, e⟩ := List.mem_map.mp h
    rw [← nI_inj e]
    exact hk
  · exact fun h => List.mem_map.mpr ⟨n, h, rfl⟩
theorem ssD_nats (ns : List Nat) : ∃ us : List Nat, ssD (ns.map nI) = us.map nI ∧ us.Pairwise (· < ·) ∧ ∀ n, n ∈ us ↔ n ∈ ns := by
  obtain ⟨ks, hk⟩ := nats_of (ds := ddD (ns.map nI)) fun d hd => by
    obtain ⟨n, _, e⟩ := List.mem_map.mp (ddD_mem.mp hd)
    exact ⟨n, e.symm⟩
  have nd : ks.Nodup := by
    have h := ddD_nodup (ns.map nI)
    rw [hk] at h
    exact (List.pairwise_map.mp h).imp fun h e => h (by rw [e])
  refine ⟨upN ks, by unfold ssD; rw [hk, sortD_nats], upN_lt nd, fun n => ?_⟩
  rw [(upN_perm ks).mem_iff, ← nI_mem, ← hk, ddD_mem, nI_mem]
theorem all_atoms (ns : List Nat) : (ns.map nI).all atomD = true := by simp [nI, atomD]
theorem ssOk_nats {B : Nat} (hB : 2 ≤ B) {ns : List Nat} (h : ns.length ≤ 1200) : SsOk B (ns.map nI) := ssOk_of (by simpa using h) (.inr (all_atoms ns)) (srtOk_nats hB ns)
end G9

namespace G9
open PySem PySem.Spec PyProof.Rows L2
end G9

namespace G9
open PySem PySem.Spec PyProof.Rows L2
end G9

namespace G9
open PySem PySem.Spec PyProof.Rows L2
end G9

namespace G9
open PySem PySem.Spec PyProof.Rows L2
end G9

namespace G9
open PySem PySem.Spec PyProof.Rows L2
section
variable {K : PySem.W.Frag}
theorem iter_revl {F1 H1 : Hp} {fp : List Addr} {a : Addr} {xs : List V} {ds : List D} (h : SqL K F1 a xs) (r : RVs K F1 xs ds) : IterOk K (Itv K a xs.length) F1 H1 fp ds.reverse := fun F2 H2 s1 s2 _ => by
  have h2 : SqL K H2 a xs := (s1.trans s2).seq h
  have hl := r.len
  refine ⟨by show xs.length ≤ _; rw [List.length_reverse, hl]; exact Nat.le_refl _, fun i d hd => ?_⟩
  have hi : i < ds.length := by have := (List.getElem?_eq_some_iff.mp hd).1; rw [List.length_reverse] at this; exact this
  rw [List.getElem?_reverse hi] at hd
  obtain ⟨u, hu, ru⟩ := r.get hd
  rw [← hl] at hu hi
  refine ⟨⟨hi, xs, u, h2, hu⟩, fun x H' y => ?_⟩
  obtain ⟨rfl, y⟩ := y
  have := y xs h2
  rw [hu] at this
  cases this
  exact ⟨Same.refl _, ru.mono (s1.trans (tkF_ge s2))⟩
theorem iter_revt {F1 H1 : Hp} {fp : List Addr} {a : Addr} {xs : List V} {ds : List D} (h : SqT K F1 a xs) (r : RVs K F1 xs ds) : IterOk K (RT.ItvT K a xs.length) F1 H1 fp ds.reverse := fun F2 H2 s1 s2 _ => by
  have h2 : SqT K H2 a xs := sqt_mono (s1.trans s2) h
  have hl := r.len
  refine ⟨by show xs.length ≤ _; rw [List.length_reverse, hl]; exact Nat.le_refl _, fun i d hd => ?_⟩
  have hi : i < ds.length := by have := (List.getElem?_eq_some_iff.mp hd).1; rw [List.length_reverse] at this; exact this
  rw [List.getElem?_reverse hi] at hd
  obtain ⟨u, hu, ru⟩ := r.get hd
  rw [← hl] at hu hi
  refine ⟨⟨hi, xs, u, h2, hu⟩, fun x H' y => ?_⟩
  obtain ⟨rfl, y⟩ := y
  have := y xs h2
  rw [hu] at this
  cases this
  exact ⟨Same.refl _, ru.mono (s1.trans (tkF_ge s2))⟩
end
section
variable {X : Cx} {tg e : Expr} {pos p : Pos} {mo : Env → ORes} {mp : Env → Res (Bool × D)}
def iRevM (m : Env → ORes) : Env → IRes := fun env => match m env with
  | .ok (.frz (.lst ds)) e => .ok ds.reverse e
  | .ok (.frz (.scr ds)) e => .ok ds.reverse e
  | .ok (.frz (.tup ds)) e => .ok ds.reverse e
  | .ok (.own (.lst ds)) e => .ok ds.reverse e
  | .er x e => .er x e
  | _ => .bad
theorem di_rev (hg : Gl X "reversed") (hm : X.mg "reversed" = none) (h : DO X e mo) (hs : starEach [e] X.env = (false, eval e X.env) :: starEach [] X.env := by rfl) : DI X tg (.Call (.Name "reversed" p) [e] [] pos) (iRevM mo) := fun W tk =>
  PIw (RT.pi_revA hg hm (h W tk) hs) fun σ H Rr ⟨L, F, fr, env, fps, R, q⟩ => by
  refine ⟨L, F, fr, env, fps, R, ?_⟩
  unfold iRevM at q
  cases e : mo env with
  | bad => rw [e] at q; exact q
  | er x e' => rw [e] at q; exact q
  | ok s e' =>
    rw [e] at q
    intro v F1 H1 fp fps1 R1 ev hs nf
    cases s with
    | dead => exact q.elim
    | lck => exact q.elim
    | pin _ => exact q.elim
    | frz d =>
      obtain ⟨r, rfl⟩ := hs
      cases r with
      | lst h r => exact ⟨_, _, rfl, .inl ⟨.inl (rd_mono R1.sF h), q _ F1 H1 [] fps1 R1 ev nf (iter_revl (.inl h) r)⟩⟩
      | scr h r => exact ⟨_, _, rfl, .inl ⟨(scl_mono R1.sF h).sq, q _ F1 H1 [] fps1 R1 ev nf (iter_revl h.sq r)⟩⟩
      | tup h r => exact ⟨_, _, rfl, .inr ⟨sqt_mono R1.sF h, q _ F1 H1 [] fps1 R1 ev nf (iter_revt h r)⟩⟩
      | _ => exact q.elim
    | own d =>
      obtain ⟨r, nd⟩ := hs
      have Rz := R1.freeze nf
      have hn : ∀ p ∈ fp, F1 p = none := fun p hp => (R1.frd p (.inr hp)).1
      have rz : RV X.K (ovl F1 H1 fp) v d := RO.freeze (ovl_same hn) r fun p hp => by unfold ovl; rw [if_pos hp]
      cases d with
      | lst ds =>
        cases rz with
        | lst h r' => exact ⟨_, _, rfl, .inl ⟨.inl (rd_mono Rz.sF h), q _ _ H1 [] fps1 Rz.nil ⟨ev.sF.trans (ovl_same hn), ev.tk, ev.fr⟩ (fun p hp => by cases hp) (iter_revl (.inl h) r')⟩⟩
      | _ => exact q.elim
end
@[simp] theorem iRevM_d (m : Env → ORes) (env : Env) : iRevM m env = match m env with
  | .ok (.frz (.lst ds)) e => .ok ds.reverse e
  | .ok (.frz (.scr ds)) e => .ok ds.reverse e
  | .ok (.frz (.tup ds)) e => .ok ds.reverse e
  | .ok (.own (.lst ds)) e => .ok ds.reverse e
  | .er x e => .er x e
  | _ => .bad := (rfl)
end G9

namespace G9
open PySem PySem.Spec PyProof.Rows L2
end G9

namespace G9
open PySem PySem.Spec PyProof.Rows L2
end G9
namespace G9
open PySem PySem.Spec PyProof.Rows L2
end G9

namespace G9
open PySem PySem.Spec PyProof.Rows L2
end G9

namespace G9
open PySem PySem.Spec PyProof.Rows L2
end G9

namespace G9
open PySem PySem.Spec PyProof.Rows L2
section
variable {K : PySem.W.Frag} {F H F' H' : Hp}
theorem SlotsV.car {vs : List V} {ss : List Slot} {fp : List Addr} (h : SlotsV K F H vs ss fp) (e : Same F F') (c : ∀ p ∈ fp, H' p = H p) : SlotsV K F' H' vs ss fp := by
  induction h with
  | nil => exact .nil
  | cons a _ d ih => exact .cons (a.car e fun p hp => c p (List.mem_append_left _ hp)) (ih fun p hp => c p (List.mem_append_right _ hp)) d
theorem SlotsV.parts {vs : List V} {ss : List Slot} {fp : List Addr} (h : SlotsV K F H vs ss fp) : ∃ fps : Nat → List Addr, (∀ i s, ss[i]? = some s → ∃ v, vs[i]? = some v ∧ SlotV K F H v s (fps i)) ∧ (∀ i, ∀ p ∈ fps i, p ∈ fp) ∧ (∀ i, ss.length ≤ i → fps i = []) ∧ ∀ i j p, p ∈ fps i → p ∈ fps j → i = j := by
  induction h with
  | nil =>
    refine ⟨fun _ => [], fun i s e => ?_, fun i p hp => ?_, fun _ _ => rfl, fun i j p hp _ => ?_⟩
    · cases e
    · cases hp
    · cases hp
  | @cons v s vs ss f g a b d ih =>
    obtain ⟨fps, h1, h2, h3, h4⟩ := ih
    refine ⟨fun i => match i with | 0 => f | i + 1 => fps i, fun i t e => ?_, fun i p hp => ?_, fun i hi => ?_, fun i j p hi hj => ?_⟩
    · cases i with
      | zero => cases e; exact ⟨v, rfl, a⟩
      | succ i => exact h1 i t e
    · cases i with
      | zero => exact List.mem_append_left _ hp
      | succ i => exact List.mem_append_right _ (h2 i p hp)
    · cases i with
      | zero => cases hi
      | succ i => exact h3 i (Nat.le_of_succ_le_succ hi)
    · cases i with
      | zero =>
        cases j with
        | zero => rfl
        | succ j => exact absurd (h2 j p hj) (d p hi)
      | succ i =>
        cases j with
        | zero => exact absurd (h2 i p hi) (d p hj)
        | succ j => rw [h4 i j p hi hj]
end
theorem aoL_n : ∀ env ss e', aoNil env = .ok ss e' → ss.length = 0 := fun env ss e' h => by cases h; rfl
theorem aoL_c {x : Env → ORes} {r : Env → AORes} {n : Nat} (h : ∀ env ss e', r env = .ok ss e' → ss.length = n) : ∀ env ss e', aoCons x r env = .ok ss e' → ss.length = n + 1 := fun env ss e' e => by
  unfold aoCons at e
  cases ex : x env with
  | bad => rw [ex] at e; cases e
  | er y e2 => rw [ex] at e; cases e
  | ok s e1 =>
    rw [ex] at e
    simp only at e
    cases er : r e1 with
    | bad => rw [er] at e; cases e
    | er y e2 => rw [er] at e; cases e
    | ok ss2 e3 => rw [er] at e; cases e; rw [List.length_cons, h e1 ss2 _ er]
end G9

namespace G9
open PySem PySem.Spec PyProof.Rows L2
end G9

namespace RT
open PySem PySem.Spec PyProof.Rows
end RT
namespace G9
open PySem PySem.Spec PyProof.Rows L2
end G9

namespace G9
open PySem PySem.Spec PyProof.Rows L2
section
variable {K : PySem.W.Frag} {mg : Str → Option Value} {F H F' H' : Hp} {L : Nat → V} {fr : Addr → Prop} {σ : L2.St} {env : Env} {fps : Nat → List Addr}
theorem RE.unpin {i : Nat} {d : D} (R : RE K L F H fr σ env fps) (h : env[i]? = some (.pin d)) : RE K L F H fr σ (env.set i (.own d)) fps where
  len := by rw [List.length_set]; exact R.len
  at' := fun j t e => by
    by_cases hj : j = i
    · subst hj
      rw [List.getElem?_set_self (List.getElem?_eq_some_iff.mp h).1] at e
      cases e
      obtain ⟨a, b, c⟩ := R.getP h
      rw [a]
      exact ⟨L j, rfl, b, c⟩
    · rw [List.getElem?_set_ne (Ne.symm hj)] at e
      exact R.at' j t e
  dis := R.dis
  off := R.off
  sF := R.sF
  tk := R.tk
  frd := R.frd
theorem RE.pin {i : Nat} {d : D} (R : RE K L F H fr σ env fps) (h : env[i]? = some (.own d)) (hv : σ[i]? = some (some (L i))) : RE K L F H fr σ (env.set i (.pin d)) fps where
  len := by rw [List.length_set]; exact R.len
  at' := fun j t e => by
    by_cases hj : j = i
    · subst hj
      rw [List.getElem?_set_self (List.getElem?_eq_some_iff.mp h).1] at e
      cases e
      obtain ⟨v, a, b, c⟩ := R.get h (.inr ⟨d, rfl⟩)
      rw [hv] at a
      cases a
      exact ⟨by rw [hv]; rfl, b, c⟩
    · rw [List.getElem?_set_ne (Ne.symm hj)] at e
      exact R.at' j t e
  dis := R.dis
  off := R.off
  sF := R.sF
  tk := R.tk
  frd := R.frd
end
def oPin (i : Nat) (m : Env → ORes) : Env → ORes := fun env => match env[i]? with
  | some (.pin d) => match m (env.set i (.own d)) with
    | .ok s e => match e[i]? with
      | some (.own d') => .ok s (e.set i (.pin d'))
      | _ => .bad
    | .er x e => match e[i]? with
      | some (.own d') => .er x (e.set i (.pin d'))
      | _ => .bad
    | .bad => .bad
  | _ => .bad
section
variable {X : Cx} {e : Expr} {st : Stmt} {m : Env → ORes}
def tSk (K : PySem.W.Frag) (mg : Str → Option Value) (W : WX) (m : Env → ORes) : TS := fun D σ H => ∃ L F fr env fps, RE K L F H fr σ env fps ∧
  match m env with
  | .bad => False
  | .er x env' => ∀ cls d F' H' fps', RE K L F' H' fr σ env' fps' → Ev F H fr F' H' → ExR K mg x cls d H' → W cls d σ H'
  | .ok _ env' => ∀ F' H' fps', RE K L F' H' fr σ env' fps' → Ev F H fr F' H' → D.nx σ H'
def DSk (X : Cx) (st : Stmt) (m : Env → ORes) : Prop := ∀ W, Takes X W → PassesOwn (model X.prog X.w) X.A X.env X.xe → PS X st (tSk X.K X.mg W m)
def sK (m : Env → ORes) : Env → Out := fun env => match m env with
  | .ok _ e => .nx e
  | .er x e => .er x e
  | .bad => .bad
theorem ds_k (h : DSk X st m) : DS X st (sK m) := fun W tk ps => PSw (h W tk ps) fun E σ H ⟨L, F, fr, env, fps, R, q⟩ => by
  refine ⟨L, F, fr, env, fps, R, ?_⟩
  unfold sK at q
  cases em : m env with
  | bad => rw [em] at q; exact q
  | er x e2 => rw [em] at q; exact fun cls d F' H' fps' R' ev z => q cls d σ F' H' fps' R' ev z
  | ok s e2 => rw [em] at q; exact fun F' H' fps' R' ev => q σ F' H' fps' R' ev
theorem dsk_pin (i : Nat) (h : DSk X st m) : DSk X st (oPin i m) := fun W tk ps => PSw (h W tk ps) fun E σ H ⟨L, F, fr, env, fps, R, q⟩ => by
  unfold oPin at q
  cases es : env[i]? with
  | none => rw [es] at q; exact q.elim
  | some sl =>
    rw [es] at q
    cases sl with
    | pin d =>
      simp only at q
      have hv := (R.getP es).1
      refine ⟨L, F, fr, _, fps, R.unpin es, ?_⟩
      cases em : m (env.set i (.own d)) with
      | bad => rw [em] at q; exact q
      | er x e2 =>
        rw [em] at q
        simp only at q
        intro cls d1 F' H' fps' R' ev z
        cases e3 : e2[i]? with
        | none => rw [e3] at q; exact q.elim
        | some s3 =>
          rw [e3] at q
          cases s3 with
          | own d' => exact q cls d1 F' H' fps' (R'.pin e3 hv) ev z
          | _ => exact q.elim
      | ok s e2 =>
        rw [em] at q
        simp only at q
        intro F' H' fps' R' ev
        cases e3 : e2[i]? with
        | none => rw [e3] at q; exact q.elim
        | some s3 =>
          rw [e3] at q
          cases s3 with
          | own d' => exact q F' H' fps' (R'.pin e3 hv) ev
          | _ => exact q.elim
    | _ => exact q.elim
end
inductive AIRes where
  | ok (sp sq : List Slot) (e : Env) | er (x : Exn) (e : Env) | bad
inductive IORes where
  | ok (s : Slot) (o : D) | er (x : Exn) (o : D) | bad
def fnOfI (n k : Nat) (body : Env → Out) : List Slot → IORes := fun ss => match body (ss ++ List.replicate (n - ss.length) .dead) with
  | .rt s e => match e[k]? with
    | some (.pin d) => .ok s d
    | _ => .bad
  | .nx e => match e[k]? with
    | some (.pin d) => .ok (.frz .non) d
    | _ => .bad
  | .er x e => match e[k]? with
    | some (.pin d) => .er x d
    | _ => .bad
  | _ => .bad
def ArgV (K : PySem.W.Frag) (F H : Hp) (v : V) (s : Slot) (fp : List Addr) : Prop := SlotV K F H v s fp ∨ ∃ d, s = .pin d ∧ RO K F H v d fp ∧ fp.Nodup
structure ArgsV (K : PySem.W.Frag) (F H : Hp) (fr : Addr → Prop) (vs : List V) (ss : List Slot) (fps : Nat → List Addr) : Prop where
  len : vs.length = ss.length
  at' : ∀ i s, ss[i]? = some s → ∃ v, vs[i]? = some v ∧ ArgV K F H v s (fps i)
  dis : ∀ i j p, p ∈ fps i → p ∈ fps j → i = j
  nil : ∀ i, ss.length ≤ i → fps i = []
  off : ∀ i p, p ∈ fps i → F p = none ∧ ¬ fr p ∧ Nt (H p)
def spI (K : PySem.W.Frag) (mg : Str → Option Value) (np k : Nat) (m : List Slot → IORes) : Sp := fun vs H Q E => vs.length = np ∧ ∃ F ss fps fr v0, Same F H ∧ Tk H F ∧ (∀ p, fr p → F p = none ∧ Nt (H p)) ∧ ArgsV K F H fr vs ss fps ∧ vs[k]? = some v0 ∧
  match m ss with
  | .bad => False
  | .er x o => ∀ cls d F' H' fo, Ev F H fr F' H' → Same F' H' → Tk H' F' → RO K F' H' v0 o fo → fo.Nodup → (∀ p ∈ fo, F' p = none ∧ ¬ fr p) → (∀ p, fr p → F' p = none) → ExR K mg x cls d H' → E cls d H'
  | .ok s o => ∀ v F' H' fp' fo, Ev F H fr F' H' → Same F' H' → Tk H' F' → SlotV K F' H' v s fp' → (∀ p ∈ fp', F' p = none ∧ ¬ fr p) → RO K F' H' v0 o fo → fo.Nodup → (∀ p ∈ fo, F' p = none ∧ ¬ fr p ∧ p ∉ fp') → (∀ p, fr p → F' p = none) → Q v H'
section
variable {K : PySem.W.Frag} {F H F' H' : Hp}
theorem RE.startI {fr : Addr → Prop} {vs : List V} {ss : List Slot} {fps : Nat → List Addr} (N : List Str) (sF : Same F H) (tk : Tk H F) (frd : ∀ p, fr p → F p = none ∧ Nt (H p)) (r : ArgsV K F H fr vs ss fps) :
    RE K (fun i => (vs[i]?).getD .non) F H fr (L2.start N vs) (ss ++ List.replicate (N.length - ss.length) .dead) fps := by
  have len := r.len
  refine ⟨?_, fun i s h => ?_, r.dis, r.off, sF, tk, frd⟩
  · unfold L2.start
    rw [List.length_append, List.length_append, List.length_map, List.length_replicate, List.length_replicate, len]
  · by_cases hi : i < ss.length
    · rw [List.getElem?_append_left hi] at h
      obtain ⟨v, hv, sv⟩ := r.at' i s h
      have hs : (L2.start N vs)[i]?.join = some v := by
        unfold L2.start
        rw [List.getElem?_append_left (by rw [List.length_map, len]; exact hi), List.getElem?_map, hv]
        rfl
      rcases sv with sv | ⟨d, rfl, ro, nd⟩
      · cases s with
        | dead => exact sv.elim
        | lck => exact sv.elim
        | pin _ => exact sv.elim
        | frz d => exact ⟨v, hs, sv⟩
        | own d => exact ⟨v, hs, sv⟩
      · rw [hv]
        exact ⟨hs, ro, nd⟩
    · rw [List.getElem?_append_right (by omega), List.getElem?_replicate] at h
      split at h
      · cases h; exact r.nil i (by omega)
      · cases h
end
section
variable {P : Program} {w : World} {K : PySem.W.Frag} {mg : Str → Option Value} {base : Heap}
theorem fnI_ok {x qual : Str} {st : Stmt} {f : Addr} {fd : FuncData} {N ps : List Str} {k i : Nat} {m : Env → Out} (F : Fun K x qual st f fd) (S : FnScope N ps (defScope st))
    (h : ∀ (cdv : Value) (A : Around) (outer : List PySem.Env) (s : Shared) (H : Hp) (E : XK), Room k (A.deeper (envOfC qual (defScope st) s.heap.objs.size f cdv)) →
      DSs (cxOf (L2.CX P w) P w K mg base N qual (defScope st) f cdv A outer s H E) (defBody st) m) :
    FnOk P w K mg base (L2.CX P w) (k + 1) f fd ps (spI K mg ps.length i (fnOfI N.length i m)) := by
  refine F.okX S (fun vs H Q E h => h.1) fun cdv A outer s H vs Q E hr hsp => ?_
  obtain ⟨hl, G, ss, fps, fr, v0, sF, tk, frd, r, hk, q⟩ := hsp
  have R := RE.startI N sF tk frd r
  have hL : (vs[i]?).getD .non = v0 := by rw [hk]; rfl
  refine ⟨_, h cdv A outer s H E hr _ (takes_of rfl rfl rfl rfl) (passes_of rfl), ?_⟩
  refine ⟨_, _, _, _, _, R, ?_⟩
  unfold fnOfI at q
  cases e : m (ss ++ List.replicate (N.length - ss.length) .dead) with
  | bad => rw [e] at q; exact q
  | bk e' => rw [e] at q; exact q.elim
  | ct e' => rw [e] at q; exact q.elim
  | er x e' =>
    rw [e] at q
    simp only at q
    intro cls d σ' F' H' fps' R' ev z
    cases ek : e'[i]? with
    | none => rw [ek] at q; exact q.elim
    | some sl =>
      rw [ek] at q
      cases sl with
      | pin o =>
        obtain ⟨a, b, c⟩ := R'.getP ek
        rw [hL] at b
        exact q cls d F' H' _ ev R'.sF R'.tk b c (fun p hp => ⟨(R'.off i p hp).1, (R'.off i p hp).2.1⟩) (fun p hp => (R'.frd p hp).1) z
      | _ => exact q.elim
  | nx e' =>
    rw [e] at q
    simp only at q
    intro σ' F' H' fps' R' ev
    cases ek : e'[i]? with
    | none => rw [ek] at q; exact q.elim
    | some sl =>
      rw [ek] at q
      cases sl with
      | pin o =>
        obtain ⟨a, b, c⟩ := R'.getP ek
        rw [hL] at b
        exact q .non F' H' [] _ ev R'.sF R'.tk ⟨.non, rfl⟩ (fun p hp => by cases hp) b c (fun p hp => ⟨(R'.off i p hp).1, (R'.off i p hp).2.1, fun z => by cases z⟩) fun p hp => (R'.frd p hp).1
      | _ => exact q.elim
  | rt s' e' =>
    rw [e] at q
    simp only at q
    intro v σ' F' H' fp fps' R' ev z nf
    cases ek : e'[i]? with
    | none => rw [ek] at q; exact q.elim
    | some sl =>
      rw [ek] at q
      cases sl with
      | pin o =>
        obtain ⟨a, b, c⟩ := R'.getP ek
        rw [hL] at b
        exact q v F' H' fp _ ev R'.sF R'.tk z (fun p hp => ⟨(R'.frd p (.inr hp)).1, nf p hp⟩) b c (fun p hp => ⟨(R'.off i p hp).1, fun z => (R'.off i p hp).2.1 (.inl z), fun z => (R'.off i p hp).2.1 (.inr z)⟩) fun p hp => (R'.frd p (.inl hp)).1
      | _ => exact q.elim
end
@[simp] theorem oPin_d (i : Nat) (m : Env → ORes) (env : Env) : oPin i m env = match env[i]? with
  | some (.pin d) => match m (env.set i (.own d)) with
    | .ok s e => match e[i]? with
      | some (.own d') => .ok s (e.set i (.pin d'))
      | _ => .bad
    | .er x e => match e[i]? with
      | some (.own d') => .er x (e.set i (.pin d'))
      | _ => .bad
    | .bad => .bad
  | _ => .bad := (rfl)
@[simp] theorem sK_d (m : Env → ORes) (env : Env) : sK m env = match m env with
  | .ok _ e => .nx e
  | .er x e => .er x e
  | .bad => .bad := (rfl)
theorem fnOfI_d (n k : Nat) (body : Env → Out) (ss : List Slot) : fnOfI n k body ss = match body (ss ++ List.replicate (n - ss.length) .dead) with
  | .rt s e => match e[k]? with
    | some (.pin d) => .ok s d
    | _ => .bad
  | .nx e => match e[k]? with
    | some (.pin d) => .ok (.frz .non) d
    | _ => .bad
  | .er x e => match e[k]? with
    | some (.pin d) => .er x d
    | _ => .bad
  | _ => .bad := (rfl)
end G9

namespace G9
open PySem PySem.Spec PyProof.Rows L2
end G9

namespace G9
open PySem PySem.Spec PyProof.Rows L2
theorem args_pin {K : PySem.W.Frag} {F H : Hp} {fr : Addr → Prop} {vs : List V} {ss : List Slot} {fp : List Addr} {k : Nat} {d : D} (sv : SlotsV K F H vs ss fp) (hk : ss[k]? = some (.own d)) (off : ∀ p ∈ fp, F p = none ∧ ¬ fr p ∧ Nt (H p)) : ∃ fps v0, vs[k]? = some v0 ∧ (∀ i, ∀ p ∈ fps i, p ∈ fp) ∧ ArgsV K F H fr vs (ss.set k (.pin d)) fps := by
  obtain ⟨g, h1, h2, h3, h4⟩ := sv.parts
  obtain ⟨v0, hv0, ro, nd⟩ := h1 k _ hk
  refine ⟨g, v0, hv0, h2, by rw [List.length_set]; exact sv.len, fun i s e => ?_, h4, fun i hi => h3 i (by rw [List.length_set] at hi; exact hi), fun i p hp => off p (h2 i p hp)⟩
  by_cases c : i = k
  · subst c
    rw [List.getElem?_set_self (List.getElem?_eq_some_iff.mp hk).1] at e
    cases e
    exact ⟨v0, hv0, .inr ⟨d, rfl, ro, nd⟩⟩
  · rw [List.getElem?_set_ne (Ne.symm c)] at e
    obtain ⟨v, a, b⟩ := h1 i s e
    exact ⟨v, a, .inl b⟩
end G9

namespace G9
open PySem PySem.Spec PyProof.Rows L2
end G9

set_option maxHeartbeats 4000000
namespace G9
open PySem PySem.Spec PyProof.Rows L2
end G9

namespace G9
open PySem PySem.Spec PyProof.Rows L2
end G9

namespace G9
open PySem PySem.Spec PyProof.Rows L2
end G9

namespace G9
open PySem PySem.Spec PyProof.Rows L2
end G9

namespace G9
open PySem PySem.Spec PyProof.Rows L2
end G9

namespace G9
open PySem PySem.Spec PyProof.Rows L2
end G9

namespace G9
open PySem PySem.Spec PyProof.Rows L2
end G9

namespace G9
open PySem PySem.Spec PyProof.Rows L2
def ClF (K : PySem.W.Frag) (cs : List Str) (f : Str) : Prop := ∀ c ∈ cs, ∀ C, ClsN K c C → Cls K C ∧ NoAttr K C f
def fldD (cs : List Str) (f : Str) : D → Option D
  | .obj c ks ds => if c ∈ cs then fldG ks ds f else none
  | _ => none
def pFl (cs : List Str) (f : Str) (m : Env → Res (Bool × D)) : Env → Res (Bool × D) := fun env => (m env).bind fun d => match fldD cs f d.2 with
  | some e => .ok (d.1, e)
  | none => .bad
theorem fldD_in {cs : List Str} {f : Str} {d e : D} (h : fldD cs f d = some e) : ∃ c ks ds j, d = .obj c ks ds ∧ c ∈ cs ∧ fIx ks f = some j ∧ ds[j]? = some e := by
  cases d with
  | obj c ks ds =>
    simp only [fldD] at h
    by_cases hm : c ∈ cs
    · rw [if_pos hm] at h
      unfold fldG at h
      cases ej : fIx ks f with
      | none => rw [ej] at h; cases h
      | some j => rw [ej] at h; exact ⟨c, ks, ds, j, rfl, hm, ej, h⟩
    · rw [if_neg hm] at h; cases h
  | _ => simp [fldD] at h
section
variable {X : Cx} {a b e o : Expr} {pos apos p : Pos} {es : List Expr} {f m : Str} {cs : List Str} {mp : Env → Res (Bool × D)} {ml : Env → Res (Nat × List Step)} {mo : Env → Res D} {ms : Env → Res (List D)}
theorem dp_fl (hc : ClF X.K cs f) (ha : DP X a mp) (hb : attributeBase a f X.env (eval a X.env) = eval a X.env := by rfl) : DP X (.Attribute a f pos) (pFl cs f mp) := fun W tk => PEw (pe_fld (ha W tk) hb) fun σ H Q ⟨L, F, fr, env, fps, R, q⟩ => by
  refine ⟨L, F, fr, env, fps, R, ?_⟩
  unfold pFl at q
  cases ea : mp env with
  | bad => rw [ea] at q; exact q
  | er x => rw [ea] at q; exact q
  | ok d =>
    rw [ea] at q
    intro x H1 s1 rx
    simp only [Res.bind] at q
    cases ef : fldD cs f d.2 with
    | none => rw [ef] at q; exact q.elim
    | some e' =>
      rw [ef] at q
      simp only at q
      obtain ⟨fl, dd⟩ := d
      simp only at *
      obtain ⟨c, ks, ds, j, rfl, hm, hj, he⟩ := fldD_in ef
      have le := sel_le (fl := fl) (R.sF.trans s1)
      cases rx with
      | @obj a' C dx _ fs _ _ cl h hk r =>
        obtain ⟨w, hw, rw'⟩ := r.get he
        obtain ⟨c1, c2⟩ := hc c hm C cl
        exact ⟨a', C, dx, fs, w, rfl, le _ _ h, c1, c2, fIx_lookup (by rw [← hk]; exact hj) hw, q w H1 s1 rw'⟩
end
def tMethS (C : Addr) (m : Str) (sp : Sp) (E : L2.St → XK) (ta : TE) (t : TA) : TE := fun σ H Q => ta σ H fun x H1 => (∃ a dx fs, x = .ref a ∧ H1 a = some (.ins C dx fs) ∧ fs.lookup m = none) ∧ t σ H1 fun vs H2 => sp (x :: vs) H2 Q (E σ)
section
variable {X : Cx} {CX : CXT} {k : Nat} {f C : Addr} {fd : FuncData} {ps : List Str} {sp : Sp} {E : L2.St → XK} {x m : Str} {p pos apos : Pos} {e o : Expr} {es : List Expr} {ta : TE} {t : TA}
theorem pe_methSD {pl : Sem Bool} (he : PE X o ta) (c : Cls X.K C) (hm : Meth X.K C m f) (F : FnOk X.prog X.w X.K X.mg X.base CX k f fd ps sp) (hr : Room k X.A) (hb : Binds X.K fd ps []) (hx : ∀ σ, PassesAt CX X σ (E σ)) (ha : PA X (e :: es) t)
    (hst : starEach (e :: es) X.env = (false, eval e X.env) :: starEach es X.env := by rfl) (hpl : (backTo pos (starEach es X.env)).any (·.1) = false := by rfl)
    (ht : eval (.Call (.Attribute o m apos) (e :: es) [] pos) X.env = (do
      let ov ← eval o X.env
      standAt apos.atName
      let (f, first) ← holding [ov] (getMethod ov m pl)
      callWith pos f first (backTo pos (starEach (e :: es) X.env)) (backToKw pos (keywordEach [] X.env))) := by rfl) :
    PE X (.Call (.Attribute o m apos) (e :: es) [] pos) (tMethS C m sp E ta t) := by
  refine ⟨fun pins s σ H Q I h => ?_⟩
  refine PySem.W.methodCall_KW (pl := pl) (thn (he.run pins s σ H _ I h) fun u s1 ⟨x, H1, I1, rx, ⟨a, dx, fs, ex, ea, l⟩, q⟩ => ?_) ht
  subst ex
  obtain rfl : u = Value.ref a := rx
  refine getmeth_ok I1 ea c hm l ?_
  refine PySem.W.callWith_K (first := [.ref a]) (h₀ := X.base) I.ok.mod.kin hm.kp (thn (ha.run pos pins s1 σ H1 _ I1 q) fun us s2 ⟨vs, H2, I2, r, q2⟩ => ⟨I2.kIn, ?_⟩) hst hpl
  exact run_fnSD (us := .ref a :: us) (vs := .ref a :: vs) F hr hb .nil (hx σ) I2 (.cons rfl r) (by rw [List.append_nil]; exact q2)
theorem pe_methSD0 {pl : Sem Bool} (he : PE X o ta) (c : Cls X.K C) (hm : Meth X.K C m f) (F : FnOk X.prog X.w X.K X.mg X.base CX k f fd ps sp) (hr : Room k X.A) (hb : Binds X.K fd ps []) (hx : ∀ σ, PassesAt CX X σ (E σ))
    (ht : eval (.Call (.Attribute o m apos) [] [] pos) X.env = (do
      let ov ← eval o X.env
      standAt apos.atName
      let (f, first) ← holding [ov] (getMethod ov m pl)
      callWith pos f first (backTo pos (starEach [] X.env)) (backToKw pos (keywordEach [] X.env))) := by rfl) :
    PE X (.Call (.Attribute o m apos) [] [] pos) (tMethS C m sp E ta tNil) := by
  refine ⟨fun pins s σ H Q I h => ?_⟩
  refine PySem.W.methodCall_KW (pl := pl) (thn (he.run pins s σ H _ I h) fun u s1 ⟨x, H1, I1, rx, ⟨a, dx, fs, ex, ea, l⟩, q⟩ => ?_) ht
  subst ex
  obtain rfl : u = Value.ref a := rx
  refine getmeth_ok I1 ea c hm l ?_
  exact PySem.W.callWith_K0 (first := [.ref a]) I1.kIn hm.kp (run_fnSD (us := [.ref a]) (vs := [.ref a]) F hr hb .nil (hx σ) I1 (.cons rfl .nil) (by rw [List.append_nil]; exact q))
theorem run_makeSD {pins : List (Addr × Obj)} {σ : L2.St} {H : Hp} {s : Shared} {Q : VK} {us : List Value} {vs : List V} (M : Mk X.K C f) (F : FnOk X.prog X.w X.K X.mg X.base CX k f fd ps sp) (hr : Room (k + 1) X.A) (hb : Binds X.K fd ps [])
    (hx : PassesAt CX X σ (E σ)) (I : Inv X pins σ H s) (r : Vals vs us)
    (h : ∀ x dx, H x = none → H dx = none → dx ≠ x → sp (.ref x :: vs) (upd (upd H dx (.own x)) x (.ins C dx [])) (fun v H2 => v = .non ∧ Q (.ref x) H2) (E σ)) :
    wpAny (model X.prog X.w) X.A (call (.ref C) us) (EP X pins σ Q) X.xe s := by
  have hq := h (s.heap.objs.size + 1) s.heap.objs.size (I.hok.fresh (Nat.le_succ _)) (I.hok.fresh (Nat.le_refl _)) (Nat.ne_of_lt (Nat.lt_succ_self _))
  have I2 := Inv.made (C := C) I
  have r2 : Vals (V.ref (s.heap.objs.size + 1) :: vs) (Value.ref (s.heap.objs.size + 1) :: us) := .cons rfl r
  have hl : (Value.ref (s.heap.objs.size + 1) :: us ++ []).length = ps.length := by
    have e := r2.length
    rw [F.len _ _ _ _ hq] at e
    rw [List.append_nil]
    exact e.symm
  have hb2 := hb { s with heap := (s.heap.push PySem.W.emptyDict).push (PySem.W.instObj C s.heap.objs.size) } (Value.ref (s.heap.objs.size + 1) :: us) I2.kIn hl
  rw [List.append_nil] at hb2
  refine wpAny_call (make_map (f := f) I.kIn M.makes M.init (beq_iff_eq.mp M.fn) (codeAny_mono (F.run _ X.stack _ _ ⟨Value.ref (s.heap.objs.size + 1) :: us, []⟩ (Value.ref (s.heap.objs.size + 1) :: us) _ _ (E σ) (hr.make C us [])
    (I2.env0.make C us []) hb2 r2 hq) fun r s' hq' => ?_))
  cases r with
  | error e => exact hx pins _ _ e s' I2 hq'
  | ok fl =>
    cases fl with
    | ret u =>
      obtain ⟨v, H', I3, rv, ev, q3⟩ := I2.after hq'
      subst ev
      exact ⟨rv, ⟨V.ref (s.heap.objs.size + 1), H', I3, rfl, q3⟩⟩
    | next => exact False.elim hq'
    | brk => exact False.elim hq'
    | cont => exact False.elim hq'
def tMakeS (C : Addr) (sp : Sp) (E : L2.St → XK) (t : TA) : TE := fun σ H Q => t σ H fun vs H1 => ∀ x dx, H1 x = none → H1 dx = none → dx ≠ x → sp (.ref x :: vs) (upd (upd H1 dx (.own x)) x (.ins C dx [])) (fun v H2 => v = .non ∧ Q (.ref x) H2) (E σ)
theorem pe_makeSD (M : Mk X.K C f) (F : FnOk X.prog X.w X.K X.mg X.base CX k f fd ps sp) (hr : Room (k + 1) X.A) (hg : Gl X x) (hm : X.mg x = some (.ref C)) (hb : Binds X.K fd ps []) (hx : ∀ σ, PassesAt CX X σ (E σ))
    (ha : PA X (e :: es) t) (hdb : (x == ("__debug__" : Str)) = false := by decide) (he : starEach (e :: es) X.env = (false, eval e X.env) :: starEach es X.env := by rfl) (hpl : (backTo pos (starEach es X.env)).any (·.1) = false := by rfl) :
    PE X (.Call (.Name x p) (e :: es) [] pos) (tMakeS C sp E t) := by
  refine ⟨fun pins s σ H Q I h => ?_⟩
  refine wpAny_Call_Name_kw (ld_glob I hg hm ?_ hdb)
  refine PySem.W.callWith_K (h₀ := X.base) I.ok.mod.kin M.kp (thn (ha.run pos pins s σ H _ I h) fun us s1 ⟨vs, H1, I1, r, q⟩ => ⟨I1.kIn, ?_⟩) he hpl
  exact run_makeSD M F hr hb (hx σ) I1 r q
end
def isO (c m : Str) : D → Bool
  | .obj c' ks _ => c' == c && (fIx ks m).isNone
  | _ => false
theorem isO_in {c m : Str} {d : D} (h : isO c m d = true) : ∃ ks ds, d = .obj c ks ds ∧ fIx ks m = none := by
  cases d with
  | obj c' ks ds =>
    simp only [isO, Bool.and_eq_true, beq_iff_eq] at h
    obtain ⟨rfl, h2⟩ := h
    exact ⟨ks, ds, rfl, by simpa using h2⟩
  | _ => cases h
def mObj (c m : Str) (mo : Env → Res D) : Env → Res D := fun env => (mo env).bind fun d => if isO c m d = true then .ok d else .bad
theorem lookup_none {fs : List (Str × V)} {m : Str} (h : fIx (fs.map fun p => p.1) m = none) : fs.lookup m = none := by
  cases e : fs.lookup m with
  | none => rfl
  | some w =>
    obtain ⟨j, h1, _⟩ := lookup_fIx e
    rw [h] at h1; cases h1
structure MtOk (K : PySem.W.Frag) (c m : Str) (C f : Addr) : Prop where
  cn : ClsN K c C
  cl : Cls K C
  mt : Meth K C m f
theorem rv_isO {K : PySem.W.Frag} {H : Hp} {x : V} {d : D} {c m : Str} {C : Addr} (cn : ClsN K c C) (r : RV K H x d) (h : isO c m d = true) : ∃ a dx fs, x = .ref a ∧ H a = some (.ins C dx fs) ∧ fs.lookup m = none := by
  obtain ⟨ks, ds, rfl, hk⟩ := isO_in h
  cases r with
  | @obj a C' dx _ fs _ _ cl h k rs =>
    have e : C' = C := by
      have := cl.symm.trans cn
      simpa using this
    subst e
    exact ⟨a, dx, fs, rfl, h, lookup_none (by rw [← k]; exact hk)⟩
section
variable {X : Cx} {pos apos p : Pos} {es : List Expr} {e o : Expr} {mo : Env → Res D} {ms : Env → Res (List D)} {k : Nat} {f C : Addr} {fd : FuncData} {ps : List Str} {fm : List D → FRes} {c m : Str}
theorem meth_read {W : WX} {K : PySem.W.Frag} {mg : Str → Option Value} {σ : L2.St} {H : Hp} {Q : List V → Hp → Prop} (cn : ClsN K c C) (h : tAv K mg W (aCons (mObj c m mo) ms) σ H Q) :
    tV K mg W mo σ H fun x H1 => (∃ a dx fs, x = .ref a ∧ H1 a = some (.ins C dx fs) ∧ fs.lookup m = none) ∧ tAv K mg W ms σ H1 fun vs H2 => Q (x :: vs) H2 := by
  obtain ⟨L, F, fr, env, fps, R, q⟩ := h
  refine ⟨L, F, fr, env, fps, R, ?_⟩
  unfold aCons mObj at q
  cases ea : mo env with
  | bad => rw [ea] at q; exact q
  | er x => rw [ea] at q; exact q
  | ok d =>
    rw [ea] at q
    intro x H1 s1 rx
    simp only [Res.bind] at q
    by_cases hi : isO c m d = true
    · rw [if_pos hi] at q
      refine ⟨rv_isO cn rx hi, ?_⟩
      refine ⟨L, _, fr, env, fps, R.grow s1, ?_⟩
      cases es : ms env with
      | bad => rw [es] at q; exact q
      | er y => rw [es] at q; exact fun cls d H' s z => q cls d H' (s1.trans s) z
      | ok ds =>
        rw [es] at q
        intro vs H2 s2 rs
        exact q (x :: vs) H2 (s1.trans s2) (.cons (rx.mono s2) rs)
    · rw [if_neg hi] at q; exact q.elim
end
end G9

namespace G9
open PySem PySem.Spec PyProof.Rows L2
section
variable {K : PySem.W.Frag} {mg : Str → Option Value} {W : WX} {σ : L2.St} {H : Hp} {Q : VK} {ms : Env → Res (List D)} {fm : List D → FRes} {np nl : Nat}
theorem cV_read (hl : nl = np) (hlen : ∀ env ds, ms env = .ok ds → ds.length = nl) (h : tV K mg W (vF fm ms) σ H Q) : tAv K mg W ms σ H fun vs H1 => spD K mg np fm vs H1 Q fun cls d H => W cls d σ H := by
  obtain ⟨L, F, fr, env, fps, R, q⟩ := h
  refine ⟨L, F, fr, env, fps, R, ?_⟩
  unfold vF at q
  cases ea : ms env with
  | bad => rw [ea] at q; exact q
  | er x => rw [ea] at q; exact q
  | ok ds =>
    rw [ea] at q
    intro vs H1 s1 rvs
    simp only [Res.bind] at q
    refine ⟨by rw [rvs.len, hlen env ds ea, hl], H1, ds, Same.refl H1, .refl, rvs, ?_⟩
    cases ef : fm ds with
    | bad => rw [ef] at q; exact q.elim
    | er x => rw [ef] at q; exact fun cls d H' s z => q cls d H' (s1.trans s) z
    | ok s =>
      rw [ef] at q
      intro v F' H' fp h1 h2 h3 h4 hs _ _
      cases s with
      | dead => exact hs.elim
      | lck => exact hs.elim
      | pin _ => exact hs.elim
      | frz d => exact q v H' (s1.trans h4) (hs.1.mono h2)
      | own d => exact q v H' (s1.trans h4) (hs.1.view h2)
theorem cO_read (hl : nl = np) (hlen : ∀ env ds, ms env = .ok ds → ds.length = nl) (h : tO K mg W (oF fm ms) σ H Q) : tAv K mg W ms σ H fun vs H1 => spD K mg np fm vs H1 Q fun cls d H => W cls d σ H := by
  obtain ⟨L, F, fr, env, fps, R, q⟩ := h
  refine ⟨L, F, fr, env, fps, R, ?_⟩
  unfold oF at q
  cases ea : ms env with
  | bad => rw [ea] at q; exact q
  | er x => rw [ea] at q; exact fun cls d H' s z => q cls d _ H' fps (R.grow s) (Ev.grow R s) z
  | ok ds =>
    rw [ea] at q
    intro vs H1 s1 rvs
    simp only at q
    refine ⟨by rw [rvs.len, hlen env ds ea, hl], H1, ds, Same.refl H1, .refl, rvs, ?_⟩
    cases ef : fm ds with
    | bad => rw [ef] at q; exact q.elim
    | er x => rw [ef] at q; exact fun cls d H' s z => q cls d _ H' fps (R.grow (s1.trans s)) (Ev.grow R (s1.trans s)) z
    | ok s =>
      rw [ef] at q
      intro v F' H' fp h1 h2 h3 h4 hs hn _
      have s' := s1.trans h4
      have tkk : Tk F' (tkF F H') := ⟨fun p xs z => tkF_tk.tup _ _ (h2 _ _ z), fun p o u z => tkF_tk.frz _ _ _ (h2 _ _ z)⟩
      cases s with
      | dead => exact hs.elim
      | lck => exact hs.elim
      | pin _ => exact hs.elim
      | frz d =>
        simp only at q
        by_cases hi : d.imm = true
        · rw [if_pos hi] at q
          exact q v _ H' [] fps (R.grow s').nil (Ev.grow R s') ⟨hs.1.chg tkk hi, rfl⟩ (fun p hp => by cases hp)
        · rw [if_neg hi] at q; exact q.elim
      | own d =>
        have f1 : ∀ p ∈ fp, H p = none := fun p hp => s1.free (hn p hp).1
        exact q v _ H' fp fps (R.fresh s' f1 hs.1.nt) (Ev.grow R s') ⟨RO.car tkk hs.1 fun _ _ => rfl, hs.2⟩ (R.nofr f1)
end

theorem tV_imp {K : PySem.W.Frag} {mg : Str → Option Value} {W : WX} {mo : Env → Res D} {σ : L2.St} {H : Hp} {Q Q' : VK} (h : tV K mg W mo σ H Q) (i : ∀ x H1, Q x H1 → Q' x H1) : tV K mg W mo σ H Q' := by
  obtain ⟨L, F, fr, env, fps, R, q⟩ := h
  refine ⟨L, F, fr, env, fps, R, ?_⟩
  cases e : mo env with
  | bad => rw [e] at q; exact q
  | er x => rw [e] at q; exact q
  | ok d => rw [e] at q; exact fun v H' s r => i _ _ (q v H' s r)
theorem nil_read {K : PySem.W.Frag} {mg : Str → Option Value} {W : WX} {σ : L2.St} {H : Hp} {Q : List V → Hp → Prop} (h : tAv K mg W aNil σ H Q) : tNil σ H Q := by
  obtain ⟨L, F, fr, env, fps, R, q⟩ := h
  exact q [] H (Same.refl H) .nil

section
variable {X : Cx} {pos apos p : Pos} {es : List Expr} {e o : Expr} {mo : Env → Res D} {ms : Env → Res (List D)} {k : Nat} {f C : Addr} {fd : FuncData} {ps : List Str} {fm : List D → FRes} {c m : Str}
theorem mlen {ms : Env → Res (List D)} {n : Nat} (hlen : ∀ env ds, ms env = .ok ds → ds.length = n) : ∀ env ds, aCons (mObj c m mo) ms env = .ok ds → ds.length = n + 1 := fun env ds e => by
  unfold aCons at e
  cases ea : mObj c m mo env with
  | bad => rw [ea] at e; cases e
  | er x => rw [ea] at e; cases e
  | ok d =>
    rw [ea] at e
    simp only [Res.bind] at e
    cases es : ms env with
    | bad => rw [es] at e; cases e
    | er x => rw [es] at e; cases e
    | ok ds' =>
      rw [es] at e
      cases e
      rw [List.length_cons, hlen env ds' es]
theorem dv_meth {pl : Sem Bool} (G : FnOk X.prog X.w X.K X.mg X.base (L2.CX X.prog X.w) k f fd ps (spD X.K X.mg ps.length fm)) (M : MtOk X.K c m C f) (hr : Room k X.A) (hb : Binds X.K fd ps []) (ho : DV X o mo) (ha : DA X (e :: es) ms) (hl : (e :: es).length + 1 = ps.length := by rfl)
    (hlen : ∀ env ds, ms env = .ok ds → ds.length = (e :: es).length)
    (hst : starEach (e :: es) X.env = (false, eval e X.env) :: starEach es X.env := by rfl) (hpl : (backTo pos (starEach es X.env)).any (·.1) = false := by rfl)
    (ht : eval (.Call (.Attribute o m apos) (e :: es) [] pos) X.env = (do
      let ov ← eval o X.env
      standAt apos.atName
      let (f, first) ← holding [ov] (getMethod ov m pl)
      callWith pos f first (backTo pos (starEach (e :: es) X.env)) (backToKw pos (keywordEach [] X.env))) := by rfl) : DV X (.Call (.Attribute o m apos) (e :: es) [] pos) (vF fm (aCons (mObj c m mo) ms)) := fun W tk =>
  PEw (pe_methSD (E := fun σ cls d H => W cls d σ H) (ho W tk) M.cl M.mt G hr hb (fun σ => passAt tk σ) (ha W tk) hst hpl ht) fun σ H Q h => meth_read M.cn (cV_read hl (mlen hlen) h)
theorem dv_meth0 {pl : Sem Bool} (G : FnOk X.prog X.w X.K X.mg X.base (L2.CX X.prog X.w) k f fd ps (spD X.K X.mg ps.length fm)) (M : MtOk X.K c m C f) (hr : Room k X.A) (hb : Binds X.K fd ps []) (ho : DV X o mo) (hl : 0 + 1 = ps.length := by rfl)
    (ht : eval (.Call (.Attribute o m apos) [] [] pos) X.env = (do
      let ov ← eval o X.env
      standAt apos.atName
      let (f, first) ← holding [ov] (getMethod ov m pl)
      callWith pos f first (backTo pos (starEach [] X.env)) (backToKw pos (keywordEach [] X.env))) := by rfl) : DV X (.Call (.Attribute o m apos) [] [] pos) (vF fm (aCons (mObj c m mo) aNil)) := fun W tk =>
  PEw (pe_methSD0 (E := fun σ cls d H => W cls d σ H) (ho W tk) M.cl M.mt G hr hb (fun σ => passAt tk σ) ht) fun σ H Q h => tV_imp (meth_read M.cn (cV_read hl (mlen (ms := aNil) (n := 0) fun env ds e => by cases e; rfl) h)) fun x H1 ⟨z1, z2⟩ => ⟨z1, nil_read z2⟩
theorem do_meth {pl : Sem Bool} (G : FnOk X.prog X.w X.K X.mg X.base (L2.CX X.prog X.w) k f fd ps (spD X.K X.mg ps.length fm)) (M : MtOk X.K c m C f) (hr : Room k X.A) (hb : Binds X.K fd ps []) (ho : DV X o mo) (ha : DA X (e :: es) ms) (hl : (e :: es).length + 1 = ps.length := by rfl)
    (hlen : ∀ env ds, ms env = .ok ds → ds.length = (e :: es).length)
    (hst : starEach (e :: es) X.env = (false, eval e X.env) :: starEach es X.env := by rfl) (hpl : (backTo pos (starEach es X.env)).any (·.1) = false := by rfl)
    (ht : eval (.Call (.Attribute o m apos) (e :: es) [] pos) X.env = (do
      let ov ← eval o X.env
      standAt apos.atName
      let (f, first) ← holding [ov] (getMethod ov m pl)
      callWith pos f first (backTo pos (starEach (e :: es) X.env)) (backToKw pos (keywordEach [] X.env))) := by rfl) : DO X (.Call (.Attribute o m apos) (e :: es) [] pos) (oF fm (aCons (mObj c m mo) ms)) := fun W tk =>
  PEw (pe_methSD (E := fun σ cls d H => W cls d σ H) (ho W tk) M.cl M.mt G hr hb (fun σ => passAt tk σ) (ha W tk) hst hpl ht) fun σ H Q h => meth_read M.cn (cO_read hl (mlen hlen) h)
end
end G9

namespace G9
open PySem PySem.Spec PyProof.Rows L2
def oMk (c : Str) (fm : List Slot → IORes) (ms : Env → AORes) : Env → ORes := fun env => match ms env with
  | .ok ss e => match fm (.pin (.obj c [] []) :: ss) with
    | .ok (.frz .non) o => .ok (.own o) e
    | .er x _ => .er x e
    | _ => .bad
  | .er x e => .er x e
  | .bad => .bad
section
variable {K : PySem.W.Frag} {mg : Str → Option Value} {W : WX} {σ : L2.St} {H : Hp} {Q : VK} {ms : Env → AORes} {fm : List Slot → IORes} {np nl : Nat} {c : Str} {C : Addr}
theorem mk_read (cn : ClsN K c C) (hl : nl + 1 = np) (hlen : ∀ env ss e', ms env = .ok ss e' → ss.length = nl) (h : tO K mg W (oMk c fm ms) σ H Q) :
    tMakeS C (spI K mg np 0 fm) (fun σ cls d H => W cls d σ H) (tAo K mg W ms) σ H Q := by
  obtain ⟨L, F, fr, env, fps, R, q⟩ := h
  refine ⟨L, F, fr, env, fps, R, ?_⟩
  unfold oMk at q
  cases ea : ms env with
  | bad => rw [ea] at q; exact q
  | er x e' => rw [ea] at q; exact q
  | ok ss env1 =>
    rw [ea] at q
    intro vs F0 H0 fp0 fps1 R0 ev0 sv0 nf0
    simp only at q
    intro x dx hx hdx hne
    have hx2 : (upd H0 dx (.own x)) x = none := by rw [upd_ne (Ne.symm hne)]; exact hx
    have s12 : Same H0 (upd (upd H0 dx (.own x)) x (.ins C dx [])) := (same_upd hdx).trans (same_upd hx2)
    have hxx : (upd (upd H0 dx (.own x)) x (.ins C dx [])) x = some (.ins C dx []) := upd_same
    have hdd : (upd (upd H0 dx (.own x)) x (.ins C dx [])) dx = some (.own x) := by rw [upd_ne hne, upd_same]
    generalize upd (upd H0 dx (.own x)) x (.ins C dx []) = H1 at *
    have R1 := R0.fresh (fp := [x, dx]) s12 (fun q hq => by
      rcases List.mem_cons.mp hq with rfl | hq
      · exact hx
      · rw [List.mem_singleton.mp hq]; exact hdx) fun q hq => by
      rcases List.mem_cons.mp hq with rfl | hq
      · exact nt_ins hxx
      · rw [List.mem_singleton.mp hq]; exact nt_own hdd
    have evg := Ev.grow R0 s12
    have sFF : Same F0 (tkF F0 H1) := tkF_ge (R0.sF.trans s12)
    have keep : ∀ p ∈ fp0, H1 p = H0 p := fun p hp => by
      obtain ⟨u, e, _⟩ := SlotsV.nt sv0 p hp
      rw [e, s12 _ _ e]
    have sv : SlotsV K (tkF F0 H1) H1 (.ref x :: vs) (.own (.obj c [] []) :: ss) ([x, dx] ++ fp0) := .cons ⟨.obj cn hxx hdd rfl .nil, by simp [Ne.symm hne]⟩ (sv0.car sFF keep) fun p hp hin => by
      obtain ⟨u, e, _⟩ := SlotsV.nt sv0 p hin
      rcases List.mem_cons.mp hp with rfl | hp
      · rw [hx] at e; cases e
      · rw [List.mem_singleton.mp hp, hdx] at e; cases e
    have nf : ∀ p ∈ [x, dx] ++ fp0, ¬ fr p := fun p hp z => by
      rcases List.mem_append.mp hp with h | h
      · obtain ⟨u, e, _⟩ := (R0.frd p (.inl z)).2
        rcases List.mem_cons.mp h with rfl | h
        · rw [hx] at e; cases e
        · rw [List.mem_singleton.mp h, hdx] at e; cases e
      · exact nf0 p h z
    have R1' : RE K L (tkF F0 H1) H1 (fun p => fr p ∨ p ∈ [x, dx] ++ fp0) σ env1 fps1 := R1.frw fun p hp => by
      rcases hp with hp | hp
      · exact .inl (.inl hp)
      · rcases List.mem_append.mp hp with h | h
        · exact .inr h
        · exact .inl (.inr h)
    have ev1 : Ev F H fr (tkF F0 H1) H1 := ev0.trans (evg.weak fun p hp => .inl hp)
    have hlv := sv.len
    have hls := hlen env ss env1 ea
    clear evg R1 sFF keep sv0 R0 ev0 nf0
    generalize tkF F0 H1 = F1 at *
    generalize [x, dx] ++ fp0 = fp at *
    have frd2 : ∀ p, (H1 p ≠ none ∧ F1 p = none ∧ p ∉ fp) → F1 p = none ∧ Nt (H1 p) := fun p hp => ⟨hp.2.1, by
      obtain ⟨h1, h2, _⟩ := hp
      cases e : H1 p with
      | none => exact absurd e h1
      | some u => exact ⟨u, rfl, (by intro xs z; rw [z] at e; rw [R1'.tk.tup _ _ e] at h2; cases h2), (by intro o w z; rw [z] at e; rw [R1'.tk.frz _ _ _ e] at h2; cases h2)⟩⟩
    obtain ⟨fpsA, v0, hv0, hsub, AV⟩ := args_pin (k := 0) (fr := fun p => H1 p ≠ none ∧ F1 p = none ∧ p ∉ fp) sv rfl fun p hp => ⟨(R1'.frd p (.inr hp)).1, fun z => z.2.2 hp, (R1'.frd p (.inr hp)).2⟩
    simp only [List.getElem?_cons_zero, Option.some.injEq] at hv0
    subst hv0
    refine ⟨by simp only [List.length_cons] at hlv ⊢; omega, F1, .pin (.obj c [] []) :: ss, fpsA, fun p => H1 p ≠ none ∧ F1 p = none ∧ p ∉ fp, .ref x, R1'.sF, R1'.tk, frd2, AV, rfl, ?_⟩
    have ne : ∀ {p}, Nt (H1 p) → H1 p ≠ none := fun ⟨u, hu, _⟩ z => by rw [hu] at z; cases z
    have out : ∀ i, ∀ p ∈ fps1 i, H1 p ≠ none ∧ F1 p = none ∧ p ∉ fp := fun i p hp => by
      obtain ⟨a, b, c⟩ := R1'.off i p hp
      exact ⟨ne c, a, fun z => b (.inr z)⟩
    have outf : ∀ p, fr p → H1 p ≠ none ∧ F1 p = none ∧ p ∉ fp := fun p hp => by
      obtain ⟨a, c⟩ := R1'.frd p (.inl hp)
      exact ⟨ne c, a, fun z => nf p z hp⟩
    have back : ∀ {F' H' : Hp}, Ev F1 H1 (fun p => H1 p ≠ none ∧ F1 p = none ∧ p ∉ fp) F' H' → Same F' H' → Tk H' F' → (∀ p, (H1 p ≠ none ∧ F1 p = none ∧ p ∉ fp) → F' p = none) → ∀ fp' : List Addr, (∀ p ∈ fp', F' p = none ∧ ¬ (H1 p ≠ none ∧ F1 p = none ∧ p ∉ fp)) → (∀ p ∈ fp', Nt (H' p)) → RE K L F' H' (fun p => fr p ∨ p ∈ fp') σ env1 fps1 := fun {F' H'} ev sF tk hn fp' hp' nt' =>
      { len := R1'.len
        at' := fun i s h => (R1'.at' i s h).car ev.sF fun p hp => ev.fr p (out i p hp)
        dis := R1'.dis
        off := fun i p hp => by
          obtain ⟨a, b, c⟩ := R1'.off i p hp
          refine ⟨hn p (out i p hp), ?_, by rw [ev.fr p (out i p hp)]; exact c⟩
          rintro (z | z)
          · exact b (.inl z)
          · exact (hp' p z).2 (out i p hp)
        sF := sF
        tk := tk
        frd := fun p hp => by
          rcases hp with hp | hp
          · exact ⟨hn p (outf p hp), by rw [ev.fr p (outf p hp)]; exact (R1'.frd p (.inl hp)).2⟩
          · exact ⟨(hp' p hp).1, nt' p hp⟩ }
    have evb : ∀ {F' H' : Hp}, Ev F1 H1 (fun p => H1 p ≠ none ∧ F1 p = none ∧ p ∉ fp) F' H' → Ev F H fr F' H' := fun ev => ev1.trans (ev.weak outf)
    cases ef : fm (.pin (.obj c [] []) :: ss) with
    | bad => rw [ef] at q; exact q.elim
    | er y o =>
      rw [ef] at q
      exact fun cls d1 F' H' fo ev sF tk ro nd hfo hn z => q cls d1 F' H' fps1 ((back ev sF tk hn [] (fun p hp => by cases hp) (fun p hp => by cases hp)).frw fun p hp => .inl hp) (evb ev) z
    | ok s o =>
      rw [ef] at q
      cases s with
      | frz d =>
        cases d with
        | non =>
          simp only at q
          intro v F' H' fp' fo ev sF tk hs hp' ro nd hfo hn
          have hv : v = .non := by
            obtain ⟨r, _⟩ : RV K F' v .non ∧ fp' = [] := hs
            cases r; rfl
          exact ⟨hv, q (.ref x) F' H' fo fps1 (back ev sF tk hn fo (fun p hp => ⟨(hfo p hp).1, (hfo p hp).2.1⟩) ro.nt) (evb ev) ⟨ro, nd⟩ fun p hp z => (hfo p hp).2.1 (outf p z)⟩
        | _ => exact q.elim
      | _ => exact q.elim
end
structure MkOk (K : PySem.W.Frag) (c : Str) (C f : Addr) : Prop where
  cn : ClsN K c C
  mkc : Mk K C f
section
variable {X : Cx} {pos p : Pos} {es : List Expr} {e : Expr} {ms : Env → AORes} {k : Nat} {f C : Addr} {fd : FuncData} {ps : List Str} {fm : List Slot → IORes} {x : Str}
theorem do_make (G : FnOk X.prog X.w X.K X.mg X.base (L2.CX X.prog X.w) k f fd ps (spI X.K X.mg ps.length 0 fm)) (M : MkOk X.K x C f) (hr : Room (k + 1) X.A) (hg : Gl X x) (hm : X.mg x = some (.ref C)) (hb : Binds X.K fd ps []) (ha : DAo X (e :: es) ms) (hl : (e :: es).length + 1 = ps.length := by rfl)
    (hdb : (x == ("__debug__" : Str)) = false := by decide) (he : starEach (e :: es) X.env = (false, eval e X.env) :: starEach es X.env := by rfl) (hpl : (backTo pos (starEach es X.env)).any (·.1) = false := by rfl)
    (hlen : ∀ env ss e', ms env = .ok ss e' → ss.length = (e :: es).length) : DO X (.Call (.Name x p) (e :: es) [] pos) (oMk x fm ms) := fun W tk =>
  PEw (pe_makeSD (E := fun σ cls d H => W cls d σ H) M.mkc G hr hg hm hb (fun σ => passAt tk σ) (ha W tk) hdb he hpl) fun σ H Q h => mk_read M.cn hl hlen h
end
def putKs (ks : List Str) (f : Str) : List Str := match fIx ks f with | some _ => ks | none => ks ++ [f]
def putDs {α : Type} (ks : List Str) (ds : List α) (f : Str) (d : α) : List α := match fIx ks f with | some j => ds.set j d | none => ds ++ [d]
theorem putF_map (f : Str) (y : V) : ∀ fs : List (Str × V), (putF f y fs).map (fun p => p.1) = putKs (fs.map fun p => p.1) f ∧ (putF f y fs).map (fun p => p.2) = putDs (fs.map fun p => p.1) (fs.map fun p => p.2) f y
  | [] => ⟨rfl, rfl⟩
  | (g, x) :: r => by
    obtain ⟨h1, h2⟩ := putF_map f y r
    unfold putF putKs putDs
    by_cases e : g = f
    · simp [fIx, e]
    · rw [if_neg e]
      simp only [List.map_cons, fIx, if_neg e, h1, h2]
      unfold putKs putDs
      cases fIx (r.map fun p => p.1) f <;> simp
def kFl (cs : List Str) (f : Str) (pl : Env → Res (Nat × List Step)) (m : Env → ORes) : Env → ORes := fun env => match m env with
  | .bad => .bad
  | .er x e => .er x e
  | .ok s e => match s.dat with
    | none => .bad
    | some x => match pl e with
      | .bad => .bad
      | .er y => .er y e
      | .ok p => match e[p.1]? with
        | some (.own d) => match d.getP p.2 with
          | some (.obj c ks ds) => if c ∈ cs ∧ ks.length < 1000 then .ok (.frz .non) (e.set p.1 (.own (d.putP p.2 (.obj c (putKs ks f) (putDs ks ds f x))))) else .bad
          | _ => .bad
        | _ => .bad
theorem obj_core {K : PySem.W.Frag} {L : Nat → V} {F H : Hp} {fr : Addr → Prop} {σ : L2.St} {env : Env} {fps : Nat → List Addr} {i : Nat} {d : D} {r : List Step} {v0 x : V} {tf : List Addr} {c : Str} {ks : List Str} {ds : List D}
    (R : RE K L F H (fun p => fr p ∨ p ∈ tf) σ env fps) (hf : ∀ p ∈ tf, ¬ fr p) (h3 : env[i]? = some (.own d)) (hv : σ[i]? = some (some v0)) (hx : AtV K F H v0 r x) (hc : d.getP r = some (.obj c ks ds)) :
    ∃ a C dx fs f, x = .ref a ∧ ClsN K c C ∧ H a = some (.ins C dx fs) ∧ ks = fs.map (fun p => p.1) ∧ ROs K F H (fs.map fun p => p.2) ds f ∧ (a :: dx :: f).Nodup ∧ (∀ p ∈ a :: dx :: f, p ∈ fps i) ∧
      ∀ (fs' : List (Str × V)) (gs : List D) (ff : List Addr), ROs K F H (fs'.map fun p => p.2) gs ff → ff.Nodup → a ∉ ff → dx ∉ ff → (∀ p ∈ ff, p ∈ f ∨ p ∈ tf) →
        ∃ fps', RE K L F (upd H a (.ins C dx fs')) fr σ (env.set i (.own (d.putP r (.obj c (fs'.map fun p => p.1) gs)))) fps' ∧ Ev F H fr F (upd H a (.ins C dx fs')) := by
  obtain ⟨fe, hro, ndfe, sub, upd'⟩ := place_ro R h3 hv hx hc rfl
  cases hro with
  | imm hi' _ => rw [D.imm] at hi'; cases hi'
  | @obj a C dx _ fs _ _ f cl g1 g2 hk rs =>
    obtain ⟨nda, nd1⟩ := List.nodup_cons.mp ndfe
    obtain ⟨ndx, ndf⟩ := List.nodup_cons.mp nd1
    have ai : a ∈ fps i := sub a (List.mem_cons_self ..)
    have dxa : dx ≠ a := fun z => nda (by rw [← z]; exact List.mem_cons_self ..)
    refine ⟨a, C, dx, fs, f, rfl, cl, g1, hk, rs, ndfe, sub, fun fs' gs ff rz ndz naz ndz' inz => ?_⟩
    have ro' : RO K F (upd H a (.ins C dx fs')) (.ref a) (.obj c (fs'.map fun p => p.1) gs) (a :: dx :: ff) := .obj cl upd_same (by rw [upd_ne dxa]; exact g2) rfl (ROs.car .refl rz fun p hp => upd_ne fun z => by subst z; exact naz hp)
    have nd' : (a :: dx :: ff).Nodup := List.nodup_cons.mpr ⟨fun z => by
      rcases List.mem_cons.mp z with z | z
      · exact dxa z.symm
      · exact naz z, List.nodup_cons.mpr ⟨ndz', ndz⟩⟩
    obtain ⟨fp', hro', rep⟩ := upd' F (upd H a (.ins C dx fs')) _ (a :: dx :: ff) (Same.refl F) ro' nd'
      (fun p hp hn => upd_ne fun z => by subst z; exact hn (List.mem_cons_self ..))
      (fun p hp hin => by
        rcases List.mem_cons.mp hp with rfl | hp
        · exact List.mem_cons_self ..
        · rcases List.mem_cons.mp hp with rfl | hp
          · exact List.mem_cons_of_mem _ (List.mem_cons_self ..)
          · rcases inz p hp with z | z
            · exact List.mem_cons_of_mem _ (List.mem_cons_of_mem _ z)
            · exact absurd (.inr z) (R.off i p hin).2.1)
    obtain ⟨R', ev'⟩ := RE.mut (tf := tf) (fe := a :: dx :: f) (fe' := a :: dx :: ff) (fp' := fp') (out := []) (b := a) (o := .ins C dx fs') R hf h3 hv ai (nt_ins rfl) hro' rep
      (fun p hp => by
        rcases List.mem_cons.mp hp with rfl | hp
        · exact .inl ai
        · rcases List.mem_cons.mp hp with rfl | hp
          · exact .inl (sub _ (List.mem_cons_of_mem _ (List.mem_cons_self ..)))
          · rcases inz p hp with z | z
            · exact .inl (sub p (List.mem_cons_of_mem _ (List.mem_cons_of_mem _ z)))
            · exact .inr z) (fun p hp => by cases hp) (fun p hp => by cases hp)
    exact ⟨_, R'.frw fun p hp => .inl hp, ev'⟩
section
variable {X : Cx} {o b : Expr} {f : Str} {cs : List Str} {pos tpos : Pos} {mp : Env → Res (Nat × List Step)} {mv : Env → ORes}
theorem dsk_fl (hc : ClF X.K cs f) (hv : DO X b mv) (ho : DPl X o mp) (hs : swapsWith b (some (.Attribute o f tpos)) pos.line X.env = pure false := by rfl) : DSk X (.Assign [.Attribute o f tpos] b pos) (kFl cs f mp mv) := fun W tk _ =>
  PSw (ps_fld (ho W tk) (hv W tk) hs) fun E σ H ⟨L, F, fr, env0, fps0, R0, q⟩ => by
  refine ⟨L, F, fr, env0, fps0, R0, ?_⟩
  unfold kFl at q
  cases ev : mv env0 with
  | bad => rw [ev] at q; exact q
  | er x e' => rw [ev] at q; exact fun cls d F' H' fps' R' ev' z => q cls d F' H' fps' R' ev' z
  | ok sl env =>
    rw [ev] at q
    intro w F1 H1 fp fps R1 ev0 hsl nfr
    simp only at q
    cases ed : sl.dat with
    | none => rw [ed] at q; exact q.elim
    | some xd =>
      rw [ed] at q
      simp only at q
      obtain ⟨rw1, ndp⟩ := hsl.ro ed
      have unf : ∀ {H' : Hp}, Ev F1 H1 (fun p => fr p ∨ p ∈ fp) (tkF F1 H') H' → Ev F1 H1 fr (tkF F1 H') H' := fun ev => ev.weak fun p hp => .inl hp
      refine ⟨L, F1, _, env, fps, R1, ?_⟩
      cases ea : mp env with
      | bad => rw [ea] at q; exact q
      | er y => rw [ea] at q; exact fun cls d H' s z => q cls d _ H' fps ((R1.grow s).frw fun p hp => .inl hp) (ev0.trans (unf (Ev.grow R1 s))) z
      | ok p =>
        rw [ea] at q
        simp only at q
        cases e3 : env[p.1]? with
        | none => rw [e3] at q; exact q.elim
        | some sl2 =>
          rw [e3] at q
          cases sl2 with
          | own d =>
            simp only at q
            cases e4 : d.getP p.2 with
            | none => rw [e4] at q; exact q.elim
            | some od =>
              rw [e4] at q
              cases od with
              | obj c ks ds =>
                simp only at q
                by_cases hcc : c ∈ cs ∧ ks.length < 1000
                · rw [if_pos hcc] at q
                  intro v0 o2 H2 hv0 s2 hx
                  have R2 := R1.grow s2
                  obtain ⟨a, C, dx, fs, ff, rfl, cl, g1, hk, rs, nd, sub, up⟩ := obj_core (tf := fp) R2 nfr e3 hv0 hx e4
                  obtain ⟨c1, c2⟩ := hc c hcc.1 C cl
                  have hl : fs.length < 1000 := by
                    have := hcc.2
                    rw [hk, List.length_map] at this
                    exact this
                  refine ⟨a, C, dx, fs, rfl, g1, c1, c2, hl, ?_⟩
                  have keep : ∀ p ∈ fp, H2 p = H1 p := fun p hp => by
                    obtain ⟨ob, e, _⟩ := RO.nt rw1 p hp
                    rw [e, s2 _ _ e]
                  have rx : RO X.K (tkF F1 H2) H2 w xd fp := RO.car (.of (tkF_ge (R1.sF.trans s2))) rw1 keep
                  have dsj : ∀ q ∈ a :: dx :: ff, q ∉ fp := fun q hq z => (R2.off p.1 q (sub q hq)).2.1 (.inr z)
                  obtain ⟨m1, m2⟩ := putF_map f w fs
                  obtain ⟨nda, nd1⟩ := List.nodup_cons.mp nd
                  obtain ⟨ndx, ndf⟩ := List.nodup_cons.mp nd1
                  have fin : ∃ gf, ROs X.K (tkF F1 H2) H2 ((putF f w fs).map fun p => p.2) (putDs ks ds f xd) gf ∧ gf.Nodup ∧ (∀ p ∈ gf, p ∈ ff ∨ p ∈ fp) := by
                    rw [m2, ← hk]
                    unfold putDs
                    cases ej : fIx ks f with
                    | none =>
                      simp only
                      refine ⟨ff ++ (fp ++ []), rs.app (.cons rx .nil), ?_, fun p hp => ?_⟩
                      · rw [List.append_nil]
                        exact List.nodup_append.mpr ⟨ndf, ndp, fun a' ha b' hb z => dsj a' (List.mem_cons_of_mem _ (List.mem_cons_of_mem _ ha)) (z ▸ hb)⟩
                      · rw [List.append_nil] at hp
                        exact List.mem_append.mp hp
                    | some j =>
                      simp only
                      have hjk := fIx_lt ej
                      have hj : j < ds.length := by
                        have := rs.len
                        rw [List.length_map] at this
                        rw [hk, List.length_map] at hjk
                        omega
                      obtain ⟨u, f1, f2, f3, hu, r1, r2, r3, efp⟩ := rs.split (List.getElem?_eq_getElem hj)
                      have hjy : j < (fs.map fun p => p.2).length := by rw [rs.len]; exact hj
                      have in1 : ∀ q ∈ f1, q ∈ ff := fun q hq => by rw [efp]; exact List.mem_append_left _ hq
                      have in3 : ∀ q ∈ f3, q ∈ ff := fun q hq => by rw [efp]; exact List.mem_append_right _ (List.mem_append_right _ hq)
                      refine ⟨f1 ++ (fp ++ f3), ?_, ?_, fun p hp => ?_⟩
                      · rw [set_mid' _ j w hjy, set_mid' ds j xd hj]
                        exact r1.app (.cons rx r3)
                      · rw [efp] at ndf
                        obtain ⟨n1, n2, n3⟩ := List.nodup_append.mp ndf
                        obtain ⟨n4, n5, n6⟩ := List.nodup_append.mp n2
                        refine List.nodup_append.mpr ⟨n1, List.nodup_append.mpr ⟨ndp, n5, fun a' ha b' hb z => dsj b' (List.mem_cons_of_mem _ (List.mem_cons_of_mem _ (in3 b' hb))) (z ▸ ha)⟩, fun a' ha b' hb z => ?_⟩
                        rcases List.mem_append.mp hb with h | h
                        · exact dsj a' (List.mem_cons_of_mem _ (List.mem_cons_of_mem _ (in1 a' ha))) (z ▸ h)
                        · exact n3 a' ha b' (List.mem_append_right _ h) z
                      · rcases List.mem_append.mp hp with h | h
                        · exact .inl (in1 p h)
                        · rcases List.mem_append.mp h with h | h
                          · exact .inr h
                          · exact .inl (in3 p h)
                  obtain ⟨gf, rg, ndg, ing⟩ := fin
                  obtain ⟨fps', R', ev'⟩ := up (putF f w fs) (putDs ks ds f xd) gf rg ndg (fun z => by
                    rcases ing a z with h | h
                    · exact nda (List.mem_cons_of_mem _ h)
                    · exact dsj a (List.mem_cons_self ..) h) (fun z => by
                    rcases ing dx z with h | h
                    · exact ndx h
                    · exact dsj dx (List.mem_cons_of_mem _ (List.mem_cons_self ..)) h) ing
                  rw [m1, ← hk] at R'
                  exact q _ _ fps' R' (ev0.trans ((unf (Ev.grow R1 s2)).trans ev'))
                · rw [if_neg hcc] at q; exact q.elim
              | _ => exact q.elim
          | _ => exact q.elim
end
end G9

namespace G9
open PySem PySem.Spec PyProof.Rows L2
inductive BRes where
  | ok (b : Bool) (e : Env) | er (x : Exn) (e : Env) | bad
def tTO (K : PySem.W.Frag) (mg : Str → Option Value) (W : WX) (m : Env → BRes) : TT := fun σ H Q => ∃ L F fr env fps, RE K L F H fr σ env fps ∧
  match m env with
  | .bad => False
  | .er x env' => ∀ cls d F' H' fps', RE K L F' H' fr σ env' fps' → Ev F H fr F' H' → ExR K mg x cls d H' → W cls d σ H'
  | .ok b env' => ∀ F' H' fps', RE K L F' H' fr σ env' fps' → Ev F H fr F' H' → Q b H'
def DTO (X : Cx) (e : Expr) (m : Env → BRes) : Prop := ∀ W, Takes X W → PT X e (tTO X.K X.mg W m)
def DWO (X : Cx) (e : Expr) (m : Env → BRes) : Prop := ∀ W, Takes X W → PW X e (tTO X.K X.mg W m)
def bT (m : Env → Res Bool) : Env → BRes := fun env => match m env with
  | .ok b => .ok b env
  | .er x => .er x env
  | .bad => .bad
def bO (m : Env → ORes) : Env → BRes := fun env => match m env with
  | .ok (.frz (.bl b)) e => .ok b e
  | .er x e => .er x e
  | _ => .bad
def bNotO (m : Env → BRes) : Env → BRes := fun env => match m env with
  | .ok b e => .ok (!b) e
  | .er x e => .er x e
  | .bad => .bad
def bOrO (x y : Env → BRes) : Env → BRes := fun env => match x env with
  | .ok true e => .ok true e
  | .ok false e => y e
  | .er x e => .er x e
  | .bad => .bad
def sIfO (c : Env → BRes) (x y : Env → Out) : Env → Out := fun env => match c env with
  | .ok true e => x e
  | .ok false e => y e
  | .er x e => .er x e
  | .bad => .bad
section
variable {X : Cx} {a b e : Expr} {pos : Pos} {xa xb : Env → BRes} {ma : Env → Res Bool} {mo : Env → ORes} {rest : List Expr} {sa sb : List Stmt} {n1 n2 : Env → Out}
theorem dto_t (h : DT X e ma) : DTO X e (bT ma) := fun W tk => PTw (h W tk) fun σ H Q ⟨L, F, fr, env, fps, R, q⟩ => by
  refine ⟨L, F, fr, env, fps, R, ?_⟩
  unfold bT at q
  cases em : ma env with
  | bad => rw [em] at q; exact q
  | er x => rw [em] at q; exact fun cls d H' s z => q cls d _ H' fps (R.grow s) (Ev.grow R s) z
  | ok c => rw [em] at q; exact fun H' s => q _ H' fps (R.grow s) (Ev.grow R s)
theorem dto_o (h : DO X e mo) (he : ∀ whole, isTrue e X.env whole = (do let v ← whole; standAt e.pos; holding [v] (truthy v)) := by intro _; rfl) : DTO X e (bO mo) := fun W tk => PTw (pt_val (h W tk) he) fun σ H Q ⟨L, F, fr, env, fps, R, q⟩ => by
  refine ⟨L, F, fr, env, fps, R, ?_⟩
  unfold bO at q
  cases em : mo env with
  | bad => rw [em] at q; exact q
  | er x e' => rw [em] at q; exact q
  | ok s e' =>
    rw [em] at q
    cases s with
    | frz d =>
      cases d with
      | bl c =>
        intro v F' H' fp fps' R' ev hs nf
        obtain ⟨r, rfl⟩ : RV X.K F' v (.bl c) ∧ fp = [] := hs
        cases r
        exact ⟨c, rfl, q F' H' fps' (R'.frw fun p hp => .inl hp) ev⟩
      | _ => exact q.elim
    | _ => exact q.elim
theorem dto_not (h : DTO X a xa) : DTO X (.UnaryOp .Not a pos) (bNotO xa) := fun W tk => PTw (pt_not (h W tk)) fun σ H Q ⟨L, F, fr, env, fps, R, q⟩ => by
  refine ⟨L, F, fr, env, fps, R, ?_⟩
  unfold bNotO at q
  cases em : xa env with
  | bad => rw [em] at q; exact q
  | er x e' => rw [em] at q; exact q
  | ok c e' => rw [em] at q; exact q
theorem dwo_or1 (ha : DTO X a xa) : DWO X (.BoolOp .Or [a] pos) xa := fun W tk => pw_or1 (ha W tk)
theorem tTO_cat {K : PySem.W.Frag} {mg : Str → Option Value} {W : WX} {σ : L2.St} {L : Nat → V} {F H F1 H1 : Hp} {fr : Addr → Prop} {e1 : Env} {fps1 : Nat → List Addr} {m : Env → BRes} {Q : Bool → Hp → Prop} (R1 : RE K L F1 H1 fr σ e1 fps1) (ev1 : Ev F H fr F1 H1)
    (q : match m e1 with
      | .bad => False
      | .er x env' => ∀ cls d F' H' fps', RE K L F' H' fr σ env' fps' → Ev F H fr F' H' → ExR K mg x cls d H' → W cls d σ H'
      | .ok b env' => ∀ F' H' fps', RE K L F' H' fr σ env' fps' → Ev F H fr F' H' → Q b H') : tTO K mg W m σ H1 Q := by
  refine ⟨L, F1, fr, e1, fps1, R1, ?_⟩
  cases em : m e1 with
  | bad => rw [em] at q; exact q
  | er x e' => rw [em] at q; exact fun cls d F' H' fps' R' ev z => q cls d F' H' fps' R' (ev1.trans ev) z
  | ok c e' => rw [em] at q; exact fun F' H' fps' R' ev => q F' H' fps' R' (ev1.trans ev)
theorem dwo_or (ha : DTO X a xa) (hb : DWO X (.BoolOp .Or (b :: rest) pos) xb) : DWO X (.BoolOp .Or (a :: b :: rest) pos) (bOrO xa xb) := fun W tk => PWw (pw_or (ha W tk) (hb W tk)) fun σ H Q ⟨L, F, fr, env, fps, R, q⟩ => by
  refine ⟨L, F, fr, env, fps, R, ?_⟩
  unfold bOrO at q
  cases e : xa env with
  | bad => rw [e] at q; exact q
  | er x e' => rw [e] at q; exact q
  | ok k e' =>
    rw [e] at q
    intro F1 H1 fps1 R1 ev1
    cases k with
    | true => rw [if_pos rfl]; exact q F1 H1 fps1 R1 ev1
    | false => rw [if_neg Bool.false_ne_true]; exact tTO_cat R1 ev1 q
theorem dto_bool {e : Expr} (h : DWO X e xa) : DTO X e xa := fun W tk => (h W tk).pt
theorem ds_ifO {c : Expr} (hc : DTO X c xa) (ha : DSs X sa n1) (hb : DSs X sb n2) : DS X (.If c sa sb pos) (sIfO xa n1 n2) := fun W tk pa => PSw (ps_if (hc W tk) (ha W tk pa) (hb W tk pa)) fun D σ H ⟨L, F, fr, env, fps, R, q⟩ => by
  refine ⟨L, F, fr, env, fps, R, ?_⟩
  unfold sIfO at q
  cases e : xa env with
  | bad => rw [e] at q; exact q
  | er x e' => rw [e] at q; exact fun cls d F' H' fps' R' ev z => q cls d σ F' H' fps' R' ev z
  | ok k e' =>
    rw [e] at q
    intro F1 H1 fps1 R1 ev1
    cases k with
    | true => rw [if_pos rfl]; exact tS_re R1 ev1 q
    | false => rw [if_neg Bool.false_ne_true]; exact tS_re R1 ev1 q
end
@[simp] theorem pFl_d (cs : List Str) (f : Str) (m : Env → Res (Bool × D)) (env : Env) : pFl cs f m env = (m env).bind fun d => match fldD cs f d.2 with
  | some e => .ok (d.1, e)
  | none => .bad := (rfl)
@[simp] theorem fldD_o (cs : List Str) (f c : Str) (ks : List Str) (ds : List D) : fldD cs f (.obj c ks ds) = if c ∈ cs then fldG ks ds f else none := (rfl)
@[simp] theorem mObj_d (c m : Str) (mo : Env → Res D) (env : Env) : mObj c m mo env = (mo env).bind fun d => if isO c m d = true then .ok d else .bad := (rfl)
@[simp] theorem isO_o (c m c' : Str) (ks : List Str) (ds : List D) : isO c m (.obj c' ks ds) = (c' == c && (fIx ks m).isNone) := (rfl)
@[simp] theorem oMk_d (c : Str) (fm : List Slot → IORes) (ms : Env → AORes) (env : Env) : oMk c fm ms env = match ms env with
  | .ok ss e => match fm (.pin (.obj c [] []) :: ss) with
    | .ok (.frz .non) o => .ok (.own o) e
    | .er x _ => .er x e
    | _ => .bad
  | .er x e => .er x e
  | .bad => .bad := (rfl)
@[simp] theorem kFl_d (cs : List Str) (f : Str) (pl : Env → Res (Nat × List Step)) (m : Env → ORes) (env : Env) : kFl cs f pl m env = match m env with
  | .bad => .bad
  | .er x e => .er x e
  | .ok s e => match s.dat with
    | none => .bad
    | some x => match pl e with
      | .bad => .bad
      | .er y => .er y e
      | .ok p => match e[p.1]? with
        | some (.own d) => match d.getP p.2 with
          | some (.obj c ks ds) => if c ∈ cs ∧ ks.length < 1000 then .ok (.frz .non) (e.set p.1 (.own (d.putP p.2 (.obj c (putKs ks f) (putDs ks ds f x))))) else .bad
          | _ => .bad
        | _ => .bad := (rfl)
@[simp] theorem get1_f (c f : Str) (ks : List Str) (ds : List D) : D.get1 (.obj c ks ds) (.fl f) = fldG ks ds f := (rfl)
@[simp] theorem bT_d (m : Env → Res Bool) (env : Env) : bT m env = match m env with | .ok b => .ok b env | .er x => .er x env | .bad => .bad := (rfl)
@[simp] theorem bO_d (m : Env → ORes) (env : Env) : bO m env = match m env with | .ok (.frz (.bl b)) e => .ok b e | .er x e => .er x e | _ => .bad := (rfl)
@[simp] theorem bNotO_d (m : Env → BRes) (env : Env) : bNotO m env = match m env with | .ok b e => .ok (!b) e | .er x e => .er x e | .bad => .bad := (rfl)
@[simp] theorem bOrO_d (x y : Env → BRes) (env : Env) : bOrO x y env = match x env with | .ok true e => .ok true e | .ok false e => y e | .er x e => .er x e | .bad => .bad := (rfl)
@[simp] theorem sIfO_d (c : Env → BRes) (x y : Env → Out) (env : Env) : sIfO c x y env = match c env with | .ok true e => x e | .ok false e => y e | .er x e => .er x e | .bad => .bad := (rfl)
@[simp] theorem datf (d : D) : (Slot.frz d).dat = if d.imm = true then some d else none := (rfl)
@[simp] theorem dato (d : D) : (Slot.own d).dat = some d := (rfl)
end G9

namespace G9
open PySem PySem.Spec PyProof.Rows L2

theorem clF_nil {K : PySem.W.Frag} {f : Str} : ClF K [] f := fun c h => by cases h
theorem clF_cons {K : PySem.W.Frag} {c f : Str} {cs : List Str} {C : Addr} (cn : ClsN K c C) (cl : Cls K C) (na : NoAttr K C f) (r : ClF K cs f) : ClF K (c :: cs) f := fun c' h C' cn' => by
  rcases List.mem_cons.mp h with rfl | h
  · have e : C' = C := by
      have := cn'.symm.trans cn
      simpa using this
    subst e
    exact ⟨cl, na⟩
  · exact r c' h C' cn'
end G9

namespace G9
open PySem PySem.Spec PyProof.Rows L2
mutual
/-- lists and tuples alone -/
def D.lkb : D → Bool
  | .lst xs => D.lkbs xs
  | .tup xs => D.lkbs xs
  | .dic _ _ => false | .obj _ _ _ => false | .unk => true | .exn _ => true
  | .kt xs => D.imms xs
  | .ldt _ => false
  | .ldk _ => false
  | .non => true | .bl _ => true | .int _ => true | .str _ => true
  | .scr xs => D.imms xs
def D.lkbs : List D → Bool
  | [] => true
  | x :: xs => D.lkb x && D.lkbs xs
end
mutual
/-- .. each list a locked one -/
def scrD : D → D
  | .lst xs => .scr (scrDs xs)
  | .tup xs => .tup (scrDs xs)
  | .dic t kvs => .dic t kvs | .obj c ks ds => .obj c ks ds
  | .non => .non | .bl b => .bl b | .int i => .int i | .str s => .str s
  | .scr xs => .scr xs
  | .unk => .unk
  | .exn c => .exn c
  | .kt xs => .kt xs
  | .ldt xs => .ldt xs
  | .ldk xs => .ldk xs
def scrDs : List D → List D
  | [] => []
  | x :: xs => scrD x :: scrDs xs
end
mutual
theorem scrD_imm : ∀ d : D, d.imm = true → scrD d = d
  | .ldt _, h => by rw [D.imm] at h; cases h
  | .ldk _, h => by rw [D.imm] at h; cases h
  | .kt _, _ => rfl
  | .lst xs, h => by rw [D.imm] at h; cases h
  | .tup xs, h => by rw [scrD, scrDs_imm xs (by rw [D.imm] at h; exact h)]
  | .dic _ _, h => by rw [D.imm] at h; cases h
  | .obj _ _ _, h => by rw [D.imm] at h; cases h
  | .non, _ => rfl
  | .bl _, _ => rfl
  | .int _, _ => rfl
  | .str _, _ => rfl
  | .scr _, _ => rfl
  | .unk, _ => rfl
  | .exn _, _ => rfl
theorem scrDs_imm : ∀ ds : List D, D.imms ds = true → scrDs ds = ds
  | [], _ => rfl
  | x :: xs, h => by
    rw [imms_cons, Bool.and_eq_true] at h
    rw [scrDs, scrD_imm x h.1, scrDs_imm xs h.2]
end
structure LkTo (fp : List Addr) (H H' : Hp) : Prop where
  out : ∀ p, p ∉ fp → H' p = H p
  inn : ∀ p ∈ fp, ∃ xs od, H p = some (.lst xs) ∧ H' p = some (.frz od (.lst xs))
theorem lk_inv {X : Cx} {pins : List (Addr × Obj)} {σ : L2.St} {s : Shared} : ∀ {fp : List Addr} {H : Hp}, Inv X pins σ H s → fp.Nodup → (∀ p ∈ fp, ∃ xs, H p = some (.lst xs)) → ∃ H', LkTo fp H H' ∧ Inv X pins σ H' s
  | [], H, I, _, _ => ⟨H, ⟨fun _ _ => rfl, fun p hp => by cases hp⟩, I⟩
  | a :: fp, H, I, nd, h => by
    obtain ⟨na, nd2⟩ := List.nodup_cons.mp nd
    obtain ⟨xs, hx⟩ := h a List.mem_cons_self
    obtain ⟨od, I2⟩ := I.lock hx trivial
    obtain ⟨H', l, I3⟩ := lk_inv (H := upd H a (.frz od (.lst xs))) I2 nd2 fun p hp => by
      obtain ⟨ys, hy⟩ := h p (List.mem_cons_of_mem _ hp)
      exact ⟨ys, by rw [upd_ne (fun z => na (by rw [← z]; exact hp))]; exact hy⟩
    refine ⟨H', ⟨fun p hp => ?_, fun p hp => ?_⟩, I3⟩
    · rw [l.out p fun z => hp (List.mem_cons_of_mem _ z), upd_ne fun z => hp (by rw [z]; exact List.mem_cons_self)]
    · by_cases z : p = a
      · subst z
        exact ⟨xs, od, hx, by rw [l.out p na, upd_same]⟩
      · have hp2 : p ∈ fp := (List.mem_cons.mp hp).resolve_left z
        obtain ⟨ys, o2, h1, h2⟩ := l.inn p hp2
        rw [upd_ne z] at h1
        exact ⟨ys, o2, h1, h2⟩
section
variable {K : PySem.W.Frag} {F H H' : Hp}
mutual
theorem RO.lks : ∀ {v : V} {d : D} {fp : List Addr}, RO K F H v d fp → d.lkb = true → ∀ p ∈ fp, ∃ xs, H p = some (.lst xs)
  | _, _, _, .imm _ _, _, p, hp => by cases hp
  | _, _, _, .tup _ r, e, p, hp => ROs.lks r (by rw [D.lkb] at e; exact e) p hp
  | _, _, _, .lst h r, e, p, hp => by
    rcases List.mem_cons.mp hp with rfl | hp
    · exact ⟨_, h⟩
    · exact ROs.lks r (by rw [D.lkb] at e; exact e) p hp
  | _, _, _, .dicK _ _, e, _, _ => by rw [D.lkb] at e; cases e
  | _, _, _, .dicT _ _, e, _, _ => by rw [D.lkb] at e; cases e
  | _, _, _, .obj _ _ _ _ _, e, _, _ => by rw [D.lkb] at e; cases e
theorem ROs.lks : ∀ {v : List V} {d : List D} {fp : List Addr}, ROs K F H v d fp → D.lkbs d = true → ∀ p ∈ fp, ∃ xs, H p = some (.lst xs)
  | _, _, _, .nil, _, p, hp => by cases hp
  | _, _, _, .cons a b, e, p, hp => by
    rw [D.lkbs, Bool.and_eq_true] at e
    rcases List.mem_append.mp hp with h | h
    · exact RO.lks a e.1 p h
    · exact ROs.lks b e.2 p h
end
mutual
theorem RO.scr {G : Hp} (s : Same F G) : ∀ {v : V} {d : D} {fp : List Addr}, RO K F H v d fp → d.lkb = true → (∀ p ∈ fp, ∃ xs od, H p = some (.lst xs) ∧ G p = some (.frz od (.lst xs))) → RV K G v (scrD d)
  | _, _, _, .imm i r, _, _ => by rw [scrD_imm _ i]; exact r.mono s
  | _, _, _, .tup h r, e, c => by rw [scrD]; exact .tup (.inl (rd_mono s h)) (ROs.scr s r (by rw [D.lkb] at e; exact e) c)
  | _, _, _, .lst h r, e, c => by
    rw [scrD]
    obtain ⟨xs, od, h1, h2⟩ := c _ List.mem_cons_self
    rw [h] at h1
    cases h1
    exact .scr (.inl ⟨od, h2⟩) (ROs.scr s r (by rw [D.lkb] at e; exact e) fun p hp => c p (List.mem_cons_of_mem _ hp))
  | _, _, _, .dicK _ _, e, _ => by rw [D.lkb] at e; cases e
  | _, _, _, .dicT _ _, e, _ => by rw [D.lkb] at e; cases e
  | _, _, _, .obj _ _ _ _ _, e, _ => by rw [D.lkb] at e; cases e
theorem ROs.scr {G : Hp} (s : Same F G) : ∀ {v : List V} {d : List D} {fp : List Addr}, ROs K F H v d fp → D.lkbs d = true → (∀ p ∈ fp, ∃ xs od, H p = some (.lst xs) ∧ G p = some (.frz od (.lst xs))) → RVs K G v (scrDs d)
  | _, _, _, .nil, _, _ => by rw [scrDs]; exact .nil
  | _, _, _, .cons a b, e, c => by
    rw [D.lkbs, Bool.and_eq_true] at e
    rw [scrDs]
    exact .cons (RO.scr s a e.1 fun p hp => c p (List.mem_append_left _ hp)) (ROs.scr s b e.2 fun p hp => c p (List.mem_append_right _ hp))
end
theorem RE.ghosts {L : Nat → V} {fr : Addr → Prop} {σ : L2.St} {env : Env} {fps : Nat → List Addr} {fp : List Addr} (R : RE K L F H (fun p => fr p ∨ p ∈ fp) σ env fps) (hf : ∀ p ∈ fp, ¬ fr p) (l : LkTo fp H H') : RE K L (ovl F H' fp) H' fr σ env fps := by
  have sF : Same F (ovl F H' fp) := ovl_same fun p hp => (R.frd p (.inr hp)).1
  have eF : ∀ p, p ∉ fp → ovl F H' fp p = F p := fun p hp => by unfold ovl; rw [if_neg hp]
  have iF : ∀ p, p ∈ fp → ovl F H' fp p = H' p := fun p hp => by unfold ovl; rw [if_pos hp]
  refine ⟨R.len, fun i s h => (R.at' i s h).car sF fun p hp => l.out p fun z => (R.off i p hp).2.1 (.inr z), R.dis, fun i p hp => ?_, fun p o h => ?_, ⟨fun p ys h => ?_, fun p o u h => ?_⟩, fun p hp => ?_⟩
  · obtain ⟨x, b, c⟩ := R.off i p hp
    have ne : p ∉ fp := fun z => b (.inr z)
    exact ⟨by rw [eF p ne]; exact x, fun z => b (.inl z), by rw [l.out p ne]; exact c⟩
  · by_cases z : p ∈ fp
    · rw [iF p z] at h; exact h
    · rw [eF p z] at h; rw [l.out p z]; exact R.sF p o h
  · by_cases z : p ∈ fp
    · rw [iF p z]; exact h
    · rw [l.out p z] at h; rw [eF p z]; exact R.tk.tup p ys h
  · by_cases z : p ∈ fp
    · rw [iF p z]; exact h
    · rw [l.out p z] at h; rw [eF p z]; exact R.tk.frz p o u h
  · have z : p ∉ fp := fun z => hf p z hp
    rw [eF p z, l.out p z]
    exact R.frd p (.inl hp)
theorem Ev.ghosts {L : Nat → V} {fr : Addr → Prop} {σ : L2.St} {env : Env} {fps : Nat → List Addr} {fp : List Addr} (R : RE K L F H (fun p => fr p ∨ p ∈ fp) σ env fps) (hf : ∀ p ∈ fp, ¬ fr p) (l : LkTo fp H H') : Ev F H fr (ovl F H' fp) H' where
  sF := ovl_same fun p hp => (R.frd p (.inr hp)).1
  tk := ⟨fun p ys h => by
    rw [l.out p fun z => by obtain ⟨xs, _, e, _⟩ := l.inn p z; rw [h] at e; cases e]; exact h, fun p o u h => by
    rw [l.out p fun z => by obtain ⟨xs, _, e, _⟩ := l.inn p z; rw [h] at e; cases e]; exact h⟩
  fr := fun p hp => l.out p fun z => hf p z hp
end
def sLk (i : Nat) (m : Env → Out) : Env → Out := fun env => match m env with
  | .nx e => match e[i]? with
    | some (.own d) => if d.lkb = true then .nx (e.set i (.frz (scrD d))) else .bad
    | _ => .bad
  | .er x e => .er x e
  | _ => .bad
section
variable {X : Cx} {st : Stmt} {m : Env → Out} {t : TS}
def tLkS (t : TS) : TS := fun D σ H => t { D with nx := fun σ' H1 => ∃ fp : List Addr, fp.Nodup ∧ (∀ p ∈ fp, ∃ xs, H1 p = some (.lst xs)) ∧ ∀ H', LkTo fp H1 H' → D.nx σ' H' } σ H
theorem ps_lk (h : PS X st t) : PS X st (tLkS t) := ⟨fun pins s σ H D I q => thn (h.run pins s σ H _ I q) fun u s1 z => by
  cases u with
  | next =>
    obtain ⟨σ', H1, I1, fp, nd, hl, q1⟩ := z
    obtain ⟨H', l, I2⟩ := lk_inv I1 nd hl
    exact ⟨σ', H', I2, q1 H' l⟩
  | ret v => exact z
  | brk => exact z
  | cont => exact z⟩
theorem ds_lk (i : Nat) (h : DS X st m) : DS X st (sLk i m) := fun W tk ps => PSw (ps_lk (h W tk ps)) fun E σ H ⟨L, F, fr, env, fps, R, q⟩ => by
  refine ⟨L, F, fr, env, fps, R, ?_⟩
  unfold sLk at q
  cases em : m env with
  | bad => rw [em] at q; exact q
  | er x e => rw [em] at q; exact q
  | rt s e => rw [em] at q; exact q.elim
  | bk e => rw [em] at q; exact q.elim
  | ct e => rw [em] at q; exact q.elim
  | nx e =>
    rw [em] at q
    simp only at q
    intro σ' F' H' fps' R' ev
    cases es : e[i]? with
    | none => rw [es] at q; exact q.elim
    | some sl =>
      rw [es] at q
      cases sl with
      | own d =>
        simp only at q
        by_cases hi : d.lkb = true
        · rw [if_pos hi] at q
          obtain ⟨v, hv, ro, nd⟩ := R'.get es (.inr ⟨d, rfl⟩)
          refine ⟨fps' i, nd, ro.lks hi, fun H2 l => ?_⟩
          have il : i < e.length := (List.getElem?_eq_some_iff.mp es).1
          have R0 := R'.take es (.inl rfl)
          have R0' : RE X.K L F' H' (fun p => fr p ∨ p ∈ fps' i) σ' (e.set i .dead) (fun j => if j = i then [] else fps' j) := R0
          have nf : ∀ p ∈ fps' i, ¬ fr p := fun p hp => (R'.off i p hp).2.1
          have R2 := RE.ghosts R0' nf l
          have ev2 := Ev.ghosts R0' nf l
          have rv := RO.scr ev2.sF ro hi fun p hp => by
            obtain ⟨xs, od, h1, h2⟩ := l.inn p hp
            exact ⟨xs, od, h1, by unfold ovl; rw [if_pos hp]; exact h2⟩
          have R3 := RE.set (fp := []) (v := v) (s := .frz (scrD d)) (i := i) R2.nil ⟨rv, rfl⟩ (fun p hp => by cases hp) (by rw [List.length_set]; exact il)
          rw [List.set_set] at R3
          have es2 : σ'.set i (some v) = σ' := by
            have h1 := (List.getElem?_eq_some_iff.mp hv).1
            have h2 := (List.getElem?_eq_some_iff.mp hv).2
            rw [← h2, List.set_getElem_self]
          rw [es2] at R3
          exact q σ' _ H2 _ R3 (ev.trans ev2)
        · rw [if_neg hi] at q; exact q.elim
      | _ => exact q.elim
end
@[simp] theorem sLk_d (i : Nat) (m : Env → Out) (env : Env) : sLk i m env = match m env with
  | .nx e => match e[i]? with
    | some (.own d) => if d.lkb = true then .nx (e.set i (.frz (scrD d))) else .bad
    | _ => .bad
  | .er x e => .er x e
  | _ => .bad := (rfl)
end G9

namespace G9
open PySem PySem.Spec PyProof.Rows L2
end G9

namespace G9
open PySem PySem.Spec PyProof.Rows L2
end G9

namespace G9
open PySem PySem.Spec PyProof.Rows L2
end G9

namespace G9
open PySem PySem.Spec PyProof.Rows L2
end G9

namespace G9
open PySem PySem.Spec PyProof.Rows L2
end G9

namespace G9
open PySem PySem.Spec PyProof.Rows L2
end G9

namespace G9
open PySem PySem.Spec PyProof.Rows L2
end G9

namespace G9
open PySem PySem.Spec PyProof.Rows L2
end G9

namespace G9
open PySem PySem.Spec PyProof.Rows L2
def IsS (K : PySem.W.Frag) (H : Hp) (y : V) (d : D) : Prop := ∃ ks b ds, d = .tup ds ∧ y = .ref b ∧ SqT K H b (ks.map kV) ∧ RKes ks ds
theorem IsS.mono {K : PySem.W.Frag} {H H' : Hp} {y : V} {d : D} (s : Same H H') : IsS K H y d → IsS K H' y d := fun ⟨ks, b, ds, h1, h2, h3, h4⟩ => ⟨ks, b, ds, h1, h2, sqt_mono s h3, h4⟩
end G9

namespace G9
open PySem PySem.Spec PyProof.Rows L2
end G9

namespace G9
open PySem PySem.Spec PyProof.Rows L2
open SX (S in_one)
noncomputable def sIx (a b : List Nat) : Option Nat := (Builtin.Str.occurrences (S a) (S b) 0 (S a).length 1).head?
end G9

namespace G9
open PySem PySem.Spec PyProof.Rows L2
theorem RE.drop {K : PySem.W.Frag} {L : Nat → V} {F H : Hp} {fr : Addr → Prop} {σ : L2.St} {env : Env} {fps : Nat → List Addr} {fp : List Addr} {b : Addr} {o : HO} (R : RE K L F H (fun p => fr p ∨ p ∈ fp) σ env fps) (hf : ∀ p ∈ fp, ¬ fr p) (hb : b ∈ fp) (ho : Nt (some o)) :
    RE K L F (upd H b o) fr σ env fps ∧ Ev F H fr F (upd H b o) := by
  obtain ⟨Fb, nb⟩ := R.frd b (.inr hb)
  have nto : ∀ p, Nt (H p) → Nt (upd H b o p) := fun p h => by
    by_cases e : p = b
    · subst e; rw [upd_same]; exact ho
    · rw [upd_ne e]; exact h
  refine ⟨⟨R.len, fun j t e => ?_, R.dis, fun j p hp => ?_, fun p u e => ?_, ⟨fun p xs e => ?_, fun p o' u e => ?_⟩, fun p hp => ?_⟩, ⟨Same.refl F, ⟨fun p xs e => ?_, fun p o' u e => ?_⟩, fun p hp => ?_⟩⟩
  · exact (R.at' j t e).car (Same.refl F) fun p hp => upd_ne fun z => by subst z; exact (R.off j p hp).2.1 (.inr hb)
  · obtain ⟨x, y, w⟩ := R.off j p hp
    exact ⟨x, fun q => y (.inl q), nto p w⟩
  · rw [upd_ne (fun z => by subst z; rw [Fb] at e; cases e)]
    exact R.sF p u e
  · by_cases q : p = b
    · subst q; rw [upd_same] at e; obtain ⟨u, e1, e2, _⟩ := ho; cases e1; cases e; exact absurd rfl (e2 _)
    · rw [upd_ne q] at e; exact R.tk.tup _ _ e
  · by_cases q : p = b
    · subst q; rw [upd_same] at e; obtain ⟨u', e1, _, e2⟩ := ho; cases e1; cases e; exact absurd rfl (e2 _ _)
    · rw [upd_ne q] at e; exact R.tk.frz _ _ _ e
  · exact ⟨(R.frd p (.inl hp)).1, nto p (R.frd p (.inl hp)).2⟩
  · rw [upd_ne (fun z => by subst z; obtain ⟨u, e1, e2, _⟩ := nb; rw [e] at e1; cases e1; exact e2 _ rfl)]; exact e
  · rw [upd_ne (fun z => by subst z; obtain ⟨u', e1, _, e2⟩ := nb; rw [e] at e1; cases e1; exact e2 _ _ rfl)]; exact e
  · exact upd_ne fun z => by subst z; exact hf p hb hp
end G9

namespace G9
open PySem PySem.Spec PyProof.Rows L2
theorem SlotsV.datsH {K : PySem.W.Frag} {F H : Hp} (e : Same F H) : ∀ {vs : List V} {ss : List Slot} {fp : List Addr} {ds : List D}, SlotsV K F H vs ss fp → G9.dats ss = some ds → RVs K H vs ds
  | _, _, _, ds, .nil, h => by simp only [G9.dats, Option.some.injEq] at h; subst h; exact .nil
  | _, _, _, ds, .cons (s := s) (ss := ss) h r _, q => by
    unfold G9.dats at q
    cases ed : s.dat with
    | none => rw [ed] at q; cases q
    | some d =>
      rw [ed] at q
      cases er : G9.dats ss with
      | none => rw [er] at q; cases q
      | some ds' =>
        rw [er] at q
        simp only [Option.map_some, Option.some.injEq] at q
        subst q
        obtain ⟨d', hd, rv⟩ := h.view e
        have : d' = d := by
          rcases hd with rfl | rfl
          · simp only [Slot.dat] at ed
            split at ed
            · cases ed; rfl
            · cases ed
          · simp only [Slot.dat, Option.some.injEq] at ed; exact ed
        subst this
        exact .cons rv (SlotsV.datsH e r er)
theorem dats_len : ∀ {ss : List Slot} {ds : List D}, G9.dats ss = some ds → ds.length = ss.length
  | [], ds, h => by simp only [G9.dats, Option.some.injEq] at h; subst h; rfl
  | s :: ss, ds, h => by
    unfold G9.dats at h
    cases ed : s.dat with
    | none => rw [ed] at h; cases h
    | some d =>
      rw [ed] at h
      cases er : G9.dats ss with
      | none => rw [er] at h; cases h
      | some ds' =>
        rw [er] at h
        simp only [Option.map_some, Option.some.injEq] at h
        subst h
        simp only [List.length_cons, dats_len er]
def oFE (fm : List D → FRes) (m : Env → AORes) : Env → ORes := fun env => match m env with
  | .ok ss e => match dats ss with
    | some ds => match fm ds with
      | .ok (.frz d) => if d.imm = true then .ok (.frz d) e else .bad
      | .ok (.own d) => .ok (.own d) e
      | .er x => .er x e
      | _ => .bad
    | none => .bad
  | .er x e => .er x e
  | .bad => .bad
section
variable {X : Cx} {pos p : Pos} {es : List Expr} {e : Expr} {k : Nat} {f : Addr} {fd : FuncData} {ps : List Str} {fm : List D → FRes} {x : Str} {j : Nat}
theorem do_callE {ms : Env → AORes} (G : FnOk X.prog X.w X.K X.mg X.base (L2.CX X.prog X.w) k f fd ps (spD X.K X.mg ps.length fm)) (hr : Room k X.A) (hg : Gl X x) (hm : X.mg x = some (.ref f)) (hk : PySem.W.keepIn X.K (.ref f) = true) (hb : Binds X.K fd ps []) (ha : DAo X (e :: es) ms) (hl : (e :: es).length = ps.length := by rfl)
    (hdb : (x == ("__debug__" : Str)) = false := by decide) (he : starEach (e :: es) X.env = (false, eval e X.env) :: starEach es X.env := by rfl) (hpl : (backTo pos (starEach es X.env)).any (·.1) = false := by rfl)
    (hlen : ∀ env ss e', ms env = .ok ss e' → ss.length = (e :: es).length) : DO X (.Call (.Name x p) (e :: es) [] pos) (oFE fm ms) := fun W tk =>
  PEw (pe_callSD (E := fun σ cls d H => W cls d σ H) G hr hg hm hk hb .nil (fun σ => passAt tk σ) (ha W tk) hdb he hpl) fun σ H Q ⟨L, F, fr, env, fps, R, q⟩ => by
  refine ⟨L, F, fr, env, fps, R, ?_⟩
  unfold oFE at q
  cases ea : ms env with
  | bad => rw [ea] at q; exact q
  | er x e' => rw [ea] at q; exact q
  | ok ss env1 =>
    rw [ea] at q
    intro vs F1 H1 fp fps1 R1' ev1 sv nf
    rw [List.append_nil]
    simp only at q
    have R1 : RE X.K L F1 H1 fr σ env1 fps1 := R1'.frw fun p hp => .inl hp
    cases ed : dats ss with
    | none => rw [ed] at q; exact q.elim
    | some ds =>
      rw [ed] at q
      simp only at q
      have rvs := sv.datsH R1.sF ed
      refine ⟨by rw [rvs.len, dats_len ed, hlen env ss env1 ea, hl], H1, ds, Same.refl H1, .refl, rvs, ?_⟩
      cases ef : fm ds with
      | bad => rw [ef] at q; exact q.elim
      | er x => rw [ef] at q; exact fun cls d H' s z => q cls d _ H' fps1 (R1.grow s) (ev1.trans (Ev.grow R1 s)) z
      | ok s =>
        rw [ef] at q
        intro v F' H' fp2 h1 h2 h3 h4 hs hn _
        have tkk : Tk F' (tkF F1 H') := ⟨fun p xs z => tkF_tk.tup _ _ (h2 _ _ z), fun p o u z => tkF_tk.frz _ _ _ (h2 _ _ z)⟩
        cases s with
        | dead => exact hs.elim
        | lck => exact hs.elim
        | pin _ => exact hs.elim
        | frz d =>
          simp only at q
          by_cases hi : d.imm = true
          · rw [if_pos hi] at q
            exact q v _ H' [] fps1 (R1.grow h4).nil (ev1.trans (Ev.grow R1 h4)) ⟨hs.1.chg tkk hi, rfl⟩ (fun p hp => by cases hp)
          · rw [if_neg hi] at q; exact q.elim
        | own d =>
          have f1 : ∀ p ∈ fp2, H1 p = none := fun p hp => (hn p hp).1
          exact q v _ H' fp2 fps1 (R1.fresh h4 f1 hs.1.nt) (ev1.trans (Ev.grow R1 h4)) ⟨RO.car tkk hs.1 fun _ _ => rfl, hs.2⟩ (R1.nofr f1)
end
@[simp] theorem oFE_d (fm : List D → FRes) (m : Env → AORes) (env : Env) : oFE fm m env = match m env with
  | .ok ss e => match dats ss with
    | some ds => match fm ds with
      | .ok (.frz d) => if d.imm = true then .ok (.frz d) e else .bad
      | .ok (.own d) => .ok (.own d) e
      | .er x => .er x e
      | _ => .bad
    | none => .bad
  | .er x e => .er x e
  | .bad => .bad := (rfl)
end G9

namespace G9
open PySem PySem.Spec PyProof.Rows L2
end G9

namespace G9
open PySem PySem.Spec PyProof.Rows L2
structure Rm (j n : Nat) (A : Around) : Prop where
  hd : A.handled = none
  dp : A.depth + n + 3 * j + 5 < recursionLimit
  un : A.units + 3 * n + 16 * j + 200 < cLine
theorem Rm.step {j n : Nat} {A : Around} (r : Rm j (n + 1) A) (env : PySem.Env) : Rm j n (A.deeper env) :=
  ⟨r.hd, (by have := r.dp; show (A.depth + 1) + n + 3 * j + 5 < _; omega), by have := r.un; show (A.units + 3) + 3 * n + 16 * j + 200 < _; omega⟩
theorem Rm.room {j n : Nat} {A : Around} (r : Rm j n A) : Room j A := ⟨r.hd, (by have := r.dp; omega), by have := r.un; omega⟩
structure FnW (R : Around → Prop) (P : Program) (w : World) (K : PySem.W.Frag) (mg : Str → Option Value) (base : Heap) (f : Addr) (fd : FuncData) (ps : List Str) (sp : Sp) : Prop where
  ln : ∀ vs H Q E, sp vs H Q E → vs.length = ps.length
  go : ∀ (A : Around), R A → ∀ (out : List PySem.Env) (t : Shared) (H : Hp) (xs : Args) (us : List Value) (vs : List V) (Q : VK) (E : XK), Env0 P w K mg base A out t H → BindsTo t fd xs (ps.zip us) → Vals vs us → sp vs H Q E →
    codeAny (model P w) A (.call (.ref f) xs) (CR (L2.CX P w) out P w H t Q E) t
theorem FnW.ok {R : Around → Prop} {P : Program} {w : World} {K : PySem.W.Frag} {mg : Str → Option Value} {base : Heap} {k : Nat} {f : Addr} {fd : FuncData} {ps : List Str} {sp : Sp}
    (F : FnW R P w K mg base f fd ps sp) (h : ∀ A, Room k A → R A) : FnOk P w K mg base (L2.CX P w) k f fd ps sp := ⟨F.ln, fun A o s H a us vs Q E r => F.go A (h A r) o s H a us vs Q E⟩
theorem FnW.none {R : Around → Prop} {P : Program} {w : World} {K : PySem.W.Frag} {mg : Str → Option Value} {base : Heap} {f : Addr} {fd : FuncData} {ps : List Str} :
    FnW R P w K mg base f fd ps (spD K mg ps.length fun _ => .bad) := ⟨fun vs H Q E h => h.1, fun A _ o s H a us vs Q E _ _ _ h => by obtain ⟨_, _, _, _, _, _, z⟩ := h; exact z.elim⟩

end G9

namespace G9
open PySem PySem.Spec PyProof.Rows L2
end G9

set_option maxHeartbeats 4000000
namespace G9
open PySem PySem.Spec PyProof.Rows L2
end G9

namespace G9
open PySem PySem.Spec PyProof.Rows L2
structure Cla where
  n : Str
  C : Addr
  su : Env → Out
inductive ClaS (X : Cx) : List ExceptHandler → List Cla → Prop
  | nil : ClaS X [] []
  | cons {x : Str} {c : Cla} {b₀ : Stmt} {suite : List Stmt} {np pos' : Pos} {hds : List ExceptHandler} {l : List Cla} : Names X x (.ref c.C) → (∀ (a : Addr) (oe : Obj) (pn : List (Addr × Obj)), DSs (X.suite a ((a, oe) :: pn)) (b₀ :: suite) c.su) → ClaS X hds l →
      ClaS X (.ExceptHandler (some (.Name x np)) none (b₀ :: suite) pos' :: hds) (c :: l)
end G9

namespace G9
open PySem PySem.Spec PyProof.Rows L2
theorem kit_ownF {K : PySem.W.Frag} {C B : Addr} (h0 : (C == B) = false) (h1 : (PySem.W.clsIn K B).isSome = true) (h2 : PySem.W.typeIn K (.ref B) = some (.type "type")) (h3 : PySem.W.subIn K (.ref C) (.ref B) = some false) : PySem.W.kitOne K (.ref C) (.ref B) = some false := by
  unfold PySem.W.kitOne
  rw [if_neg (fun z => by
    have : C = B := by simpa using z
    rw [this] at h0
    simp at h0)]
  show (if ((PySem.W.clsIn K B).isSome && PySem.W.typeIn K (.ref B) == some (.type "type")) = true then PySem.W.subIn K (.ref C) (.ref B) else none) = some false
  rw [if_pos (by rw [h1, h2]; rfl)]
  exact h3
end G9

namespace G9
open PySem PySem.Spec PyProof.Rows L2
end G9

namespace G9
open PySem PySem.Spec PyProof.Rows L2
end G9

namespace G9
open PySem PySem.Spec PyProof.Rows L2
end G9

namespace G9
open PySem PySem.Spec PyProof.Rows L2
section
variable {X : Cx} {e : Expr} {es : List Expr} {pos : Pos} {g : Slot → Env → Option Env} {gs : List Slot → Env → Option Env}
theorem ROs.slots {K : PySem.W.Frag} {F H : Hp} : ∀ {vs : List V} {ds : List D} {fp : List Addr}, ROs K F H vs ds fp → fp.Nodup → SlotsV K F H vs (ds.map mkS) fp
  | _, _, _, .nil, _ => .nil
  | _, _, _, .cons a b, nd => by
    obtain ⟨n1, n2, n3⟩ := List.nodup_append.mp nd
    exact .cons (a.slot n1) (ROs.slots b n2) fun p hp hq => n3 p hp p hq rfl
theorem RVs.slots {K : PySem.W.Frag} {F H : Hp} : ∀ {vs : List V} {ds : List D}, RVs K F vs ds → SlotsV K F H vs (ds.map .frz) []
  | _, _, .nil => .nil
  | _, _, .cons a b => .cons (f := []) ⟨a, rfl⟩ (RVs.slots b) fun p hp => nomatch hp
end
end G9

namespace G9
open PySem PySem.Spec PyProof.Rows L2
end G9

namespace G9
open PySem PySem.Spec PyProof.Rows L2
abbrev xoF (oe : Obj) : HO := .frz oe (.ext fun _ => True)
inductive TClE
  | tup (cs : List Value)
  | one (c : Value) (ts : TS)
  | as (c : Value) (i : Nat) (ts : TS)
def wTryE (K : PySem.W.Frag) (Wout : WX) (D : Ends) : List TClE → WX
  | [] => Wout
  | .tup cs :: r => fun cls d σ H => (∀ c ∈ cs, PySem.W.exmOne K cls c = some false) ∧ wTryE K Wout D r cls d σ H
  | .one c ts :: r => fun cls d σ H => ∃ b, PySem.W.exmOne K cls c = some b ∧ (b = true → ts D σ H) ∧ (b = false → wTryE K Wout D r cls d σ H)
  | .as c i ts :: r => fun cls d σ H => ∃ b, PySem.W.exmOne K cls c = some b ∧ (b = true → ∀ a oe, H a = none → Zc cls d oe → (∃ vs, oe.data = .fields vs) → ts (offE D i) (σ.set i (some (.ref a))) (upd H a (xoF oe))) ∧ (b = false → wTryE K Wout D r cls d σ H)
inductive ClOkE (X : Cx) : List ExceptHandler → List TClE → Prop
  | nil : ClOkE X [] []
  | tup {es : List Expr} {cs : List Value} {k : Nat} {tp pos' : Pos} {b₀ : Stmt} {su : List Stmt} {hds : List ExceptHandler} {l : List TClE} : NamesL X es cs → cs.length ≤ sizeLine → ClOkE X hds l → ClOkE X (.ExceptHandler (some (.Tuple es k tp)) none (b₀ :: su) pos' :: hds) (.tup cs :: l)
  | one {x : Str} {c : Value} {np pos' : Pos} {b₀ : Stmt} {su : List Stmt} {ts : TS} {hds : List ExceptHandler} {l : List TClE} : Names X x c → (∀ (a : Addr) (pn : List (Addr × Obj)), PSs (X.suite a pn) (b₀ :: su) ts) → ClOkE X hds l → ClOkE X (.ExceptHandler (some (.Name x np)) none (b₀ :: su) pos' :: hds) (.one c ts :: l)
  | as {x n : Str} {c : Value} {i : Nat} {np pos' : Pos} {b₀ : Stmt} {su : List Stmt} {ts : TS} {hds : List ExceptHandler} {l : List TClE} : Names X x c → X.N.Nodup → X.N[i]? = some n → X.env.kindOf n = some .local →
      (∀ (a : Addr) (pn : List (Addr × Obj)), PSs (X.suite a pn) (b₀ :: su) ts) →
      ClOkE X hds l → ClOkE X (.ExceptHandler (some (.Name x np)) (some n) (b₀ :: su) pos' :: hds) (.as c i ts :: l)
abbrev HtE := Str × Option Nat × (Env → Out)
def hitP (K : PySem.W.Frag) (mg : Str → Option Value) : Option Nat → (Env → Out) → Addr → Ends → Option Addr → L2.St → Hp → Prop
  | none, su, _, E, _, σ, H => tSm K mg (fun _ _ _ _ => False) su E σ H
  | some i, su, C, E, d, σ, H => ∀ a oe, H a = none → Zc (.ref C) d oe → (∃ vs, oe.data = .fields vs) → tSm K mg (fun _ _ _ _ => False) su (offE E i) (σ.set i (some (.ref a))) (upd H a (xoF oe))
inductive HitsE (K : PySem.W.Frag) (mg : Str → Option Value) (l : List TClE) : List HtE → Prop
  | nil : HitsE K mg l []
  | cons {n : Str} {C : Addr} {i : Option Nat} {su : Env → Out} {r : List HtE} : mg n = some (.ref C) → ClsN K n C → (∀ (W : WX) (E : Ends) (d : Option Addr) (σ : L2.St) (H : Hp), hitP K mg i su C E d σ H → wTryE K W E l (.ref C) d σ H) → HitsE K mg l r → HitsE K mg l ((n, i, su) :: r)
end G9

namespace G9
open PySem PySem.Spec PyProof.Rows L2
theorem clsN_eq {K : PySem.W.Frag} {n : Str} {C B : Addr} (h1 : ClsN K n C) (h2 : ClsN K n B) : C = B := by
  unfold ClsN at h1 h2
  rw [h1] at h2
  simpa using h2
def tbGet (n : Str) : List (Str × Bool) → Option Bool
  | [] => none
  | p :: r => if p.1 = n then some p.2 else tbGet n r
@[simp] theorem tbGet_nil (n : Str) : tbGet n [] = none := (rfl)
@[simp] theorem tbGet_cons (n x : Str) (b : Bool) (r : List (Str × Bool)) : tbGet n ((x, b) :: r) = if x = n then some b else tbGet n r := (rfl)
inductive IsTb (K : PySem.W.Frag) (P : Value → Bool → Prop) : List (Str × Bool) → Prop
  | nil : IsTb K P []
  | cons {n : Str} {C : Addr} {b : Bool} {r : List (Str × Bool)} : ClsN K n C → ExcK K C → P (.ref C) b → IsTb K P r → IsTb K P ((n, b) :: r)
theorem IsTb.get {K : PySem.W.Frag} {P : Value → Bool → Prop} {n : Str} {C : Addr} {b : Bool} (hc : ClsN K n C) : ∀ {tb : List (Str × Bool)}, IsTb K P tb → tbGet n tb = some b → ExcK K C ∧ P (.ref C) b
  | _, .nil, h => by cases h
  | _, .cons (n := x) h1 h2 h3 h4, h => by
    unfold tbGet at h
    by_cases e : x = n
    · simp only [if_pos e] at h
      cases h
      subst e
      cases clsN_eq h1 hc
      exact ⟨h2, h3⟩
    · simp only [if_neg e] at h
      exact h4.get hc h
end G9

namespace G9
open PySem PySem.Spec PyProof.Rows L2
def minDD : List D → D
  | [] => .non
  | x :: xs => xs.foldl (fun a y => if PySem.W.dataLt y.pd a.pd = true then y else a) x
structure MinOk (B : Nat) (ds : List D) : Prop where
  ne : ds ≠ []
  lay : D.lays ds = true
  al : ∀ x ∈ ds, ∀ y ∈ ds, PySem.W.alike x.pd y.pd = true
  nn : ∀ x ∈ ds, x.pd ≠ .none
  dp : PyData.depthAll (ds.map D.pd) + 2 ≤ B
  un : ∀ x ∈ ds, x.pd = (minDD ds).pd → x = minDD ds
end G9

namespace G9
open PySem PySem.Spec PyProof.Rows L2
end G9

namespace G9
open PySem PySem.Spec PyProof.Rows L2
end G9

namespace G9
open PySem PySem.Spec PyProof.Rows L2
end G9

namespace G9
open PySem PySem.Spec PyProof.Rows L2
end G9

namespace G9
open PySem PySem.Spec PyProof.Rows L2
end G9

namespace G9
open PySem PySem.Spec PyProof.Rows L2
inductive JORes where
  | ok (s : Slot) (o1 o2 : D) | er (x : Exn) (o1 o2 : D) | bad
end G9

namespace G9
open PySem PySem.Spec PyProof.Rows L2
structure ShowOk (B : Nat) (d : D) : Prop where
  lay : d.lay = true
  sh : d.pd.showable = true
  dp : d.dep + 3 ≤ B
  ln : d.pd.shown.length ≤ sizeLine

structure RmG (k : Nat) (A : Around) : Prop where
  r : Room k A
  g : A.guards = some []
theorem RmG.mono {j k : Nat} {A : Around} (r : RmG k A) (h : j ≤ k) : RmG j A := ⟨r.r.mono h, r.g⟩
theorem RmG.deeper {k : Nat} {A : Around} (r : RmG (k + 1) A) (env : PySem.Env) : RmG k (A.deeper env) := ⟨r.r.deeper env, r.g⟩
end G9

namespace G9
open PySem PySem.Spec PyProof.Rows L2
theorem FnW.imp {R : Around → Prop} {P : Program} {w : World} {K : PySem.W.Frag} {mg : Str → Option Value} {base : Heap} {f : Addr} {fd : FuncData} {ps : List Str} {sp sp' : Sp}
    (F : FnW R P w K mg base f fd ps sp) (h : ∀ vs H Q E, sp' vs H Q E → sp vs H Q E) : FnW R P w K mg base f fd ps sp' :=
  ⟨fun vs H Q E z => F.ln vs H Q E (h _ _ _ _ z), fun A r o s H a us vs Q E e b v z => F.go A r o s H a us vs Q E e b v (h _ _ _ _ z)⟩
theorem FnW.mono {R R' : Around → Prop} {P : Program} {w : World} {K : PySem.W.Frag} {mg : Str → Option Value} {base : Heap} {f : Addr} {fd : FuncData} {ps : List Str} {sp : Sp}
    (F : FnW R P w K mg base f fd ps sp) (h : ∀ A, R' A → R A) : FnW R' P w K mg base f fd ps sp := ⟨F.ln, fun A r => F.go A (h A r)⟩
end G9

namespace G9
open PySem PySem.Spec PyProof.Rows L2
end G9

namespace G9
open PySem PySem.Spec PyProof.Rows L2
end G9

namespace G9
open PySem PySem.Spec PyProof.Rows L2
structure ClsF (K : PySem.W.Frag) (mg : Str → Option Value) (x m : Str) (C f : Addr) : Prop where
  g : mg x = some (.ref C)
  sp : PySem.W.specialIn K (.ref C) "__getattribute__" = some (some (.builtin "type.__getattribute__"))
  rd : PySem.W.readsIn K C (.type "type") = true
  fi : PySem.W.findCls K (.ref C) (.type "type") m = some (.val (.ref f))
  kp : PySem.W.keepIn K (.ref f) = true
section
variable {X : Cx} {CX : CXT} {k : Nat} {f C : Addr} {fd : FuncData} {ps : List Str} {sp : Sp} {E : L2.St → XK} {x m : Str} {p p2 pos : Pos} {e : Expr} {es : List Expr} {t : TA}
theorem pe_clsfSD {pl : Sem Bool} (T : ClsF X.K X.mg x m C f) (hg : Gl X x) (F : FnOk X.prog X.w X.K X.mg X.base CX k f fd ps sp) (hr : Room k X.A) (hb : Binds X.K fd ps []) (hx : ∀ σ, PassesAt CX X σ (E σ)) (ha : PA X (e :: es) t)
    (hc : eval (.Call (.Attribute (.Name x p) m p2) (e :: es) [] pos) X.env = (do
      let ov ← eval (.Name x p) X.env
      standAt p2.atName
      let (f, first) ← holding [ov] (getMethod ov m pl)
      callWith pos f first (backTo pos (starEach (e :: es) X.env)) (backToKw pos (keywordEach [] X.env))) := by rfl)
    (hdb : (x == ("__debug__" : Str)) = false := by decide) (he : starEach (e :: es) X.env = (false, eval e X.env) :: starEach es X.env := by rfl) (hpl : (backTo pos (starEach es X.env)).any (·.1) = false := by rfl) :
    PE X (.Call (.Attribute (.Name x p) m p2) (e :: es) [] pos) (tCallSD sp [] E t) := by
  refine ⟨fun pins s σ H Q I h => ?_⟩
  refine PySem.W.methodCall_KW (ld_glob I hg T.g ?_ hdb) hc
  refine PySem.W.method_cls I.kIn T.sp (PySem.W.cls_value I.kIn T.rd T.fi rfl ?_)
  refine PySem.W.callWith_K (first := []) (h₀ := X.base) I.ok.mod.kin T.kp (thn (ha.run pos pins _ σ H _ (I.tok _) h) fun us s2 ⟨vs, H2, I2, r, q2⟩ => ⟨I2.kIn, ?_⟩) he hpl
  exact run_fnSD (us := us) (vs := vs) F hr hb .nil (hx σ) I2 r q2
end
section
variable {X : Cx} {k : Nat} {f C : Addr} {fd : FuncData} {ps : List Str} {x m : Str} {p p2 pos : Pos} {e : Expr} {es : List Expr} {ms : Env → Res (List D)} {fm : List D → FRes}
theorem dv_clsf {pl : Sem Bool} (G : FnOk X.prog X.w X.K X.mg X.base (L2.CX X.prog X.w) k f fd ps (spD X.K X.mg ps.length fm)) (hr : Room k X.A) (T : ClsF X.K X.mg x m C f) (hg : Gl X x) (hb : Binds X.K fd ps []) (ha : DA X (e :: es) ms) (hl : (e :: es).length = ps.length := by rfl)
    (hdb : (x == ("__debug__" : Str)) = false := by decide) (he : starEach (e :: es) X.env = (false, eval e X.env) :: starEach es X.env := by rfl) (hpl : (backTo pos (starEach es X.env)).any (·.1) = false := by rfl)
    (hc : eval (.Call (.Attribute (.Name x p) m p2) (e :: es) [] pos) X.env = (do
      let ov ← eval (.Name x p) X.env
      standAt p2.atName
      let (f, first) ← holding [ov] (getMethod ov m pl)
      callWith pos f first (backTo pos (starEach (e :: es) X.env)) (backToKw pos (keywordEach [] X.env))) := by rfl)
    (hlen : ∀ env ds, ms env = .ok ds → ds.length = (e :: es).length) : DV X (.Call (.Attribute (.Name x p) m p2) (e :: es) [] pos) (vF fm ms) := fun W tk =>
  PEw (pe_clsfSD (E := fun σ cls d H => W cls d σ H) T hg G hr hb (fun σ => passAt tk σ) (ha W tk) hc hdb he hpl) fun σ H Q ⟨L, F, fr, env, fps, R, q⟩ => by
  refine ⟨L, F, fr, env, fps, R, ?_⟩
  unfold vF at q
  cases ea : ms env with
  | bad => rw [ea] at q; exact q
  | er x => rw [ea] at q; exact q
  | ok ds =>
    rw [ea] at q
    intro vs H1 s1 rvs
    rw [List.append_nil]
    simp only [Res.bind] at q
    refine ⟨by rw [rvs.len, hlen env ds ea, hl], H1, ds, Same.refl H1, .refl, rvs, ?_⟩
    cases ef : fm ds with
    | bad => rw [ef] at q; exact q.elim
    | er x => rw [ef] at q; exact fun cls d H' s z => q cls d H' (s1.trans s) z
    | ok s =>
      rw [ef] at q
      intro v F' H' fp h1 h2 h3 h4 hs _ _
      cases s with
      | dead => exact hs.elim
      | lck => exact hs.elim
      | pin _ => exact hs.elim
      | frz d => exact q v H' (s1.trans h4) (hs.1.mono h2)
      | own d => exact q v H' (s1.trans h4) (hs.1.view h2)
end
structure IsC (K : PySem.W.Frag) (C : Addr) : Prop where
  cl : Cls K C
  ha : PySem.W.findIn K (.ref C) "__class__" = some (some (.builtin "object.__class__"))
  hn : PySem.W.specialIn K (.builtin "object.__class__") "__get__" = some (some (.builtin "getset_descriptor.__get__"))
  htk : PySem.W.takesIn K (.builtin "object.__class__") = some true
  hm : PySem.W.mroIn K C (.type "object") = some true
def eIsO (c : Str) (b : Bool) (m : Env → Res D) : Env → Res D := fun env => (m env).bind fun d => match d with
  | .obj c' _ _ => if c' = c then .ok (.bl b) else .bad
  | _ => .bad
section
variable {X : Cx} {a : Expr} {pos p p' : Pos} {mv : Env → Res D}
theorem dv_isO {c x : Str} {C D : Addr} {b : Bool} (hg : Gl X "isinstance") (hm : X.mg "isinstance" = none) (ha : DV X a mv) (cn : ClsN X.K c C) (T : IsC X.K C) (hx : PE X (.Name x p') (tC (.ref D))) (hk : PySem.W.kitOne X.K (.ref C) (.ref D) = some b)
    (hv : bootBuiltins "isinstance" = some (.builtin "isinstance") := by decide +kernel)
    (hs : starEach [.Name x p'] X.env = (false, eval (.Name x p') X.env) :: starEach [] X.env := by rfl)
    (he : starEach [a, .Name x p'] X.env = (false, eval a X.env) :: starEach [.Name x p'] X.env := by rfl) (hpl : (backTo pos (starEach [.Name x p'] X.env)).any (·.1) = false := by rfl) :
    DV X (.Call (.Name "isinstance" p) [a, .Name x p'] [] pos) (eIsO c b mv) := fun W tk =>
  PEw (pe_callB call_isi hg hm hv (pa_cons (ha W tk) (pa_cons hx pa_nil hs) he) (by decide) (by decide) he hpl) fun σ H Q ⟨L, F, fr, env, fps, R, q⟩ => by
  refine ⟨L, F, fr, env, fps, R, ?_⟩
  unfold eIsO at q
  cases ea : mv env with
  | bad => rw [ea] at q; exact q
  | er x => rw [ea] at q; exact q
  | ok d =>
    rw [ea] at q
    intro v H1 s1 r
    simp only [Res.bind] at q
    cases r with
    | @obj a C' dx c' fs ks ds h1 h2 h3 h4 =>
      by_cases hc : c' = c
      · simp only [hc, if_true] at q
        subst hc
        cases clsN_eq h1 cn
        exact ⟨.ref a, .ref D, .ref C, .ref D, b, rfl, .own D, .base (.ins h2 T.cl T.ha T.hn T.htk T.hm), hk, q _ H1 s1 (.bl b)⟩
      · simp only [if_neg hc] at q
    | _ => exact q.elim
end
@[simp] theorem eIsO_d (c : Str) (b : Bool) (m : Env → Res D) (env : Env) : eIsO c b m env = (m env).bind fun d => match d with
  | .obj c' _ _ => if c' = c then .ok (.bl b) else .bad
  | _ => .bad := (rfl)
end G9

namespace G9
open PySem PySem.Spec PyProof.Rows L2
abbrev Wd := List Nat
def opn : Nat → List Wd → Option Nat
  | n, [] => some n
  | n, w :: ws => if w = [47] then (match n with | 0 => none | m + 1 => opn m ws) else opn (n + 1) ws
theorem opn_word {w : Wd} (h : w ≠ [47]) (n : Nat) (ws : List Wd) : opn n (w :: ws) = opn (n + 1) ws := by
  show (if w = [47] then _ else _) = _
  rw [if_neg h]
theorem opn_app : ∀ (a b : List Wd) (n : Nat), opn n (a ++ b) = (opn n a).bind fun m => opn m b
  | [], b, n => rfl
  | w :: a, b, n => by
    by_cases h : w = [47]
    · subst h
      cases n with
      | zero => rfl
      | succ m => exact opn_app a b m
    · rw [List.cons_append, opn_word h, opn_word h]
      exact opn_app a b (n + 1)
inductive Gv : List D → List Wd → Prop
  | nil : Gv [] []
  | cons {tag kids ws row us} : tag ≠ [47] → Gv kids ws → Gv row us → Gv (.tup [.str tag, .tup kids] :: row) (tag :: (ws ++ [47] :: us))
theorem Gv.imm {row : List D} {ws : List Wd} (h : Gv row ws) : D.imms row = true := by
  induction h with
  | nil => simp
  | cons _ _ _ a b => simp [a, b]
theorem Gv.opn {row : List D} {ws : List Wd} (h : Gv row ws) : ∀ n, opn n ws = some n := by
  induction h with
  | nil => exact fun n => rfl
  | cons ht _ _ a b =>
    intro n
    rw [opn_word ht, opn_app, a]
    exact b n
inductive Segs : Nat → List Wd → Prop
  | zero {r ws} : Gv r ws → Segs 0 ws
  | succ {n r ws us} : Gv r ws → Segs n us → Segs (n + 1) (ws ++ [47] :: us)
theorem Gv.app {r1 r2 : List D} {w1 w2 : List Wd} (h : Gv r1 w1) (h2 : Gv r2 w2) : Gv (r1 ++ r2) (w1 ++ w2) := by
  induction h with
  | nil => exact h2
  | cons ht a _ _ ih =>
    have := Gv.cons ht a ih
    simpa using this
@[simp] theorem atI_last {α : Type} (A : List α) (c : α) : atI (A ++ [c]) (-1) = some c := by
  rw [atI_neg1]
  simp
@[simp] theorem put1_last (A : List D) (c e : D) : (D.lst (A ++ [c])).put1 e (.ix (-1)) = .lst (A ++ [e]) := by
  rw [put1_l]
  unfold ixN
  rw [if_neg (by omega), if_pos (by simp; omega)]
  dsimp only
  congr 1
  rw [show ((-1 : Int) + ((A ++ [c]).length : Nat)).toNat = A.length by simp; omega]
  simp
@[simp] theorem imms_rep (s : Wd) : ∀ n : Nat, D.imms (List.replicate n (.str s)) = true
  | 0 => by simp
  | n + 1 => by rw [List.replicate_succ, imms_cns, imms_rep s n]; simp
def Tg (t : Wd) : Prop := 1 ≤ t.length ∧ t.length ≤ 8 ∧ ∀ c ∈ t, 97 ≤ c ∧ c ≤ 122
theorem Tg.ne {t : Wd} (h : Tg t) : t ≠ [47] := fun e => by
  subst e
  have := h.2.2 47 (by simp)
  omega
theorem Tg.sOk {t : Wd} (h : Tg t) : sOk t = true := by
  unfold G9.sOk
  rw [List.all_eq_true]
  intro c hc
  have := h.2.2 c hc
  simp
  omega
theorem abc_at (i : Int) : ∃ c, atI [97, 98, 99, 100, 101, 102, 103, 104, 105, 106, 107, 108, 109, 110, 111, 112, 113, 114, 115, 116, 117, 118, 119, 120, 121, 122] (i % 26) = some c ∧ 97 ≤ c ∧ c ≤ 122 := by
  obtain ⟨c, hc⟩ := atI_mod (xs := [97, 98, 99, 100, 101, 102, 103, 104, 105, 106, 107, 108, 109, 110, 111, 112, 113, 114, 115, 116, 117, 118, 119, 120, 121, 122]) (n := 26) (by decide) (by decide) i
  refine ⟨c, hc, ?_⟩
  rw [atI_pos (Int.emod_nonneg _ (by decide))] at hc
  have hm := List.mem_of_getElem? hc
  have ha : ([97, 98, 99, 100, 101, 102, 103, 104, 105, 106, 107, 108, 109, 110, 111, 112, 113, 114, 115, 116, 117, 118, 119, 120, 121, 122] : List Nat).all (fun c => decide (97 ≤ c ∧ c ≤ 122)) = true := by decide
  have := List.all_eq_true.mp ha c hm
  simpa using this
@[simp] theorem repl1 {α : Type} (n : Nat) (c : α) : (List.replicate n [c]).flatten = List.replicate n c := by
  induction n with
  | zero => rfl
  | succ n ih => rw [List.replicate_succ, List.flatten_cons, ih]; rfl
def deps : List D → Nat
  | [] => 0
  | x :: xs => max x.dep (deps xs)
theorem depthAll_pds : ∀ xs : List D, PyData.depthAll (D.pds xs) = deps xs
  | [] => by rw [D.pds]; rfl
  | x :: xs => by
    rw [D.pds]
    show max x.pd.depth (PyData.depthAll (D.pds xs)) = max x.dep (deps xs)
    rw [depthAll_pds xs]
    rfl
theorem dep_lst (xs : List D) : (D.lst xs).dep = 1 + deps xs := by
  unfold D.dep
  rw [D.pd]
  simp only [PyData.depth, depthAll_pds, Nat.add_comm]
theorem deps_le {n : Nat} : ∀ {xs : List D}, (∀ x ∈ xs, x.dep ≤ n) → deps xs ≤ n
  | [], _ => Nat.zero_le _
  | x :: xs, h => Nat.max_le.mpr ⟨h x List.mem_cons_self, deps_le fun y hy => h y (List.mem_cons_of_mem _ hy)⟩
theorem lays_all {xs : List D} : (∀ x ∈ xs, x.lay = true) → D.lays xs = true := by
  induction xs with
  | nil => exact fun _ => by rw [D.lays]
  | cons x xs ih => exact fun h => by rw [lays_cons, h x List.mem_cons_self, ih fun y hy => h y (List.mem_cons_of_mem _ hy)]; rfl
end G9

namespace G9
open PySem PySem.Spec PyProof.Rows L2
structure Ru where
  k : Nat
  w : Wd
  i : Nat
  r : Nat
def Ru.d (q : Ru) : D := .tup [nI q.k, .str q.w, nI q.i, nI q.r]
def FmD (m : Nat) (st en : List Nat) (ru : List Ru) : D := .tup [nI m, .tup (st.map nI), .tup (en.map nI), .tup (ru.map Ru.d)]
theorem Ru.d_inj {a b : Ru} (h : a.d = b.d) : a = b := by
  obtain ⟨k, w, i, r⟩ := a
  obtain ⟨k2, w2, i2, r2⟩ := b
  simp only [Ru.d, D.tup.injEq, List.cons.injEq, D.str.injEq, and_true] at h
  obtain ⟨h1, h2, h3, h4⟩ := h
  rw [nI_inj h1, h2, nI_inj h3, nI_inj h4]
theorem Ru.d_mem {q : Ru} {qs : List Ru} : q.d ∈ qs.map Ru.d ↔ q ∈ qs := by
  constructor
  · intro h
    obtain ⟨x, hx, e⟩ := List.mem_map.mp h
    rw [← Ru.d_inj e]
    exact hx
  · exact fun h => List.mem_map.mpr ⟨q, h, rfl⟩
theorem Ru.imms (qs : List Ru) : D.imms (qs.map Ru.d) = true := by
  induction qs with
  | nil => rfl
  | cons q qs ih => rw [List.map_cons]; simp [Ru.d, nI, ih]
theorem nI_imms (ns : List Nat) : D.imms (ns.map nI) = true := by
  induction ns with
  | nil => rfl
  | cons q qs ih => rw [List.map_cons]; simp [nI, ih]
theorem rus_of {ds : List D} {P : Ru → Prop} (h : ∀ d ∈ ds, ∃ q : Ru, d = q.d ∧ P q) : ∃ qs : List Ru, ds = qs.map Ru.d ∧ ∀ q ∈ qs, P q := by
  induction ds with
  | nil => exact ⟨[], rfl, fun q hq => by cases hq⟩
  | cons d ds ih =>
    obtain ⟨n, rfl, hn⟩ := h d List.mem_cons_self
    obtain ⟨ns, rfl, hns⟩ := ih fun x hx => h x (List.mem_cons_of_mem _ hx)
    exact ⟨n :: ns, rfl, fun q hq => (List.mem_cons.mp hq).elim (fun e => e ▸ hn) (hns q)⟩
def sgn (w : Wd) : Prop := ∀ c ∈ w, c < 1114112
theorem sOk_sgn {w : Wd} (h : sgn w) : sOk w = true := by
  unfold sOk
  simpa using show ∀ c ∈ w, c < 1114112 from h
theorem srtOk_rus {B : Nat} (hB : 4 ≤ B) {qs : List Ru} (h : ∀ q ∈ qs, sgn q.w) : SrtOk B (qs.map Ru.d) where
  lay := by
    induction qs with
    | nil => rfl
    | cons q qs ih =>
      rw [List.map_cons, lays_cons, ih fun x hx => h x (List.mem_cons_of_mem _ hx), Bool.and_true]
      have := sOk_sgn (h q List.mem_cons_self)
      simp [Ru.d, nI, D.lay, D.lays, this]
  al := fun d hd d' hd' => by
    rw [List.map_map] at hd hd'
    obtain ⟨i, _, rfl⟩ := List.mem_map.mp hd
    obtain ⟨j, _, rfl⟩ := List.mem_map.mp hd'
    simp [Ru.d, nI, D.pd, D.pds, PySem.W.alike, PySem.W.alikeAll]
  so := .inl fun d hd => by
    rw [List.map_map] at hd
    obtain ⟨i, _, rfl⟩ := List.mem_map.mp hd
    exact ⟨_, _, by simp only [Function.comp_apply, Ru.d, D.pd, D.pds]; rfl⟩
  dp := fun d hd => by
    obtain ⟨i, _, rfl⟩ := List.mem_map.mp hd
    unfold D.dep Ru.d nI
    simp [D.pd, D.pds, PyData.depth, PyData.depthAll]
    omega
theorem ssOk_rus {B : Nat} (hB : 4 ≤ B) {qs : List Ru} (h : ∀ q ∈ qs, sgn q.w) (hl : qs.length ≤ 1200) : SsOk B (qs.map Ru.d) :=
  ssOk_of (by simpa using hl) (.inl (List.all_eq_true.mpr fun d hd => by
    obtain ⟨i, _, rfl⟩ := List.mem_map.mp hd
    simp [Ru.d, tupF, nI, atomD])) (srtOk_rus hB h)
theorem ssD_rus (qs : List Ru) : ∃ us : List Ru, ssD (qs.map Ru.d) = us.map Ru.d ∧ us.Nodup ∧ us.length ≤ qs.length ∧ ∀ q, q ∈ us ↔ q ∈ qs := by
  obtain ⟨us, hu, _⟩ := rus_of (P := fun _ => True) (ds := ssD (qs.map Ru.d)) fun d hd => by
    obtain ⟨n, _, e⟩ := List.mem_map.mp (ssD_mem.mp hd)
    exact ⟨n, e.symm, trivial⟩
  refine ⟨us, hu, ?_, ?_, fun q => ?_⟩
  · have h := ssD_nodup (qs.map Ru.d)
    rw [hu] at h
    exact (List.pairwise_map.mp h).imp fun h e => h (by rw [e])
  · have h := ssD_len (qs.map Ru.d)
    rw [hu] at h
    simpa using h
  · rw [← Ru.d_mem, ← hu, ssD_mem, Ru.d_mem]
structure Fm (m : Nat) (st en : List Nat) (ru : List Ru) : Prop where
  m64 : m ≤ 64
  stm : ∀ k ∈ st, k < m
  enm : ∀ k ∈ en, k < m
  rum : ∀ q ∈ ru, q.k < m ∧ q.i < m ∧ q.r < m ∧ sgn q.w
  sl : st.length ≤ 64
  el : en.length ≤ 64
  rl : ru.length ≤ 1200
inductive Lv (en : List Nat) (ru : List Ru) : Nat → Prop
  | en {k} : k ∈ en → Lv en ru k
  | ru {q} : q ∈ ru → Lv en ru q.i → Lv en ru q.r → Lv en ru q.k
end G9

namespace G9
open PySem PySem.Spec PyProof.Rows L2
section
variable {g : D → Env → Option Env} {body : Env → Out} {ks : List Nat}
theorem runFor_map {σ α : Type} (f : α → D) (E : σ → Env) (step : σ → α → σ) (Q : σ → Prop) : ∀ (as : List α) (s : σ),
    (∀ s a, a ∈ as → Q s → turn g body ks (f a) (E s) = .nx (E (step s a)) ∧ Q (step s a)) → Q s →
    runFor g body ks (as.map f) (E s) = .nx (E (as.foldl step s)) ∧ Q (as.foldl step s)
  | [], s, _, hq => ⟨rfl, hq⟩
  | a :: as, s, h, hq => by
    obtain ⟨ht, hq2⟩ := h s a List.mem_cons_self hq
    rw [List.map_cons, runFor_turn, ht]
    exact runFor_map f E step Q as (step s a) (fun s x hx => h s x (List.mem_cons_of_mem _ hx)) hq2
end
def kset (ks : List Nat) : List (D × D) := ks.map fun k => (nI k, .bl true)
theorem kset_val (ks : List Nat) (k : Nat) : valD (kset ks) (nI k) = if k ∈ ks then some (.bl true) else none := by
  induction ks with
  | nil => rfl
  | cons x ks ih =>
    show valD ((nI x, .bl true) :: kset ks) (nI k) = _
    rw [valD_cons, ih]
    by_cases h : x = k
    · subst h
      rw [if_pos rfl, if_pos List.mem_cons_self]
    · have h2 : ¬ nI x = nI k := fun e => h (nI_inj e)
      rw [if_neg h2]
      by_cases h3 : k ∈ ks
      · rw [if_pos h3, if_pos (List.mem_cons_of_mem _ h3)]
      · rw [if_neg h3, if_neg fun z => (List.mem_cons.mp z).elim (fun e => h e.symm) h3]
def addK (ks : List Nat) (k : Nat) : List Nat := if k ∈ ks then ks else ks ++ [k]
theorem addK_mem {ks : List Nat} {k j : Nat} : j ∈ addK ks k ↔ j = k ∨ j ∈ ks := by
  unfold addK
  split
  · exact ⟨.inr, fun h => h.elim (fun e => e ▸ by assumption) id⟩
  · simp [Or.comm]
theorem addK_nodup {ks : List Nat} {k : Nat} (h : ks.Nodup) : (addK ks k).Nodup := by
  unfold addK
  split
  · exact h
  · rename_i hn
    exact List.nodup_append.mpr ⟨h, List.nodup_cons.mpr ⟨List.not_mem_nil, List.nodup_nil⟩, fun a ha b hb e => hn (by rw [List.mem_singleton.mp hb] at e; exact e ▸ ha)⟩
theorem kset_put (ks : List Nat) (k : Nat) : putD (kset ks) (nI k) (.bl true) = kset (addK ks k) := by
  unfold addK
  by_cases h : k ∈ ks
  · rw [if_pos h]
    unfold putD
    split
    · have e : ∀ p ∈ kset ks, (if pr (p.1 = nI k) = true then (p.1, D.bl true) else p) = p := fun p hp => by
        obtain ⟨x, _, rfl⟩ := List.mem_map.mp hp
        split <;> rfl
      conv => rhs; rw [← List.map_id (kset ks)]
      exact List.map_congr_left e
    · rename_i hn
      exfalso
      apply hn
      exact List.any_eq_true.mpr ⟨(nI k, .bl true), List.mem_map.mpr ⟨k, h, rfl⟩, by rw [pr_eq]⟩
  · rw [if_neg h, putD_new (by rw [kset_val, if_neg h])]
    unfold kset
    rw [List.map_append]
    rfl
@[simp] theorem kset_imms (ks : List Nat) : D.imms ((kset ks).map (·.2)) = true := by
  induction ks with
  | nil => rfl
  | cons x ks ih => show D.imms (.bl true :: (kset ks).map (·.2)) = true; simp [ih]
@[simp] theorem kset_len (ks : List Nat) : (kset ks).length = ks.length := List.length_map _
@[simp] theorem kset_keys (ks : List Nat) : keysD (kset ks) = ks.map nI := by
  unfold keysD kset
  rw [List.map_map]
  rfl
@[simp] theorem nI_kAtom {m : Env → Res D} {env : Env} {k : Nat} (h : m env = .ok (nI k)) : kAtom m env = .ok (nI k) := by
  rw [kAtom_d, h]
  rfl
@[simp] theorem nI_imm (k : Nat) : (nI k).imm = true := (rfl)
@[simp] theorem gInQ_nt (neg : Bool) (k : Nat) (en : List Nat) : gInQ neg (nI k) (.tup (en.map nI)) = .ok (.bl (if neg = true then !decide (k ∈ en) else decide (k ∈ en))) := by
  have e : decide ((k : Int) ∈ en.map fun n : Nat => (n : Int)) = decide (k ∈ en) := by
    rw [decide_eq_decide, List.mem_map]
    exact ⟨fun ⟨a, h, e⟩ => by have : a = k := by omega
                               exact this ▸ h, fun h => ⟨k, h, rfl⟩⟩
  rw [nI_map, nI, gInQ_ti, e]
@[simp] theorem gInQ_nl (neg : Bool) (k : Nat) (en : List Nat) : gInQ neg (nI k) (.lst (en.map nI)) = .ok (.bl (if neg = true then !decide (k ∈ en) else decide (k ∈ en))) := gInQ_nt neg k en
theorem rng_nI (m : Nat) : rngD 0 m = (List.range m).map nI := rngD_map m
theorem lt_len {m : Nat} {ks : List Nat} (nd : ks.Nodup) (h : ∀ k ∈ ks, k < m) : ks.length ≤ m := by
  have := nat_nodup_len ks (List.range m) nd fun k hk => List.mem_range.mpr (h k hk)
  simpa using this
structure Ps (en : List Nat) (ru : List Ru) (ks : List Nat) : Prop where
  nd : ks.Nodup
  lv : ∀ k ∈ ks, Lv en ru k
  en : ∀ k ∈ en, k ∈ ks
def LiveL (en : List Nat) (ru : List Ru) (ls : List Nat) : Prop := ls.Pairwise (· < ·) ∧ ∀ k, k ∈ ls ↔ Lv en ru k
theorem LiveL.one {en : List Nat} {ru : List Ru} {a b : List Nat} (h1 : LiveL en ru a) (h2 : LiveL en ru b) : a = b := rising_eq h1.1 h2.1 fun x => (h1.2 x).trans (h2.2 x).symm
end G9

namespace G9
open PySem PySem.Spec PyProof.Rows L2
theorem gEq_nil {B : Nat} {xs : List D} (h : D.lays xs = true) (hd : (D.lst xs).dep ≤ B) : gEq B (.lst xs) (.lst []) = .ok (.bl xs.isEmpty) := by
  unfold gEq eqD
  have e : scalD (.lst xs) (.lst []) = none := rfl
  rw [e]
  dsimp only
  rw [if_pos ⟨by rw [D.lay]; exact h, by rw [D.lay, D.lays], .inl hd⟩]
  cases xs with
  | nil => rfl
  | cons x xs => rfl
theorem runLc_maps {α β : Type} {g : D → Env → Option Env} {m : Env → Res D} {e0 : Env} (F : α → D) (G : β → D) (f : α → β) : ∀ as : List α, (∀ a ∈ as, ∃ e1, g (F a) e0 = some e1 ∧ m e1 = .ok (G (f a)) ∧ (G (f a)).imm = true) → runLc g cYes m e0 (as.map F) = .ok ((as.map f).map G)
  | [], _ => rfl
  | a :: as, h => by
    obtain ⟨e1, h1, h3, h4⟩ := h a List.mem_cons_self
    have ih := runLc_maps F G f as fun x hx => h x (List.mem_cons_of_mem _ hx)
    simp only [List.map_cons, runLc, h1, cYes_d, h3, h4, ih]
    rfl
theorem Ru.imm (q : Ru) : q.d.imm = true := by simp [Ru.d, nI]
theorem FmD_imm (m : Nat) (s e : List Nat) (r : List Ru) : (FmD m s e r).imm = true := by simp [FmD, nI, nI_imms, Ru.imms]
end G9

namespace G9
open PySem PySem.Spec PyProof.Rows L2
structure Tr where
  w : Wd
  i : Nat
  r : Nat
def Tr.d (t : Tr) : D := .tup [.str t.w, nI t.i, nI t.r]
theorem Tr.d_inj (a b : Tr) (h : a.d = b.d) : a = b := by
  obtain ⟨w, i, r⟩ := a
  obtain ⟨w2, i2, r2⟩ := b
  simp only [Tr.d, D.tup.injEq, List.cons.injEq, D.str.injEq, and_true] at h
  obtain ⟨h2, h3, h4⟩ := h
  rw [h2, nI_inj h3, nI_inj h4]
theorem Tr.imm (t : Tr) : t.d.imm = true := by simp [Tr.d, nI]
theorem Tr.imms (ts : List Tr) : D.imms (ts.map Tr.d) = true := by
  rw [imms_all]
  exact List.all_eq_true.mpr fun d hd => by
    obtain ⟨t, _, rfl⟩ := List.mem_map.mp hd
    exact t.imm
end G9

namespace G9
open PySem PySem.Spec PyProof.Rows L2
def sumR (m : Nat) (f : Nat → Nat) : Nat := ((List.range m).map f).sum
def nc (m : Nat) (g : Nat → Option Nat) : Nat := sumR m fun k => if (g k).isNone then 1 else 0
def sv (m : Nat) (g : Nat → Option Nat) : Nat := sumR m fun k => (g k).getD 0
def Less (m : Nat) (h g : Nat → Option Nat) : Prop := nc m h < nc m g ∨ (nc m h = nc m g ∧ sv m h < sv m g)
theorem Less.trans {m : Nat} {a b c : Nat → Option Nat} (h1 : Less m a b) (h2 : Less m b c) : Less m a c := by
  unfold Less at *
  omega
structure Fw (m : Nat) (en : List Nat) (ru : List Ru) (g : Nat → Option Nat) : Prop where
  ends : ∀ k ∈ en, g k = some 0
  out : ∀ k, m ≤ k → g k = none
  by' : ∀ k v, g k = some v → k ∉ en → 1 ≤ v ∧ ∃ q ∈ ru, q.k = k ∧ ∃ a c, g q.i = some a ∧ g q.r = some c ∧ 1 + a + c ≤ v
end G9

namespace G9
open PySem PySem.Spec PyProof.Rows L2
inductive Gr where
  | nil
  | nd (t : Wd) (a b : Gr)
def Gr.ws : Gr → List Wd
  | .nil => []
  | .nd t a b => t :: (a.ws ++ [47] :: b.ws)
def Gr.ok : Gr → Prop
  | .nil => True
  | .nd t a b => t ≠ [47] ∧ a.ok ∧ b.ok
def Gr.app : Gr → Gr → Gr
  | .nil, v => v
  | .nd t a b, v => .nd t a (b.app v)
theorem Gr.opn : ∀ (g : Gr), g.ok → ∀ n, G9.opn n g.ws = some n
  | .nil, _, n => rfl
  | .nd t a b, ⟨h1, h2, h3⟩, n => by
    show G9.opn n (t :: (a.ws ++ [47] :: b.ws)) = _
    rw [opn_word h1, opn_app, Gr.opn a h2]
    exact Gr.opn b h3 n
theorem end_cut {a b c d : List Wd} (ha : ∀ n, opn n a = some n) (hb : ∀ n, opn n b = some n) (e : a ++ [47] :: c = b ++ [47] :: d) : a = b ∧ c = d := by
  have key : ∀ {a b c d : List Wd}, opn 0 a = some 0 → opn 0 b = some 0 → a ++ [47] :: c = b ++ [47] :: d → a.length ≤ b.length := by
    intro a b c d ha hb e
    refine Nat.le_of_not_lt fun hl => ?_
    have h1 : a = b ++ [47] :: (a.drop (b.length + 1)) := by
      have h2 := congrArg (List.take a.length) e
      rw [List.take_left] at h2
      have h3 : a.length = b.length + ((a.length - b.length - 1) + 1) := by omega
      rw [h3, List.take_append, List.take_of_length_le (by omega), Nat.add_sub_cancel_left, List.take_succ_cons] at h2
      rw [h2]
      congr 1
      congr 1
      rw [List.drop_append, List.drop_of_length_le (by omega), Nat.add_sub_cancel_left]
      rfl
    rw [h1, opn_app, hb] at ha
    cases ha
  have hl : a.length = b.length := Nat.le_antisymm (key (ha 0) (hb 0) e) (key (hb 0) (ha 0) e.symm)
  obtain ⟨h1, h2⟩ := List.append_inj e hl
  exact ⟨h1, (List.cons.inj h2).2⟩
theorem Gr.inj : ∀ (g h : Gr), g.ok → h.ok → g.ws = h.ws → g = h
  | .nil, .nil, _, _, _ => rfl
  | .nil, .nd _ _ _, _, _, e => by cases e
  | .nd _ _ _, .nil, _, _, e => by cases e
  | .nd t a b, .nd t' a' b', ⟨_, h2, h3⟩, ⟨_, h5, h6⟩, e => by
    obtain ⟨e1, e2⟩ := List.cons.inj (show t :: (a.ws ++ [47] :: b.ws) = t' :: (a'.ws ++ [47] :: b'.ws) from e)
    obtain ⟨e3, e4⟩ := end_cut (Gr.opn a h2) (Gr.opn a' h5) e2
    rw [e1, Gr.inj a a' h2 h5 e3, Gr.inj b b' h3 h6 e4]
def Kd (R : List Ru) (E : List Nat) : Gr → (Nat → Prop) → Nat → Prop
  | .nil, S, k => S k
  | .nd t a b, S, k => ∃ q ∈ R, q.k = k ∧ q.w = t ∧ Kd R E a (fun j => j ∈ E) q.i ∧ Kd R E b S q.r
theorem Kd.mono {R : List Ru} {E : List Nat} : ∀ {g : Gr} {S S' : Nat → Prop} {k : Nat}, (∀ j, S j → S' j) → Kd R E g S k → Kd R E g S' k
  | .nil, _, _, _, h, x => h _ x
  | .nd _ _ _, _, _, _, h, ⟨q, hq, e1, e2, a, b⟩ => ⟨q, hq, e1, e2, a, Kd.mono h b⟩
theorem Kd.app {R : List Ru} {E : List Nat} : ∀ {u v : Gr} {S : Nat → Prop} {k : Nat}, Kd R E (u.app v) S k ↔ Kd R E u (Kd R E v S) k
  | .nil, v, S, k => Iff.rfl
  | .nd t a b, v, S, k => by
    constructor
    · rintro ⟨q, hq, e1, e2, x, y⟩
      exact ⟨q, hq, e1, e2, x, Kd.app.mp y⟩
    · rintro ⟨q, hq, e1, e2, x, y⟩
      exact ⟨q, hq, e1, e2, x, Kd.app.mpr y⟩
theorem Kd.ext {R R' : List Ru} {E E' : List Nat} (hR : ∀ q, q ∈ R ↔ q ∈ R') (hE : ∀ k, k ∈ E ↔ k ∈ E') : ∀ {g : Gr} {S S' : Nat → Prop} {k : Nat}, (∀ j, S j ↔ S' j) → (Kd R E g S k ↔ Kd R' E' g S' k)
  | .nil, _, _, _, h => h _
  | .nd _ _ _, _, _, _, h => by
    constructor
    · rintro ⟨q, hq, e1, e2, x, y⟩
      exact ⟨q, (hR q).mp hq, e1, e2, (Kd.ext hR hE hE).mp x, (Kd.ext hR hE h).mp y⟩
    · rintro ⟨q, hq, e1, e2, x, y⟩
      exact ⟨q, (hR q).mpr hq, e1, e2, (Kd.ext hR hE hE).mpr x, (Kd.ext hR hE h).mpr y⟩
def Fit (st en : List Nat) (ru : List Ru) (g : Gr) : Prop := ∃ k ∈ st, Kd ru en g (fun j => j ∈ en) k
theorem Fit.ext {st en st' en' : List Nat} {ru ru' : List Ru} {g : Gr} (h1 : ∀ k, k ∈ st ↔ k ∈ st') (h2 : ∀ k, k ∈ en ↔ k ∈ en') (h3 : ∀ q, q ∈ ru ↔ q ∈ ru') : Fit st en ru g ↔ Fit st' en' ru' g := by
  unfold Fit
  constructor
  · rintro ⟨k, hk, x⟩
    exact ⟨k, (h1 k).mp hk, (Kd.ext h3 h2 h2).mp x⟩
  · rintro ⟨k, hk, x⟩
    exact ⟨k, (h1 k).mpr hk, (Kd.ext h3 h2 h2).mpr x⟩
noncomputable def nss (ns : List Nat) : List Nat := Classical.choose (ssD_nats ns)
theorem nss_eq (ns : List Nat) : ssD (ns.map nI) = (nss ns).map nI := (Classical.choose_spec (ssD_nats ns)).1
theorem nss_rise (ns : List Nat) : (nss ns).Pairwise (· < ·) := (Classical.choose_spec (ssD_nats ns)).2.1
theorem nss_mem {ns : List Nat} {k : Nat} : k ∈ nss ns ↔ k ∈ ns := (Classical.choose_spec (ssD_nats ns)).2.2 k
theorem nss_len (ns : List Nat) : (nss ns).length ≤ ns.length := by
  have h := ssD_len (ns.map nI)
  rw [nss_eq] at h
  simpa using h
noncomputable def kin (R : List Ru) (t : Wd) (S B : List Nat) : List Nat := nss ((R.filter fun q => decide (q.w = t ∧ q.i ∈ S ∧ q.r ∈ B)).map (·.k))
theorem kin_mem {R : List Ru} {t : Wd} {S B : List Nat} {k : Nat} : k ∈ kin R t S B ↔ ∃ q ∈ R, q.k = k ∧ q.w = t ∧ q.i ∈ S ∧ q.r ∈ B := by
  unfold kin
  rw [nss_mem, List.mem_map]
  constructor
  · rintro ⟨q, hq, e⟩
    obtain ⟨h1, h2⟩ := List.mem_filter.mp hq
    exact ⟨q, h1, e, by simpa using h2⟩
  · rintro ⟨q, hq, e, h⟩
    exact ⟨q, List.mem_filter.mpr ⟨hq, by simpa using h⟩, e⟩
theorem kin_len {R : List Ru} {t : Wd} {S B : List Nat} : (kin R t S B).length ≤ R.length := by
  refine Nat.le_trans (nss_len _) ?_
  rw [List.length_map]
  exact List.length_filter_le _ _
end G9

namespace G9
open PySem PySem.Spec PyProof.Rows L2
def Gr.row : Gr → List D
  | .nil => []
  | .nd t a b => .tup [.str t, .tup a.row] :: b.row
def Gr.dep : Gr → Nat
  | .nil => 0
  | .nd t a b => max (a.dep + 1) b.dep
end G9

namespace G9
open PySem PySem.Spec PyProof.Rows L2
def Gr.sz : Gr → Nat
  | .nil => 0
  | .nd _ a b => 1 + a.sz + b.sz
section
variable {α β : Type} (cut : α → Nat) (put : β → Nat) (sub : α → β → Nat)
inductive Alg : List α → List β → Nat → Prop
  | nil : Alg [] [] 0
  | cut {x xs ys n} : Alg xs ys n → Alg (x :: xs) ys (n + cut x)
  | put {y xs ys n} : Alg xs ys n → Alg xs (y :: ys) (n + put y)
  | sub {x y xs ys n} : Alg xs ys n → Alg (x :: xs) (y :: ys) (sub x y + n)
variable {cut put sub}
theorem Alg.app {xs : List α} {ys : List β} {n : Nat} (h : Alg cut put sub xs ys n) {xs2 : List α} {ys2 : List β} {m : Nat} (h2 : Alg cut put sub xs2 ys2 m) : Alg cut put sub (xs ++ xs2) (ys ++ ys2) (n + m) := by
  induction h with
  | nil => rw [Nat.zero_add]; exact h2
  | @cut x xs ys n _ ih => have := Alg.cut (put := put) (sub := sub) (cut := cut) (x := x) ih; rw [show n + cut x + m = n + m + cut x by omega]; exact this
  | @put y xs ys n _ ih => have := Alg.put (put := put) (sub := sub) (cut := cut) (y := y) ih; rw [show n + put y + m = n + m + put y by omega]; exact this
  | @sub x y xs ys n _ ih => have := Alg.sub (put := put) (sub := sub) (cut := cut) (x := x) (y := y) ih; rw [show sub x y + n + m = sub x y + (n + m) by omega]; exact this
end
def Gr.lst : Gr → List (Wd × Gr)
  | .nil => []
  | .nd t a b => (t, a) :: b.lst
def Gr.al (P : Wd → Prop) : Gr → Prop
  | .nil => True
  | .nd t a b => P t ∧ a.al P ∧ b.al P
theorem Gr.row_imm : ∀ g : Gr, D.imms g.row = true
  | .nil => by show D.imms [] = true; simp
  | .nd t a b => by
    have h1 := Gr.row_imm a
    have h2 := Gr.row_imm b
    show D.imms (.tup [.str t, .tup a.row] :: b.row) = true
    simp [h1, h2]
noncomputable instance decGr : DecidableEq Gr := fun a b => Classical.propDecidable _
end G9

namespace G9
open PySem PySem.Spec PyProof.Rows L2
inductive Ed where
  | fin (w : Gr)
  | cut (w : Gr) (r : Ed)
  | keep (w : Gr) (u : Option Wd) (i r : Ed)
inductive Ch where
  | put (p : Nat) (t : Wd) (k : Gr)
  | name (p : Nat) (t : Wd)
  | cut (p : Nat)
def Ch.d : Ch → D
  | .put p t k => .tup [.str [112, 117, 116], .int p, .tup [.str t, .tup k.row]]
  | .name p t => .tup [.str [110, 97, 109, 101], .int p, .str t]
  | .cut p => .tup [.str [99, 117, 116], .int p]
theorem Ch.imm : ∀ c : Ch, c.d.imm = true
  | .put p t k => by have := Gr.row_imm k; simp [Ch.d, this]
  | .name p t => by simp [Ch.d]
  | .cut p => by simp [Ch.d]
def names (u : Option Wd) (p : Nat) : List Ch := match u with
  | none => []
  | some t => [.name p t]
def Ed.al (P : Wd → Prop) : Ed → Prop
  | .fin w => w.al P
  | .cut w r => w.al P ∧ r.al P
  | .keep w u i r => w.al P ∧ (∀ t, u = some t → P t) ∧ i.al P ∧ r.al P
end G9

namespace G9
open PySem PySem.Spec PyProof.Rows L2
inductive C2 where
  | put (p : Int) (t : Wd) (k : Gr)
  | name (p : Int) (t : Wd)
  | cut (p : Int)
def C2.d : C2 → D
  | .put p t k => .tup [.str [112, 117, 116], .int p, .tup [.str t, .tup k.row]]
  | .name p t => .tup [.str [110, 97, 109, 101], .int p, .str t]
  | .cut p => .tup [.str [99, 117, 116], .int p]
def C2.p : C2 → Int
  | .put p _ _ => p
  | .name p _ => p
  | .cut p => p
def C2.non : C2 → Bool
  | .put _ _ _ => false
  | _ => true
def C2.tg : C2 → Prop
  | .name _ t => Tg t
  | _ => True
def C2.w : C2 → Nat
  | .put _ _ k => 1 + k.sz
  | _ => 0
def Ch.c2 : Ch → C2
  | .put p t k => .put p t k
  | .name p t => .name p t
  | .cut p => .cut p
theorem C2.imm : ∀ c : C2, c.d.imm = true
  | .put p t k => by have := Gr.row_imm k; simp [C2.d, this]
  | .name p t => by simp [C2.d]
  | .cut p => by simp [C2.d]
def Ch.w : Ch → Nat
  | .put _ _ k => 1 + k.sz
  | _ => 0
end G9

namespace G9
open PySem PySem.Spec PyProof.Rows L2
structure Wp (m : Nat) (ru : List Ru) (mn g0 g : Nat → Option Nat) : Prop where
  mono : ∀ k v, g0 k = some v → ∃ w, g k = some w ∧ w ≤ v
  out : ∀ k, m ≤ k → g k = none
  live : ∀ k, g k ≠ none → mn k ≠ none
  by' : ∀ k v, g k = some v → g0 k = some v ∨ ∃ q ∈ ru, q.k = k ∧ ∃ a c, mn q.i = some a ∧ g q.r = some c ∧ 1 + a + c ≤ v
structure Kp (qs : List Ru) (n : Ru → Nat) (A B g0 g : Nat → Option Nat) : Prop where
  mono : ∀ k v, g0 k = some v → ∃ w, g k = some w ∧ w ≤ v
  cl : ∀ q ∈ qs, ∀ a c, A q.i = some a → B q.r = some c → ∃ w, g q.k = some w ∧ w ≤ n q + a + c
  by' : ∀ k v, g k = some v → g0 k = some v ∨ ∃ q ∈ qs, q.k = k ∧ ∃ a c, A q.i = some a ∧ B q.r = some c ∧ v = n q + a + c
end G9

namespace G9
open PySem PySem.Spec PyProof.Rows L2
structure Lo (mn g : Nat → Option Nat) : Prop where
  lo : ∀ k v, g k = some v → ∃ w, mn k = some w ∧ w ≤ v
end G9

namespace G9
open PySem PySem.Spec PyProof.Rows L2
abbrev PrN := Nat × Nat
theorem pns_len {l : List PrN} (nd : l.Nodup) (h : ∀ p ∈ l, p.1 < 64 ∧ p.2 < 64) : l.length ≤ 4096 := by
  have nd2 : (l.map fun p => p.1 * 64 + p.2).Nodup := by
    refine List.pairwise_map.mpr ?_
    have : ∀ (l : List PrN), l.Nodup → (∀ p ∈ l, p.1 < 64 ∧ p.2 < 64) → l.Pairwise fun a b => a.1 * 64 + a.2 ≠ b.1 * 64 + b.2 := by
      intro l
      induction l with
      | nil => exact fun _ _ => List.Pairwise.nil
      | cons x l ih =>
        intro nd h
        obtain ⟨n1, n2⟩ := List.nodup_cons.mp nd
        refine List.pairwise_cons.mpr ⟨fun y hy e => ?_, ih n2 fun p hp => h p (List.mem_cons_of_mem _ hp)⟩
        have hx := h x List.mem_cons_self
        have hy2 := h y (List.mem_cons_of_mem _ hy)
        have : x = y := by
          obtain ⟨x1, x2⟩ := x
          obtain ⟨y1, y2⟩ := y
          simp only at *
          have e1 : x1 = y1 := by omega
          have e2 : x2 = y2 := by omega
          rw [e1, e2]
        exact n1 (this ▸ hy)
    exact this l nd h
  have := nat_nodup_len _ (List.range 4096) nd2 fun k hk => by
    obtain ⟨p, hp, rfl⟩ := List.mem_map.mp hk
    obtain ⟨h1, h2⟩ := h p hp
    exact List.mem_range.mpr (by omega)
  simpa using this
theorem strs_imm (l : List Wd) : D.imms (l.map D.str) = true := imms_map (fun _ => rfl) l
mutual
theorem lkb_of : ∀ d : D, d.imm = true → d.lkb = true
  | .ldt _, h => by rw [D.imm] at h; cases h
  | .ldk _, h => by rw [D.imm] at h; cases h
  | .lst xs, h => by rw [D.imm] at h; cases h
  | .tup xs, h => by rw [D.lkb]; exact lkbs_of xs (by rw [D.imm] at h; exact h)
  | .dic _ _, h => by rw [D.imm] at h; cases h
  | .obj _ _ _, h => by rw [D.imm] at h; cases h
  | .non, _ => rfl
  | .bl _, _ => rfl
  | .int _, _ => rfl
  | .str _, _ => rfl
  | .scr xs, h => by rw [D.imm] at h; rw [D.lkb]; exact h
  | .unk, _ => rfl
  | .exn _, _ => rfl
  | .kt xs, h => by rw [D.imm] at h; rw [D.lkb]; exact h
theorem lkbs_of : ∀ xs : List D, D.imms xs = true → D.lkbs xs = true
  | [], _ => rfl
  | x :: xs, h => by
    rw [imms_cons, Bool.and_eq_true] at h
    rw [D.lkbs, lkb_of x h.1, lkbs_of xs h.2]; rfl
end
theorem lk_lst {xs : List D} (h : D.imms xs = true) : (D.lst xs).lkb = true ∧ scrD (.lst xs) = .scr xs := by
  refine ⟨by rw [D.lkb]; exact lkbs_of xs h, by rw [scrD, scrDs_imm xs h]⟩
theorem runLc_fl {α β : Type} {g : D → Env → Option Env} {c : Env → Res Bool} {m : Env → Res D} {e0 : Env} (F : α → D) (G : β → D) (p : α → Bool) (f : α → β) : ∀ as : List α, (∀ a ∈ as, ∃ e1, g (F a) e0 = some e1 ∧ c e1 = .ok (p a) ∧ (p a = true → m e1 = .ok (G (f a)) ∧ (G (f a)).imm = true)) → runLc g c m e0 (as.map F) = .ok (((as.filter p).map f).map G)
  | [], _ => rfl
  | a :: as, h => by
    obtain ⟨e1, h1, h2, h3⟩ := h a List.mem_cons_self
    have ih := runLc_fl F G p f as fun x hx => h x (List.mem_cons_of_mem _ hx)
    cases hp : p a with
    | true =>
      obtain ⟨h4, h5⟩ := h3 hp
      rw [hp] at h2
      simp only [List.map_cons, runLc, h1, h2, h4, h5, ih, List.filter_cons, hp, if_true]
      rfl
    | false =>
      rw [hp] at h2
      simp only [List.map_cons, runLc, h1, h2, ih, List.filter_cons, hp]
      rfl
abbrev Lvl := List PrN
def okL (m : Nat) (l : Lvl) : Prop := l.Nodup ∧ ∀ p ∈ l, p.1 < m ∧ p.2 < m
theorem okL.len {m : Nat} (hm : m ≤ 64) {l : Lvl} (h : okL m l) : l.length ≤ 4096 := pns_len h.1 fun p hp => by have := h.2 p hp; omega
end G9

namespace Lw
open PySem PySem.Spec PyProof.Rows L2 G9
def topS (i : Nat) : Stmt := PySem.Challenge.pw_formgrove_k51_values_of_groves.main.body.getD i (.Pass ⟨0, 0, 0, 0⟩)
def clsS (i j : Nat) : Stmt := match topS i with
  | .ClassDef (body := b) .. => b.getD j (.Pass ⟨0, 0, 0, 0⟩)
  | _ => .Pass ⟨0, 0, 0, 0⟩
abbrev s_Kinds___init__ : Stmt := clsS 4 0
abbrev N_Kinds___init__ : List Str := ["self", "one"]
abbrev P_Kinds___init__ : List Str := ["self", "one"]
theorem sc_Kinds___init__ : FnScope N_Kinds___init__ P_Kinds___init__ (defScope s_Kinds___init__) := ⟨rfl, rfl, rfl, by decide +kernel, rfl, by decide +kernel, by decide +kernel⟩
abbrev s__law_cell : Stmt := topS 7
abbrev N__law_cell : List Str := ["_law_script", "_law_k"]
abbrev P__law_cell : List Str := ["_law_script", "_law_k"]
theorem sc__law_cell : FnScope N__law_cell P__law_cell (defScope s__law_cell) := ⟨rfl, rfl, rfl, by decide +kernel, rfl, by decide +kernel, by decide +kernel⟩
abbrev s__law_tag : Stmt := topS 8
abbrev N__law_tag : List Str := ["_law_seed", "_law_v", "_law_letters", "_law_many", "_law_at", "_law_more", "_law_word", "_law_j", "_law_sign"]
abbrev P__law_tag : List Str := ["_law_seed", "_law_v"]
theorem sc__law_tag : FnScope N__law_tag P__law_tag (defScope s__law_tag) := ⟨rfl, rfl, rfl, by decide +kernel, rfl, by decide +kernel, by decide +kernel⟩
abbrev s__law_shape : Stmt := topS 9
abbrev N__law_shape : List Str := ["_law_script", "_law_side", "_law_cell_here", "_law_many", "_law_turn", "_law_tails", "_law_k", "_law_heads", "_law_rules", "_law_drawn", "_law_word"]
abbrev P__law_shape : List Str := ["_law_script", "_law_side"]
theorem sc__law_shape : FnScope N__law_shape P__law_shape (defScope s__law_shape) := ⟨rfl, rfl, rfl, by decide +kernel, rfl, by decide +kernel, by decide +kernel⟩
abbrev s__law_words : Stmt := topS 10
abbrev N__law_words : List Str := ["_law_script", "_law_first", "_law_last", "_law_seed", "_law_rare", "_law_words_here", "_law_opened", "_law_k", "_law_cell_here"]
abbrev P__law_words : List Str := ["_law_script", "_law_first", "_law_last"]
theorem sc__law_words : FnScope N__law_words P__law_words (defScope s__law_words) := ⟨rfl, rfl, rfl, by decide +kernel, rfl, by decide +kernel, by decide +kernel⟩
abbrev s_Kinds_nothing : Stmt := clsS 4 1
abbrev N_Kinds_nothing : List Str := ["self"]
abbrev P_Kinds_nothing : List Str := ["self"]
theorem sc_Kinds_nothing : FnScope N_Kinds_nothing P_Kinds_nothing (defScope s_Kinds_nothing) := ⟨rfl, rfl, rfl, by decide +kernel, rfl, by decide +kernel, by decide +kernel⟩
abbrev s_kinds_ahead : Stmt := topS 1
abbrev N_kinds_ahead : List Str := ["one", "tag", "inner", "rest", "found", "kind", "name", "within", "behind"]
abbrev P_kinds_ahead : List Str := ["one", "tag", "inner", "rest"]
theorem sc_kinds_ahead : FnScope N_kinds_ahead P_kinds_ahead (defScope s_kinds_ahead) := ⟨rfl, rfl, rfl, by decide +kernel, rfl, by decide +kernel, by decide +kernel⟩
abbrev s_Kinds_above : Stmt := clsS 4 2
abbrev N_Kinds_above : List Str := ["self", "tag", "inner", "rest"]
abbrev P_Kinds_above : List Str := ["self", "tag", "inner", "rest"]
theorem sc_Kinds_above : FnScope N_Kinds_above P_Kinds_above (defScope s_Kinds_above) := ⟨rfl, rfl, rfl, by decide +kernel, rfl, by decide +kernel, by decide +kernel⟩
abbrev s__law_above : Stmt := topS 11
abbrev N__law_above : List Str := ["_law_other", "_law_word", "_law_inner", "_law_rest", "_law_some", "_law_rule"]
abbrev P__law_above : List Str := ["_law_other", "_law_word", "_law_inner", "_law_rest"]
theorem sc__law_above : FnScope N__law_above P__law_above (defScope s__law_above) := ⟨rfl, rfl, rfl, by decide +kernel, rfl, by decide +kernel, by decide +kernel⟩
abbrev s__law_numbers : Stmt := topS 12
abbrev N__law_numbers : List Str := ["_law_found", "_law_due", "_law_k"]
abbrev P__law_numbers : List Str := ["_law_found", "_law_due"]
theorem sc__law_numbers : FnScope N__law_numbers P__law_numbers (defScope s__law_numbers) := ⟨rfl, rfl, rfl, by decide +kernel, rfl, by decide +kernel, by decide +kernel⟩
abbrev s_Kinds_good : Stmt := clsS 4 3
abbrev N_Kinds_good : List Str := ["self", "value", "kind"]
abbrev P_Kinds_good : List Str := ["self", "value"]
theorem sc_Kinds_good : FnScope N_Kinds_good P_Kinds_good (defScope s_Kinds_good) := ⟨rfl, rfl, rfl, by decide +kernel, rfl, by decide +kernel, by decide +kernel⟩
abbrev s_Others_good : Stmt := clsS 5 0
abbrev N_Others_good : List Str := ["self", "value"]
abbrev P_Others_good : List Str := ["self", "value"]
theorem sc_Others_good : FnScope N_Others_good P_Others_good (defScope s_Others_good) := ⟨rfl, rfl, rfl, by decide +kernel, rfl, by decide +kernel, by decide +kernel⟩
abbrev s__law_wanted : Stmt := topS 13
abbrev N__law_wanted : List Str := ["_law_one", "_law_plain", "_law_turned", "_law_value", "_law_good", "_law_kind", "_law_first", "_law_second"]
abbrev P__law_wanted : List Str := ["_law_one", "_law_plain", "_law_turned", "_law_value"]
theorem sc__law_wanted : FnScope N__law_wanted P__law_wanted (defScope s__law_wanted) := ⟨rfl, rfl, rfl, by decide +kernel, rfl, by decide +kernel, by decide +kernel⟩
abbrev s__law_asked : Stmt := topS 14
abbrev N__law_asked : List Str := ["_law_one", "_law_plain", "_law_turned", "_law_words_here", "_law_now", "_law_pile", "_law_word", "_law_behind", "_law_due"]
abbrev P__law_asked : List Str := ["_law_one", "_law_plain", "_law_turned", "_law_words_here"]
theorem sc__law_asked : FnScope N__law_asked P__law_asked (defScope s__law_asked) := ⟨rfl, rfl, rfl, by decide +kernel, rfl, by decide +kernel, by decide +kernel⟩
abbrev s_law : Stmt := topS 15
abbrev N_law : List Str := ["_law_script", "_law_one", "_law_other", "_law_words_here", "_law_plain", "_law_turned", "_law_plain_two"]
abbrev P_law : List Str := ["_law_script"]
theorem sc_law : FnScope N_law P_law (defScope s_law) := ⟨rfl, rfl, rfl, by decide +kernel, rfl, by decide +kernel, by decide +kernel⟩
structure Txt (K : PySem.W.Frag) (mg : Str → Option Value) where
  a__law_cell : Addr
  d__law_cell : FuncData
  F__law_cell : Fun K "_law_cell" "_law_cell" s__law_cell a__law_cell d__law_cell
  g__law_cell : mg "_law_cell" = some (.ref a__law_cell)
  b__law_cell : Binds K d__law_cell P__law_cell []
  a__law_tag : Addr
  d__law_tag : FuncData
  F__law_tag : Fun K "_law_tag" "_law_tag" s__law_tag a__law_tag d__law_tag
  g__law_tag : mg "_law_tag" = some (.ref a__law_tag)
  b__law_tag : Binds K d__law_tag P__law_tag []
  a__law_shape : Addr
  d__law_shape : FuncData
  F__law_shape : Fun K "_law_shape" "_law_shape" s__law_shape a__law_shape d__law_shape
  g__law_shape : mg "_law_shape" = some (.ref a__law_shape)
  b__law_shape : Binds K d__law_shape P__law_shape []
  a__law_words : Addr
  d__law_words : FuncData
  F__law_words : Fun K "_law_words" "_law_words" s__law_words a__law_words d__law_words
  g__law_words : mg "_law_words" = some (.ref a__law_words)
  b__law_words : Binds K d__law_words P__law_words []
  a_kinds_ahead : Addr
  d_kinds_ahead : FuncData
  F_kinds_ahead : Fun K "kinds_ahead" "kinds_ahead" s_kinds_ahead a_kinds_ahead d_kinds_ahead
  g_kinds_ahead : mg "kinds_ahead" = some (.ref a_kinds_ahead)
  b_kinds_ahead : Binds K d_kinds_ahead P_kinds_ahead []
  a__law_above : Addr
  d__law_above : FuncData
  F__law_above : Fun K "_law_above" "_law_above" s__law_above a__law_above d__law_above
  g__law_above : mg "_law_above" = some (.ref a__law_above)
  b__law_above : Binds K d__law_above P__law_above []
  a__law_numbers : Addr
  d__law_numbers : FuncData
  F__law_numbers : Fun K "_law_numbers" "_law_numbers" s__law_numbers a__law_numbers d__law_numbers
  g__law_numbers : mg "_law_numbers" = some (.ref a__law_numbers)
  b__law_numbers : Binds K d__law_numbers P__law_numbers []
  a__law_wanted : Addr
  d__law_wanted : FuncData
  F__law_wanted : Fun K "_law_wanted" "_law_wanted" s__law_wanted a__law_wanted d__law_wanted
  g__law_wanted : mg "_law_wanted" = some (.ref a__law_wanted)
  b__law_wanted : Binds K d__law_wanted P__law_wanted []
  a__law_asked : Addr
  d__law_asked : FuncData
  F__law_asked : Fun K "_law_asked" "_law_asked" s__law_asked a__law_asked d__law_asked
  g__law_asked : mg "_law_asked" = some (.ref a__law_asked)
  b__law_asked : Binds K d__law_asked P__law_asked []
  a_law : Addr
  d_law : FuncData
  F_law : Fun K "law" "law" s_law a_law d_law
  g_law : mg "law" = some (.ref a_law)
  b_law : Binds K d_law P_law []
  z_bool : mg "bool" = none
  z_int : mg "int" = none
  z_isinstance : mg "isinstance" = none
  z_len : mg "len" = none
  z_min : mg "min" = none
  z_range : mg "range" = none
  z_reversed : mg "reversed" = none
  z_set : mg "set" = none
  z_sorted : mg "sorted" = none
  z_tuple : mg "tuple" = none
  C_Measure : Addr
  gC_Measure : mg "Measure" = some (.ref C_Measure)
  C_Kinds : Addr
  gC_Kinds : mg "Kinds" = some (.ref C_Kinds)
  C_Others : Addr
  gC_Others : mg "Others" = some (.ref C_Others)
  cn_Kinds : ClsN K "Kinds" C_Kinds
  cl_Kinds : Cls K C_Kinds
  cn_Others : ClsN K "Others" C_Others
  cl_Others : Cls K C_Others
  a_Kinds___init__ : Addr
  d_Kinds___init__ : FuncData
  F_Kinds___init__ : Fun K "__init__" "Kinds.__init__" s_Kinds___init__ a_Kinds___init__ d_Kinds___init__
  b_Kinds___init__ : Binds K d_Kinds___init__ P_Kinds___init__ []
  a_Kinds_nothing : Addr
  d_Kinds_nothing : FuncData
  F_Kinds_nothing : Fun K "nothing" "Kinds.nothing" s_Kinds_nothing a_Kinds_nothing d_Kinds_nothing
  b_Kinds_nothing : Binds K d_Kinds_nothing P_Kinds_nothing []
  a_Kinds_above : Addr
  d_Kinds_above : FuncData
  F_Kinds_above : Fun K "above" "Kinds.above" s_Kinds_above a_Kinds_above d_Kinds_above
  b_Kinds_above : Binds K d_Kinds_above P_Kinds_above []
  a_Kinds_good : Addr
  d_Kinds_good : FuncData
  F_Kinds_good : Fun K "good" "Kinds.good" s_Kinds_good a_Kinds_good d_Kinds_good
  b_Kinds_good : Binds K d_Kinds_good P_Kinds_good []
  a_Others_good : Addr
  d_Others_good : FuncData
  F_Others_good : Fun K "good" "Others.good" s_Others_good a_Others_good d_Others_good
  b_Others_good : Binds K d_Others_good P_Others_good []
  M_Kinds_above : MtOk K "Kinds" "above" C_Kinds a_Kinds_above
  M_Kinds_good : MtOk K "Kinds" "good" C_Kinds a_Kinds_good
  M_Kinds_nothing : MtOk K "Kinds" "nothing" C_Kinds a_Kinds_nothing
  M_Others_above : MtOk K "Others" "above" C_Others a_Kinds_above
  M_Others_good : MtOk K "Others" "good" C_Others a_Others_good
  M_Others_nothing : MtOk K "Others" "nothing" C_Others a_Kinds_nothing
  CF_Kinds_good : ClsF K mg "Kinds" "good" C_Kinds a_Kinds_good
  IC_Kinds : IsC K C_Kinds
  IC_Others : IsC K C_Others
  io_Kinds_Measure : PySem.W.kitOne K (.ref C_Kinds) (.ref C_Measure) = some true
  io_Kinds_Others : PySem.W.kitOne K (.ref C_Kinds) (.ref C_Others) = some false
  io_Others_Kinds : PySem.W.kitOne K (.ref C_Others) (.ref C_Kinds) = some true
  K_Kinds : MkOk K "Kinds" C_Kinds a_Kinds___init__
  K_Others : MkOk K "Others" C_Others a_Kinds___init__
  cf_Kinds_Others_held : ClF K ["Kinds", "Others"] "held"
noncomputable def b_Kinds___init__ : G9.Env → Out :=
 sK (oPin 0 (kFl ["Kinds", "Others"] "held" (lVar 0) (oVar 1)))
noncomputable def m_Kinds___init__ : List Slot → IORes := fnOfI 2 0 b_Kinds___init__
noncomputable def b__law_cell : G9.Env → Out :=
 sSeq (sIf (mB (eLt (mVar 1) (eLen (aCons (mVar 0) (aNil)))))
 (sRet (oV (eMod (eAdd (eMul (vP (pIx (pVar 0) (mVar 1))) (mC (.int 48271))) (eMul (eMul (mVar 1) (mVar 1)) (mC (.int 69621)))) (mC (.int 2147483647)))))
 (sNext))
 (sRet (oV (eMod (eAdd (eAdd (eMul (eMul (mVar 1) (mVar 1)) (mC (.int 69621))) (eMul (eLen (aCons (mVar 0) (aNil))) (mC (.int 7919)))) (mC (.int 5))) (mC (.int 2147483647)))))
noncomputable def m__law_cell : List D → FRes := fnOf 2 b__law_cell
noncomputable def lb__law_tag_0 : G9.Env → Out :=
 sSeq (sSet 8 (oR (rAdd2 (eFdiv (mVar 0) (eAdd (mVar 7) (mC (.int 9)))) (eMul (eInt (aCons (eEq 520 (mVar 7) (mVar 4)) (aNil))) (mVar 5)))))
 (sSet 6 (oR (rAdd2 (mVar 6) (vP (pIx (pVar 2) (eMod (mVar 8) (mC (.int 26))))))))
noncomputable def tl__law_tag_1 : G9.Env → Out :=
 sSeq (sSet 6 (oV (mC (.str []))))
 (sSeq (sFor (iRngM (aCons (mVar 3) (aNil))) (gN 7) lb__law_tag_0 [7, 8])
 (sRet (oVar 6)))
noncomputable def b__law_tag : G9.Env → Out :=
 sSeq (sSet 2 (oV (mC (.str [97, 98, 99, 100, 101, 102, 103, 104, 105, 106, 107, 108, 109, 110, 111, 112, 113, 114, 115, 116, 117, 118, 119, 120, 121, 122]))))
 (sSeq (sSet 3 (oR (rAdd2 (mC (.int 1)) (eMod (mVar 0) (mC (.int 8))))))
 (sSeq (sSet 4 (oV (eMod (eFdiv (mVar 0) (mC (.int 8))) (mVar 3))))
 (sSeq (sSet 5 (oFz 1))
 (sSeq (sIf (mB (eEq 520 (eMod (eFdiv (mVar 0) (mC (.int 4096))) (mC (.int 2))) (mC (.int 1))))
 (sSeq (sSet 3 (oR (rAdd2 (mC (.int 1)) (eMod (eAdd (eFdiv (mVar 0) (mC (.int 8))) (mVar 1)) (mC (.int 8))))))
 (sSeq (sSet 4 (oV (eSub (mVar 3) (mC (.int 1)))))
 (sSet 5 (oV (eFdiv (mVar 1) (mC (.int 8)))))))
 (sNext))
 (tl__law_tag_1)))))
noncomputable def m__law_tag : List D → FRes := fnOf 9 b__law_tag
noncomputable def lb__law_shape_0 : G9.Env → Out :=
 sSeq (sSet 9 (oF m__law_cell (aCons (mVar 0) (aCons (mVar 6) (aNil)))))
 (sSeq (sSet 10 (oF m__law_tag (aCons (vF m__law_cell (aCons (mVar 0) (aCons (mC (.int 0)) (aNil)))) (aCons (eMod (eFdiv (mVar 9) (mC (.int 262144))) (eAdd (mC (.int 1)) (eMod (eFdiv (mVar 2) (mC (.int 3))) (mC (.int 3))))) (aNil)))))
 (sExpr (sAppO (lVar 8) (oTup (aoCons (oV (eMod (mVar 9) (mVar 3))) (aoCons (oVar 10) (aoCons (oV (eMod (eFdiv (mVar 9) (mC (.int 64))) (mVar 3))) (aoCons (oV (eMod (eFdiv (mVar 9) (mC (.int 4096))) (mVar 3))) (aoNil)))))))))
noncomputable def tl__law_shape_1 : G9.Env → Out :=
 sSeq (sSet 4 (oF m__law_cell (aCons (mVar 0) (aCons (eAdd (mC (.int 2)) (mVar 1)) (aNil)))))
 (sSeq (sSet 5 (oL (fLc (jRng (aCons (eMin (aCons (eMod (mVar 4) (mC (.int 8))) (aCons (eAdd (eAdd (mC (.int 1)) (eMod (mVar 4) (mC (.int 3)))) (eFdiv (mVar 3) (mC (.int 4)))) (aNil)))) (aNil))) (gN 6) (cYes) (eMod (eFdiv (mVar 4) (eAdd (mVar 6) (mC (.int 7)))) (mVar 3)) [6])))
 (sSeq (sSet 7 (oL (fLc (jRng (aCons (eAdd (eInt (aCons (eGt (eMod (eFdiv (mVar 4) (mC (.int 3))) (mC (.int 8))) (mC (.int 0))) (aNil))) (eMod (eFdiv (mVar 4) (mC (.int 24))) (mC (.int 2)))) (aNil))) (gN 6) (cYes) (eMod (eFdiv (mVar 4) (eAdd (mVar 6) (mC (.int 11)))) (mVar 3)) [6])))
 (sSeq (sSet 8 (oLst (aoNil)))
 (sSeq (sFor (iRng3M (aCons (eAdd (mC (.int 4)) (mVar 1)) (aCons (eMin (aCons (eLen (aCons (mVar 0) (aNil))) (aCons (mC (.int 36)) (aNil)))) (aCons (mC (.int 2)) (aNil))))) (gN 6) lb__law_shape_0 [6, 9, 10])
 (sRet (oTup (aoCons (oVar 3) (aoCons (oV (eTuple (aCons (vL (fSortSet 536 (aCons (mVar 7) (aNil)))) (aNil)))) (aoCons (oV (eTuple (aCons (vL (fSortSet 536 (aCons (mVar 5) (aNil)))) (aNil)))) (aoCons (oV (eTuple (aCons (vL (fSortSet 536 (aCons (mVar 8) (aNil)))) (aNil)))) (aoNil)))))))))))
noncomputable def tl__law_shape_2 : G9.Env → Out :=
 sSeq (sIf (mB (eEq 536 (eMod (eFdiv (mVar 2) (mC (.int 72))) (mC (.int 6))) (mC (.int 1))))
 (sSet 3 (oR (rAdd2 (mC (.int 11)) (eMod (eFdiv (mVar 2) (mC (.int 432))) (mC (.int 4))))))
 (sNext))
 (tl__law_shape_1)
noncomputable def b__law_shape : G9.Env → Out :=
 sSeq (sSet 2 (oF m__law_cell (aCons (mVar 0) (aCons (mVar 1) (aNil)))))
 (sSeq (sSet 3 (oR (rAdd2 (mC (.int 1)) (eMod (mVar 2) (mC (.int 3))))))
 (sSeq (sIf (mB (eEq 536 (eMod (eFdiv (mVar 2) (mC (.int 9))) (mC (.int 8))) (mC (.int 0))))
 (sRet (oTup (aoCons (oV (mC (.int 0))) (aoCons (oTup (aoNil)) (aoCons (oTup (aoNil)) (aoCons (oTup (aoNil)) (aoNil)))))))
 (sNext))
 (tl__law_shape_2)))
noncomputable def m__law_shape : List D → FRes := fnOf 11 b__law_shape
noncomputable def lb__law_words_0 : G9.Env → Out :=
 sSeq (sSet 8 (oF m__law_cell (aCons (mVar 0) (aCons (mVar 7) (aNil)))))
 (sIf (bAnd (mB (eGt (mVar 6) (mC (.int 0)))) (bOr (mB (eEq 536 (eMod (mVar 8) (mVar 4)) (mC (.int 0)))) (mB (eGt (mVar 6) (mC (.int 60))))))
 (sSeq (sExpr (sAppO (lVar 5) (oV (mC (.str [47])))))
 (sSet 6 (oV (eSub (mVar 6) (mC (.int 1))))))
 (sSeq (sExpr (sAppO (lVar 5) (oF m__law_tag (aCons (mVar 3) (aCons (eMod (eFdiv (mVar 8) (mC (.int 12))) (mC (.int 3))) (aNil))))))
 (sSet 6 (oR (rAdd2 (mVar 6) (mC (.int 1)))))))
noncomputable def b__law_words : G9.Env → Out :=
 sSeq (sSet 3 (oF m__law_cell (aCons (mVar 0) (aCons (mC (.int 0)) (aNil)))))
 (sSeq (sSet 4 (oR (rAdd2 (mC (.int 2)) (eMod (eFdiv (mVar 3) (mC (.int 64))) (mC (.int 3))))))
 (sSeq (sSet 5 (oLst (aoNil)))
 (sSeq (sSet 6 (oV (mC (.int 0))))
 (sSeq (sFor (iRngM (aCons (mVar 1) (aCons (eMin (aCons (eLen (aCons (mVar 0) (aNil))) (aCons (mVar 2) (aNil)))) (aNil)))) (gN 7) lb__law_words_0 [7, 8])
 (sRet (oR (rAdd2 (mVar 5) (vL (fLc (jRng (aCons (mVar 6) (aNil))) (gN 7) (cYes) (mC (.str [47])) [7])))))))))
noncomputable def m__law_words : List D → FRes := fnOf 9 b__law_words
noncomputable def b_Kinds_nothing : G9.Env → Out :=
 sRet (oV (eTuple (aCons (vP (pIx (pFl ["Kinds", "Others"] "held" (pVar 0)) (mC (.int 2)))) (aNil))))
noncomputable def m_Kinds_nothing : List D → FRes := fnOf 1 b_Kinds_nothing
noncomputable def lb_kinds_ahead_0 : G9.Env → Out :=
 sIf (bAnd (mB (eEq 520 (mVar 6) (mVar 1))) (bAnd (mB (eInQ false (mVar 7) (mVar 2))) (mB (eInQ false (mVar 8) (mVar 3)))))
 (sDPutV false (lVar 4) (kAtom (mVar 5)) (mC (.bl true)))
 (sNext)
noncomputable def b_kinds_ahead : G9.Env → Out :=
 sSeq (sSet 4 (oDNew false))
 (sSeq (sFor (iTupM (oP (pIx (pVar 0) (mC (.int 3))))) (gT 4 (gsC (gN 5) (gsC (gN 6) (gsC (gN 7) (gsC (gN 8) (gsN)))))) lb_kinds_ahead_0 [5, 6, 7, 8])
 (sRet (oL (fSortK 520 (aCons (mVar 4) (aNil))))))
noncomputable def m_kinds_ahead : List D → FRes := fnOf 9 b_kinds_ahead
noncomputable def b_Kinds_above : G9.Env → Out :=
 sRet (oV (eTuple (aCons (vF m_kinds_ahead (aCons (vP (pFl ["Kinds", "Others"] "held" (pVar 0))) (aCons (mVar 1) (aCons (mVar 2) (aCons (mVar 3) (aNil)))))) (aNil))))
noncomputable def m_Kinds_above : List D → FRes := fnOf 4 b_Kinds_above
noncomputable def b__law_above : G9.Env → Out :=
 sSeq (sSet 4 (oL (fLc (jTup (pIx (pVar 0) (mC (.int 3)))) (gN 5) (bAnd (mB (eEq 520 (vP (pIx (pVar 5) (mC (.int 1)))) (mVar 1))) (bAnd (mB (eInQ false (vP (pIx (pVar 5) (mC (.int 2)))) (mVar 2))) (mB (eInQ false (vP (pIx (pVar 5) (mC (.int 3)))) (mVar 3))))) (vP (pIx (pVar 5) (mC (.int 0)))) [5])))
 (sRet (oV (eTuple (aCons (vL (fSortSet 520 (aCons (mVar 4) (aNil)))) (aNil)))))
noncomputable def m__law_above : List D → FRes := fnOf 6 b__law_above
noncomputable def lb__law_numbers_0 : G9.Env → Out :=
 sIf (bOr (bNot (mB (eIsi "int" (vP (pIx (pVar 0) (mVar 2)))))) (bOr (mB (eIsi "bool" (vP (pIx (pVar 0) (mVar 2))))) (mB (eNe 520 (vP (pIx (pVar 0) (mVar 2))) (vP (pIx (pVar 1) (mVar 2)))))))
 (sRet (oV (mC (.bl false))))
 (sNext)
noncomputable def tl__law_numbers_1 : G9.Env → Out :=
 sSeq (sFor (iRngM (aCons (eLen (aCons (mVar 1) (aNil))) (aNil))) (gN 2) lb__law_numbers_0 [2])
 (sRet (oV (mC (.bl true))))
noncomputable def b__law_numbers : G9.Env → Out :=
 sSeq (sIf (bOr (bNot (mB (eIsi "tuple" (mVar 0)))) (mB (eNe 520 (eLen (aCons (mVar 0) (aNil))) (eLen (aCons (mVar 1) (aNil))))))
 (sRet (oV (mC (.bl false))))
 (sNext))
 (tl__law_numbers_1)
noncomputable def m__law_numbers : List D → FRes := fnOf 3 b__law_numbers
noncomputable def b_Kinds_good : G9.Env → Out :=
 sRet (oV (eGt (eLen (aCons (vL (fLc (jTup (pIx (pFl ["Kinds", "Others"] "held" (pVar 0)) (mC (.int 1)))) (gN 2) (mB (eInQ false (mVar 2) (mVar 1))) (mVar 2) [2])) (aNil))) (mC (.int 0))))
noncomputable def m_Kinds_good : List D → FRes := fnOf 3 b_Kinds_good
noncomputable def b_Others_good : G9.Env → Out :=
 sRet (oV (eNot (vF m_Kinds_good (aCons (mVar 0) (aCons (mVar 1) (aNil))))))
noncomputable def m_Others_good : List D → FRes := fnOf 2 b_Others_good
noncomputable def b__law_wanted : G9.Env → Out :=
 sSeq (sSet 4 (oV (eNe 552 (vL (fLc (jTup (pIx (pVar 0) (mC (.int 1)))) (gN 5) (mB (eInQ false (mVar 5) (mVar 3))) (mVar 5) [5])) (vL (fLst (aNil))))))
 (sSeq (sSet 6 (oF m_Kinds_good (aCons (mObj "Kinds" "good" (mVar 1)) (aCons (mVar 3) (aNil)))))
 (sSeq (sSet 7 (oF m_Others_good (aCons (mObj "Others" "good" (mVar 2)) (aCons (mVar 3) (aNil)))))
 (sRet (oV (eAnd (eIsi "bool" (mVar 6)) (eAnd (eIsi "bool" (mVar 7)) (eAnd (eEq 552 (mVar 6) (mVar 4)) (eNe 552 (mVar 7) (mVar 4)))))))))
noncomputable def m__law_wanted : List D → FRes := fnOf 8 b__law_wanted
noncomputable def tl__law_asked_0 : G9.Env → Out :=
 sSet 4 (oVar 8)
noncomputable def tl__law_asked_1 : G9.Env → Out :=
 sSeq (sIf (bNot (mB (vF m__law_numbers (aCons (vF m_Kinds_above (aCons (mObj "Others" "above" (mVar 2)) (aCons (mVar 6) (aCons (mVar 4) (aCons (mVar 7) (aNil)))))) (aCons (mVar 8) (aNil))))))
 (sRet (oV (mC (.bl false))))
 (sNext))
 (tl__law_asked_0)
noncomputable def tl__law_asked_2 : G9.Env → Out :=
 sIf (mB (eEq 568 (mVar 6) (mC (.str [47]))))
 (sSeq (sExpr (sAppO (lVar 5) (oVar 4)))
 (sSet 4 (oP (pIx (pVar 0) (mC (.int 2))))))
 (sSeq (sSet 7 (sPop (lVar 5)))
 (sSeq (sSet 8 (oF m__law_above (aCons (mVar 0) (aCons (mVar 6) (aCons (mVar 4) (aCons (mVar 7) (aNil)))))))
 (sSeq (sIf (bNot (mB (vF m__law_numbers (aCons (vF m_Kinds_above (aCons (mObj "Kinds" "above" (mVar 1)) (aCons (mVar 6) (aCons (mVar 4) (aCons (mVar 7) (aNil)))))) (aCons (mVar 8) (aNil))))))
 (sRet (oV (mC (.bl false))))
 (sNext))
 (tl__law_asked_1))))
noncomputable def lb__law_asked_3 : G9.Env → Out :=
 sSeq (sIf (bNot (mB (vF m__law_wanted (aCons (mVar 0) (aCons (mVar 1) (aCons (mVar 2) (aCons (mVar 4) (aNil))))))))
 (sRet (oV (mC (.bl false))))
 (sNext))
 (tl__law_asked_2)
noncomputable def tl__law_asked_4 : G9.Env → Out :=
 sSeq (sSet 4 (oP (pIx (pVar 0) (mC (.int 2)))))
 (sSeq (sSet 5 (oLst (aoNil)))
 (sSeq (sFor (iRevM (oVar 3)) (gN 6) lb__law_asked_3 [6, 7, 8])
 (sRet (oF m__law_wanted (aCons (mVar 0) (aCons (mVar 1) (aCons (mVar 2) (aCons (mVar 4) (aNil)))))))))
noncomputable def b__law_asked : G9.Env → Out :=
 sSeq (sIf (bOr (bNot (mB (vF m__law_numbers (aCons (vF m_Kinds_nothing (aCons (mObj "Kinds" "nothing" (mVar 1)) (aNil))) (aCons (vP (pIx (pVar 0) (mC (.int 2)))) (aNil)))))) (bNot (mB (vF m__law_numbers (aCons (vF m_Kinds_nothing (aCons (mObj "Others" "nothing" (mVar 2)) (aNil))) (aCons (vP (pIx (pVar 0) (mC (.int 2)))) (aNil)))))))
 (sRet (oV (mC (.bl false))))
 (sNext))
 (tl__law_asked_4)
noncomputable def m__law_asked : List D → FRes := fnOf 9 b__law_asked
noncomputable def tl_law_0 : G9.Env → Out :=
 sSeq (sIfO (bOrO (bT (bNot (mB (vF m__law_asked (aCons (mVar 1) (aCons (mVar 4) (aCons (mVar 5) (aCons (mVar 3) (aNil))))))))) (bNotO (bO (oFE m__law_asked (aoCons (oFz 2) (aoCons (oVar 6) (aoCons (oMk "Others" m_Kinds___init__ (aoCons (oVar 2) (aoNil))) (aoCons (oFz 3) (aoNil)))))))))
 (sRet (oV (mC (.bl false))))
 (sNext))
 (sRet (oF m__law_asked (aCons (mVar 1) (aCons (mVar 4) (aCons (mVar 5) (aCons (mVar 3) (aNil)))))))
noncomputable def b_law : G9.Env → Out :=
 sSeq (sSet 1 (oF m__law_shape (aCons (mVar 0) (aCons (mC (.int 0)) (aNil)))))
 (sSeq (sSet 2 (oF m__law_shape (aCons (mVar 0) (aCons (mC (.int 1)) (aNil)))))
 (sSeq (sLk 3 (sSet 3 (oF m__law_words (aCons (mVar 0) (aCons (mC (.int 3)) (aCons (mC (.int 63)) (aNil)))))))
 (sSeq (sSet 4 (oMk "Kinds" m_Kinds___init__ (aoCons (oFz 1) (aoNil))))
 (sSeq (sSet 5 (oMk "Others" m_Kinds___init__ (aoCons (oFz 1) (aoNil))))
 (sSeq (sSet 6 (oMk "Kinds" m_Kinds___init__ (aoCons (oFz 2) (aoNil))))
 (sSeq (sIf (bOr (bNot (mB (eIsO "Kinds" true (mVar 4)))) (bOr (bNot (mB (eIsO "Others" true (mVar 5)))) (mB (eIsO "Kinds" false (mVar 4)))))
 (sRet (oV (mC (.bl false))))
 (sNext))
 (tl_law_0)))))))
noncomputable def m_law : List D → FRes := fnOf 7 b_law
section
variable {P : Program} {w : World} {K : PySem.W.Frag} {mg : Str → Option Value} {base : Heap}
theorem ok_Kinds___init__ (T : Txt K mg) : FnOk P w K mg base (L2.CX P w) 21 T.a_Kinds___init__ T.d_Kinds___init__ P_Kinds___init__ (spI K mg 2 0 m_Kinds___init__) := by
  refine fnI_ok (N := N_Kinds___init__) (k := 20) (i := 0) T.F_Kinds___init__ sc_Kinds___init__ fun cdv A outer s H E hr => ?_
  unfold b_Kinds___init__
  exact dss_one (ds_k (dsk_pin 0 (dsk_fl T.cf_Kinds_Others_held (do_var 1) (dpl_var 0))))
theorem ok__law_cell (T : Txt K mg) : FnOk P w K mg base (L2.CX P w) 21 T.a__law_cell T.d__law_cell P__law_cell (spD K mg 2 m__law_cell) := by
  refine fnD_ok (N := N__law_cell) (k := 20) T.F__law_cell sc__law_cell fun cdv A outer s H E hr => ?_
  unfold b__law_cell
  exact dss_cons (ds_if (dt_lt (dv_var 1) (dv_len (by rfl) T.z_len (da_cons (dv_var 0) (da_nil))))
      (dss_one (ds_ret (do_v (dv_mod (dv_add (dv_mul (dv_p (dp_ix (dp_var 0) (dv_var 1))) (dv_int)) (dv_mul (dv_mul (dv_var 1) (dv_var 1)) (dv_int))) (dv_int)))))
      (dss_nil))
      (dss_one (ds_ret (do_v (dv_mod (dv_add (dv_add (dv_mul (dv_mul (dv_var 1) (dv_var 1)) (dv_int)) (dv_mul (dv_len (by rfl) T.z_len (da_cons (dv_var 0) (da_nil))) (dv_int))) (dv_int)) (dv_int)))))
theorem ok__law_tag (T : Txt K mg) : FnOk P w K mg base (L2.CX P w) 21 T.a__law_tag T.d__law_tag P__law_tag (spD K mg 2 m__law_tag) := by
  refine fnD_ok (N := N__law_tag) (k := 20) T.F__law_tag sc__law_tag fun cdv A outer s H E hr => ?_
  unfold b__law_tag tl__law_tag_1 lb__law_tag_0
  exact dss_cons (ds_set (i := 2) sc__law_tag.nd (do_v (dv_str)))
      (dss_cons (ds_set (i := 3) sc__law_tag.nd (do_dr (dr_add (dv_int) (dv_mod (dv_var 0) (dv_int)))))
      (dss_cons (ds_set (i := 4) sc__law_tag.nd (do_v (dv_mod (dv_fdiv (dv_var 0) (dv_int)) (dv_var 3))))
      (dss_cons (ds_set (i := 5) sc__law_tag.nd (do_fz 1))
      (dss_cons (ds_if (dt_eq (un_of hr) (dv_mod (dv_fdiv (dv_var 0) (dv_int)) (dv_int)) (dv_int))
      (dss_cons (ds_set (i := 3) sc__law_tag.nd (do_dr (dr_add (dv_int) (dv_mod (dv_add (dv_fdiv (dv_var 0) (dv_int)) (dv_var 1)) (dv_int)))))
      (dss_cons (ds_set (i := 4) sc__law_tag.nd (do_v (dv_sub (dv_var 3) (dv_int))))
      (dss_one (ds_set (i := 5) sc__law_tag.nd (do_v (dv_fdiv (dv_var 1) (dv_int)))))))
      (dss_nil))
      (dss_cons (ds_set (i := 6) sc__law_tag.nd (do_v (dv_str)))
      (dss_cons (ds_for (ks := [7, 8]) rfl (di_range1 (by rfl) T.z_range (da_cons (dv_var 3) (da_nil)) (h1 := (aL_c aL_n))) (dg_name sc__law_tag.nd)
      (dss_cons (ds_set (i := 8) sc__law_tag.nd (do_dr (dr_add (dv_fdiv (dv_var 0) (dv_add (dv_var 7) (dv_int))) (dv_mul (dv_int1 (by rfl) T.z_int (da_cons (dv_eq (un_of hr) (dv_var 7) (dv_var 4)) (da_nil))) (dv_var 5)))))
      (dss_one (ds_set (i := 6) sc__law_tag.nd (do_dr (dr_add (dv_var 6) (dv_p (dp_ix (dp_var 2) (dv_mod (dv_var 8) (dv_int))))))))))
      (dss_one (ds_ret (do_var 6)))))))))
theorem ok__law_shape (T : Txt K mg) : FnOk P w K mg base (L2.CX P w) 22 T.a__law_shape T.d__law_shape P__law_shape (spD K mg 2 m__law_shape) := by
  refine fnD_ok (N := N__law_shape) (k := 21) T.F__law_shape sc__law_shape fun cdv A outer s H E hr => ?_
  unfold b__law_shape tl__law_shape_2 tl__law_shape_1 lb__law_shape_0
  exact dss_cons (ds_set (i := 2) sc__law_shape.nd (do_call (ok__law_cell T) (hr.mono (by decide)) (by rfl) T.g__law_cell T.F__law_cell.kp T.b__law_cell (da_cons (dv_var 0) (da_cons (dv_var 1) (da_nil))) rfl (by decide) rfl rfl (aL_c (aL_c aL_n))))
      (dss_cons (ds_set (i := 3) sc__law_shape.nd (do_dr (dr_add (dv_int) (dv_mod (dv_var 2) (dv_int)))))
      (dss_cons (ds_if (dt_eq (un_of hr) (dv_mod (dv_fdiv (dv_var 2) (dv_int)) (dv_int)) (dv_int))
      (dss_one (ds_ret (do_tup (dao_cons (do_v (dv_int)) (dao_cons (do_tup (dao_nil)) (dao_cons (do_tup (dao_nil)) (dao_cons (do_tup (dao_nil)) (dao_nil))))))))
      (dss_nil))
      (dss_cons (ds_if (dt_eq (un_of hr) (dv_mod (dv_fdiv (dv_var 2) (dv_int)) (dv_int)) (dv_int))
      (dss_one (ds_set (i := 3) sc__law_shape.nd (do_dr (dr_add (dv_int) (dv_mod (dv_fdiv (dv_var 2) (dv_int)) (dv_int))))))
      (dss_nil))
      (dss_cons (ds_set (i := 4) sc__law_shape.nd (do_call (ok__law_cell T) (hr.mono (by decide)) (by rfl) T.g__law_cell T.F__law_cell.kp T.b__law_cell (da_cons (dv_var 0) (da_cons (dv_add (dv_int) (dv_var 1)) (da_nil))) rfl (by decide) rfl rfl (aL_c (aL_c aL_n))))
      (dss_cons (ds_setLc (i := 5) [("_law_k", 6)] rfl sc__law_shape.nd rfl rfl (sw_true rfl rfl rfl (by decide +kernel)) (div_range1 (by rfl) T.z_range (da_cons (dv_min rfl (by rfl) T.z_min (da_cons (dv_mod (dv_var 4) (dv_int)) (da_cons (dv_add (dv_add (dv_int) (dv_mod (dv_var 4) (dv_int))) (dv_fdiv (dv_var 3) (dv_int))) (da_nil)))) (da_nil)) (h1 := (aL_c aL_n))) (blkOk_by (N := N__law_shape) (sc := defScope s__law_shape) (by decide +kernel)) (fun _ _ _ _ _ => dgv_name sc__law_shape.nd (by simp)) (fun _ _ _ _ _ => dts_nil) (fun _ _ _ _ _ => dv_mod (dv_fdiv (dv_var 4) (dv_add (dv_var 6) (dv_int))) (dv_var 3)))
      (dss_cons (ds_setLc (i := 7) [("_law_k", 6)] rfl sc__law_shape.nd rfl rfl (sw_true rfl rfl rfl (by decide +kernel)) (div_range1 (by rfl) T.z_range (da_cons (dv_add (dv_int1 (by rfl) T.z_int (da_cons (dv_gt (dv_mod (dv_fdiv (dv_var 4) (dv_int)) (dv_int)) (dv_int)) (da_nil))) (dv_mod (dv_fdiv (dv_var 4) (dv_int)) (dv_int))) (da_nil)) (h1 := (aL_c aL_n))) (blkOk_by (N := N__law_shape) (sc := defScope s__law_shape) (by decide +kernel)) (fun _ _ _ _ _ => dgv_name sc__law_shape.nd (by simp)) (fun _ _ _ _ _ => dts_nil) (fun _ _ _ _ _ => dv_mod (dv_fdiv (dv_var 4) (dv_add (dv_var 6) (dv_int))) (dv_var 3)))
      (dss_cons (ds_set (i := 8) sc__law_shape.nd (do_lst (dao_nil)))
      (dss_cons (ds_for (ks := [6, 9, 10]) rfl (di_range3 (by rfl) T.z_range (da_cons (dv_add (dv_int) (dv_var 1)) (da_cons (dv_min rfl (by rfl) T.z_min (da_cons (dv_len (by rfl) T.z_len (da_cons (dv_var 0) (da_nil))) (da_cons (dv_int) (da_nil)))) (da_cons (dv_int) (da_nil))))) (dg_name sc__law_shape.nd)
      (dss_cons (ds_set (i := 9) sc__law_shape.nd (do_call (ok__law_cell T) (hr.mono (by decide)) (by rfl) T.g__law_cell T.F__law_cell.kp T.b__law_cell (da_cons (dv_var 0) (da_cons (dv_var 6) (da_nil))) rfl (by decide) rfl rfl (aL_c (aL_c aL_n))))
      (dss_cons (ds_set (i := 10) sc__law_shape.nd (do_call (ok__law_tag T) (hr.mono (by decide)) (by rfl) T.g__law_tag T.F__law_tag.kp T.b__law_tag (da_cons (dv_call (ok__law_cell T) (hr.mono (by decide)) (by rfl) T.g__law_cell T.F__law_cell.kp T.b__law_cell (da_cons (dv_var 0) (da_cons (dv_int) (da_nil))) rfl (by decide) rfl rfl (aL_c (aL_c aL_n))) (da_cons (dv_mod (dv_fdiv (dv_var 9) (dv_int)) (dv_add (dv_int) (dv_mod (dv_fdiv (dv_var 2) (dv_int)) (dv_int)))) (da_nil))) rfl (by decide) rfl rfl (aL_c (aL_c aL_n))))
      (dss_one (ds_expr (do_appO (dpl_var 8) (do_tup (dao_cons (do_v (dv_mod (dv_var 9) (dv_var 3))) (dao_cons (do_var 10) (dao_cons (do_v (dv_mod (dv_fdiv (dv_var 9) (dv_int)) (dv_var 3))) (dao_cons (do_v (dv_mod (dv_fdiv (dv_var 9) (dv_int)) (dv_var 3))) (dao_nil))))))))))))
      (dss_one (ds_ret (do_tup (dao_cons (do_var 3) (dao_cons (do_v (dv_tuple (by rfl) T.z_tuple (da_cons (dv_df (df_sortset (un_of hr) rfl (un_le hr (by omega)) (by rfl) T.z_sorted (by rfl) T.z_set (da_cons (dv_var 7) (da_nil)))) (da_nil)))) (dao_cons (do_v (dv_tuple (by rfl) T.z_tuple (da_cons (dv_df (df_sortset (un_of hr) rfl (un_le hr (by omega)) (by rfl) T.z_sorted (by rfl) T.z_set (da_cons (dv_var 5) (da_nil)))) (da_nil)))) (dao_cons (do_v (dv_tuple (by rfl) T.z_tuple (da_cons (dv_df (df_sortset (un_of hr) rfl (un_le hr (by omega)) (by rfl) T.z_sorted (by rfl) T.z_set (da_cons (dv_var 8) (da_nil)))) (da_nil)))) (dao_nil))))))))))))))))
theorem ok__law_words (T : Txt K mg) : FnOk P w K mg base (L2.CX P w) 22 T.a__law_words T.d__law_words P__law_words (spD K mg 3 m__law_words) := by
  refine fnD_ok (N := N__law_words) (k := 21) T.F__law_words sc__law_words fun cdv A outer s H E hr => ?_
  unfold b__law_words lb__law_words_0
  exact dss_cons (ds_set (i := 3) sc__law_words.nd (do_call (ok__law_cell T) (hr.mono (by decide)) (by rfl) T.g__law_cell T.F__law_cell.kp T.b__law_cell (da_cons (dv_var 0) (da_cons (dv_int) (da_nil))) rfl (by decide) rfl rfl (aL_c (aL_c aL_n))))
      (dss_cons (ds_set (i := 4) sc__law_words.nd (do_dr (dr_add (dv_int) (dv_mod (dv_fdiv (dv_var 3) (dv_int)) (dv_int)))))
      (dss_cons (ds_set (i := 5) sc__law_words.nd (do_lst (dao_nil)))
      (dss_cons (ds_set (i := 6) sc__law_words.nd (do_v (dv_int)))
      (dss_cons (ds_for (ks := [7, 8]) rfl (di_range2 (by rfl) T.z_range (da_cons (dv_var 1) (da_cons (dv_min rfl (by rfl) T.z_min (da_cons (dv_len (by rfl) T.z_len (da_cons (dv_var 0) (da_nil))) (da_cons (dv_var 2) (da_nil)))) (da_nil))) (h1 := (aL_c (aL_c aL_n)))) (dg_name sc__law_words.nd)
      (dss_cons (ds_set (i := 8) sc__law_words.nd (do_call (ok__law_cell T) (hr.mono (by decide)) (by rfl) T.g__law_cell T.F__law_cell.kp T.b__law_cell (da_cons (dv_var 0) (da_cons (dv_var 7) (da_nil))) rfl (by decide) rfl rfl (aL_c (aL_c aL_n))))
      (dss_one (ds_if (dt_bool (dw_and (dt_gt (dv_var 6) (dv_int)) (dw_and1 (dt_bool (dw_or (dt_eq (un_of hr) (dv_mod (dv_var 8) (dv_var 4)) (dv_int)) (dw_or1 (dt_gt (dv_var 6) (dv_int))))))))
      (dss_cons (ds_expr (do_appO (dpl_var 5) (do_v (dv_str))))
      (dss_one (ds_set (i := 6) sc__law_words.nd (do_v (dv_sub (dv_var 6) (dv_int))))))
      (dss_cons (ds_expr (do_appO (dpl_var 5) (do_call (ok__law_tag T) (hr.mono (by decide)) (by rfl) T.g__law_tag T.F__law_tag.kp T.b__law_tag (da_cons (dv_var 3) (da_cons (dv_mod (dv_fdiv (dv_var 8) (dv_int)) (dv_int)) (da_nil))) rfl (by decide) rfl rfl (aL_c (aL_c aL_n)))))
      (dss_one (ds_set (i := 6) sc__law_words.nd (do_dr (dr_add (dv_var 6) (dv_int))))))))))
      (dss_one (ds_ret (do_dr (dr_add (dv_var 5) (dv_df (df_lc [("_law_k", 7)] rfl sc__law_words.nd (div_range1 (by rfl) T.z_range (da_cons (dv_var 6) (da_nil)) (h1 := (aL_c aL_n))) (blkOk_by (N := N__law_words) (sc := defScope s__law_words) (by decide +kernel)) (fun _ _ _ _ _ => dgv_name sc__law_words.nd (by simp)) (fun _ _ _ _ _ => dts_nil) (fun _ _ _ _ _ => dv_str)))))))))))
theorem ok_Kinds_nothing (T : Txt K mg) : FnOk P w K mg base (L2.CX P w) 21 T.a_Kinds_nothing T.d_Kinds_nothing P_Kinds_nothing (spD K mg 1 m_Kinds_nothing) := by
  refine fnD_ok (N := N_Kinds_nothing) (k := 20) T.F_Kinds_nothing sc_Kinds_nothing fun cdv A outer s H E hr => ?_
  unfold b_Kinds_nothing
  exact dss_one (ds_ret (do_v (dv_tuple (by rfl) T.z_tuple (da_cons (dv_p (dp_ix (dp_fl T.cf_Kinds_Others_held (dp_var 0)) (dv_int))) (da_nil)))))
theorem ok_kinds_ahead (T : Txt K mg) : FnOk P w K mg base (L2.CX P w) 21 T.a_kinds_ahead T.d_kinds_ahead P_kinds_ahead (spD K mg 4 m_kinds_ahead) := by
  refine fnD_ok (N := N_kinds_ahead) (k := 20) T.F_kinds_ahead sc_kinds_ahead fun cdv A outer s H E hr => ?_
  unfold b_kinds_ahead lb_kinds_ahead_0
  exact dss_cons (ds_set (i := 4) sc_kinds_ahead.nd (do_dnewK))
      (dss_cons (ds_for (ks := [5, 6, 7, 8]) rfl (di_tup (do_p (dp_ix (dp_var 0) (dv_int)))) (dg_tup rfl (dgs_cons (dg_name sc_kinds_ahead.nd) (dgs_cons (dg_name sc_kinds_ahead.nd) (dgs_cons (dg_name sc_kinds_ahead.nd) (dgs_cons (dg_name sc_kinds_ahead.nd) (dgs_nil))))))
      (dss_one (ds_if (dt_bool (dw_and (dt_eq (un_of hr) (dv_var 6) (dv_var 1)) (dw_and (dt_inQ (dv_var 7) (dv_var 2)) (dw_and1 (dt_inQ (dv_var 8) (dv_var 3))))))
      (dss_one (ds_dput (un_le hr (by omega)) (dv_bl) (dpl_var 4) (dk_v (dv_var 5))))
      (dss_nil))))
      (dss_one (ds_ret (do_df (df_sortK rfl (un_of hr) (by rfl) T.z_sorted (da_cons (dv_var 4) (da_nil)))))))
theorem ok_Kinds_above (T : Txt K mg) : FnOk P w K mg base (L2.CX P w) 22 T.a_Kinds_above T.d_Kinds_above P_Kinds_above (spD K mg 4 m_Kinds_above) := by
  refine fnD_ok (N := N_Kinds_above) (k := 21) T.F_Kinds_above sc_Kinds_above fun cdv A outer s H E hr => ?_
  unfold b_Kinds_above
  exact dss_one (ds_ret (do_v (dv_tuple (by rfl) T.z_tuple (da_cons (dv_call (ok_kinds_ahead T) (hr.mono (by decide)) (by rfl) T.g_kinds_ahead T.F_kinds_ahead.kp T.b_kinds_ahead (da_cons (dv_p (dp_fl T.cf_Kinds_Others_held (dp_var 0))) (da_cons (dv_var 1) (da_cons (dv_var 2) (da_cons (dv_var 3) (da_nil))))) rfl (by decide) rfl rfl (aL_c (aL_c (aL_c (aL_c aL_n))))) (da_nil)))))
theorem ok__law_above (T : Txt K mg) : FnOk P w K mg base (L2.CX P w) 21 T.a__law_above T.d__law_above P__law_above (spD K mg 4 m__law_above) := by
  refine fnD_ok (N := N__law_above) (k := 20) T.F__law_above sc__law_above fun cdv A outer s H E hr => ?_
  unfold b__law_above
  exact dss_cons (ds_setLc (i := 4) [("_law_rule", 5)] rfl sc__law_above.nd rfl rfl (sw_true rfl rfl rfl (by decide +kernel)) (div_tup (dp_ix (dp_var 0) (dv_int))) (blkOk_by (N := N__law_above) (sc := defScope s__law_above) (by decide +kernel)) (fun _ _ _ _ _ => dgv_name sc__law_above.nd (by simp)) (fun _ _ _ _ _ => dts_one (dt_bool (dw_and (dt_eq (un_of hr) (dv_p (dp_ix (dp_var 5) (dv_int))) (dv_var 1)) (dw_and (dt_inQ (dv_p (dp_ix (dp_var 5) (dv_int))) (dv_var 2)) (dw_and1 (dt_inQ (dv_p (dp_ix (dp_var 5) (dv_int))) (dv_var 3))))))) (fun _ _ _ _ _ => dv_p (dp_ix (dp_var 5) (dv_int))))
      (dss_one (ds_ret (do_v (dv_tuple (by rfl) T.z_tuple (da_cons (dv_df (df_sortset (un_of hr) rfl (un_le hr (by omega)) (by rfl) T.z_sorted (by rfl) T.z_set (da_cons (dv_var 4) (da_nil)))) (da_nil))))))
theorem ok__law_numbers (T : Txt K mg) : FnOk P w K mg base (L2.CX P w) 21 T.a__law_numbers T.d__law_numbers P__law_numbers (spD K mg 2 m__law_numbers) := by
  refine fnD_ok (N := N__law_numbers) (k := 20) T.F__law_numbers sc__law_numbers fun cdv A outer s H E hr => ?_
  unfold b__law_numbers tl__law_numbers_1 lb__law_numbers_0
  exact dss_cons (ds_if (dt_bool (dw_or (dt_not (dt_val (dv_isi (n := "tuple") (by rfl) T.z_isinstance (dv_var 0) (by rfl) T.z_tuple (by decide +kernel)))) (dw_or1 (dt_ne (un_of hr) (dv_len (by rfl) T.z_len (da_cons (dv_var 0) (da_nil))) (dv_len (by rfl) T.z_len (da_cons (dv_var 1) (da_nil)))))))
      (dss_one (ds_ret (do_v (dv_bl))))
      (dss_nil))
      (dss_cons (ds_for (ks := [2]) rfl (di_range1 (by rfl) T.z_range (da_cons (dv_len (by rfl) T.z_len (da_cons (dv_var 1) (da_nil))) (da_nil)) (h1 := (aL_c aL_n))) (dg_name sc__law_numbers.nd)
      (dss_one (ds_if (dt_bool (dw_or (dt_not (dt_val (dv_isi (n := "int") (by rfl) T.z_isinstance (dv_p (dp_ix (dp_var 0) (dv_var 2))) (by rfl) T.z_int (by decide +kernel)))) (dw_or (dt_val (dv_isi (n := "bool") (by rfl) T.z_isinstance (dv_p (dp_ix (dp_var 0) (dv_var 2))) (by rfl) T.z_bool (by decide +kernel))) (dw_or1 (dt_ne (un_of hr) (dv_p (dp_ix (dp_var 0) (dv_var 2))) (dv_p (dp_ix (dp_var 1) (dv_var 2))))))))
      (dss_one (ds_ret (do_v (dv_bl))))
      (dss_nil))))
      (dss_one (ds_ret (do_v (dv_bl)))))
theorem ok_Kinds_good (T : Txt K mg) : FnOk P w K mg base (L2.CX P w) 21 T.a_Kinds_good T.d_Kinds_good P_Kinds_good (spD K mg 2 m_Kinds_good) := by
  refine fnD_ok (N := N_Kinds_good) (k := 20) T.F_Kinds_good sc_Kinds_good fun cdv A outer s H E hr => ?_
  unfold b_Kinds_good
  exact dss_one (ds_ret (do_v (dv_gt (dv_len (by rfl) T.z_len (da_cons (dv_df (df_lc [("kind", 2)] rfl sc_Kinds_good.nd (div_tup (dp_ix (dp_fl T.cf_Kinds_Others_held (dp_var 0)) (dv_int))) (blkOk_by (N := N_Kinds_good) (sc := defScope s_Kinds_good) (by decide +kernel)) (fun _ _ _ _ _ => dgv_name sc_Kinds_good.nd (by simp)) (fun _ _ _ _ _ => dts_one (dt_inQ (dv_var 2) (dv_var 1))) (fun _ _ _ _ _ => dv_var 2))) (da_nil))) (dv_int))))
theorem ok_Others_good (T : Txt K mg) : FnOk P w K mg base (L2.CX P w) 22 T.a_Others_good T.d_Others_good P_Others_good (spD K mg 2 m_Others_good) := by
  refine fnD_ok (N := N_Others_good) (k := 21) T.F_Others_good sc_Others_good fun cdv A outer s H E hr => ?_
  unfold b_Others_good
  exact dss_one (ds_ret (do_v (dv_not (dv_clsf (ok_Kinds_good T) (hr.mono (by decide)) T.CF_Kinds_good (by rfl) T.b_Kinds_good (da_cons (dv_var 0) (da_cons (dv_var 1) (da_nil))) rfl (by decide) rfl rfl rfl (aL_c (aL_c aL_n))))))
theorem ok__law_wanted (T : Txt K mg) : FnOk P w K mg base (L2.CX P w) 23 T.a__law_wanted T.d__law_wanted P__law_wanted (spD K mg 4 m__law_wanted) := by
  refine fnD_ok (N := N__law_wanted) (k := 22) T.F__law_wanted sc__law_wanted fun cdv A outer s H E hr => ?_
  unfold b__law_wanted
  exact dss_cons (ds_set (i := 4) sc__law_wanted.nd (do_v (dv_ne (un_of hr) (dv_df (df_lc [("_law_kind", 5)] rfl sc__law_wanted.nd (div_tup (dp_ix (dp_var 0) (dv_int))) (blkOk_by (N := N__law_wanted) (sc := defScope s__law_wanted) (by decide +kernel)) (fun _ _ _ _ _ => dgv_name sc__law_wanted.nd (by simp)) (fun _ _ _ _ _ => dts_one (dt_inQ (dv_var 5) (dv_var 3))) (fun _ _ _ _ _ => dv_var 5))) (dv_df (df_lst (da_nil))))))
      (dss_cons (ds_set (i := 6) sc__law_wanted.nd (do_meth (ok_Kinds_good T) T.M_Kinds_good (hr.mono (by decide)) T.b_Kinds_good (dv_var 1) (da_cons (dv_var 3) (da_nil)) (hlen := (aL_c aL_n))))
      (dss_cons (ds_set (i := 7) sc__law_wanted.nd (do_meth (ok_Others_good T) T.M_Others_good (hr.mono (by decide)) T.b_Others_good (dv_var 2) (da_cons (dv_var 3) (da_nil)) (hlen := (aL_c aL_n))))
      (dss_one (ds_ret (do_v (dv_and (dv_isi (n := "bool") (by rfl) T.z_isinstance (dv_var 6) (by rfl) T.z_bool (by decide +kernel)) (dv_and (dv_isi (n := "bool") (by rfl) T.z_isinstance (dv_var 7) (by rfl) T.z_bool (by decide +kernel)) (dv_and (dv_eq (un_of hr) (dv_var 6) (dv_var 4)) (dv_one (dv_ne (un_of hr) (dv_var 7) (dv_var 4)))))))))))
theorem ok__law_asked (T : Txt K mg) : FnOk P w K mg base (L2.CX P w) 24 T.a__law_asked T.d__law_asked P__law_asked (spD K mg 4 m__law_asked) := by
  refine fnD_ok (N := N__law_asked) (k := 23) T.F__law_asked sc__law_asked fun cdv A outer s H E hr => ?_
  unfold b__law_asked tl__law_asked_4 lb__law_asked_3 tl__law_asked_2 tl__law_asked_1 tl__law_asked_0
  exact dss_cons (ds_if (dt_bool (dw_or (dt_not (dt_val (dv_call (ok__law_numbers T) (hr.mono (by decide)) (by rfl) T.g__law_numbers T.F__law_numbers.kp T.b__law_numbers (da_cons (dv_meth0 (ok_Kinds_nothing T) T.M_Kinds_nothing (hr.mono (by decide)) T.b_Kinds_nothing (dv_var 1)) (da_cons (dv_p (dp_ix (dp_var 0) (dv_int))) (da_nil))) rfl (by decide) rfl rfl (aL_c (aL_c aL_n))))) (dw_or1 (dt_not (dt_val (dv_call (ok__law_numbers T) (hr.mono (by decide)) (by rfl) T.g__law_numbers T.F__law_numbers.kp T.b__law_numbers (da_cons (dv_meth0 (ok_Kinds_nothing T) T.M_Others_nothing (hr.mono (by decide)) T.b_Kinds_nothing (dv_var 2)) (da_cons (dv_p (dp_ix (dp_var 0) (dv_int))) (da_nil))) rfl (by decide) rfl rfl (aL_c (aL_c aL_n))))))))
      (dss_one (ds_ret (do_v (dv_bl))))
      (dss_nil))
      (dss_cons (ds_set (i := 4) sc__law_asked.nd (do_p (dp_ix (dp_var 0) (dv_int))))
      (dss_cons (ds_set (i := 5) sc__law_asked.nd (do_lst (dao_nil)))
      (dss_cons (ds_for (ks := [6, 7, 8]) rfl (di_rev (by rfl) T.z_reversed (do_var 3)) (dg_name sc__law_asked.nd)
      (dss_cons (ds_if (dt_not (dt_val (dv_call (ok__law_wanted T) (hr.mono (by decide)) (by rfl) T.g__law_wanted T.F__law_wanted.kp T.b__law_wanted (da_cons (dv_var 0) (da_cons (dv_var 1) (da_cons (dv_var 2) (da_cons (dv_var 4) (da_nil))))) rfl (by decide) rfl rfl (aL_c (aL_c (aL_c (aL_c aL_n)))))))
      (dss_one (ds_ret (do_v (dv_bl))))
      (dss_nil))
      (dss_one (ds_if (dt_eq (un_of hr) (dv_var 6) (dv_str))
      (dss_cons (ds_expr (do_appO (dpl_var 5) (do_var 4)))
      (dss_one (ds_set (i := 4) sc__law_asked.nd (do_p (dp_ix (dp_var 0) (dv_int))))))
      (dss_cons (ds_set (i := 7) sc__law_asked.nd (do_pop (dpl_var 5)))
      (dss_cons (ds_set (i := 8) sc__law_asked.nd (do_call (ok__law_above T) (hr.mono (by decide)) (by rfl) T.g__law_above T.F__law_above.kp T.b__law_above (da_cons (dv_var 0) (da_cons (dv_var 6) (da_cons (dv_var 4) (da_cons (dv_var 7) (da_nil))))) rfl (by decide) rfl rfl (aL_c (aL_c (aL_c (aL_c aL_n))))))
      (dss_cons (ds_if (dt_not (dt_val (dv_call (ok__law_numbers T) (hr.mono (by decide)) (by rfl) T.g__law_numbers T.F__law_numbers.kp T.b__law_numbers (da_cons (dv_meth (ok_Kinds_above T) T.M_Kinds_above (hr.mono (by decide)) T.b_Kinds_above (dv_var 1) (da_cons (dv_var 6) (da_cons (dv_var 4) (da_cons (dv_var 7) (da_nil)))) (hlen := (aL_c (aL_c (aL_c aL_n))))) (da_cons (dv_var 8) (da_nil))) rfl (by decide) rfl rfl (aL_c (aL_c aL_n)))))
      (dss_one (ds_ret (do_v (dv_bl))))
      (dss_nil))
      (dss_cons (ds_if (dt_not (dt_val (dv_call (ok__law_numbers T) (hr.mono (by decide)) (by rfl) T.g__law_numbers T.F__law_numbers.kp T.b__law_numbers (da_cons (dv_meth (ok_Kinds_above T) T.M_Others_above (hr.mono (by decide)) T.b_Kinds_above (dv_var 2) (da_cons (dv_var 6) (da_cons (dv_var 4) (da_cons (dv_var 7) (da_nil)))) (hlen := (aL_c (aL_c (aL_c aL_n))))) (da_cons (dv_var 8) (da_nil))) rfl (by decide) rfl rfl (aL_c (aL_c aL_n)))))
      (dss_one (ds_ret (do_v (dv_bl))))
      (dss_nil))
      (dss_one (ds_set (i := 4) sc__law_asked.nd (do_var 8)))))))))))
      (dss_one (ds_ret (do_call (ok__law_wanted T) (hr.mono (by decide)) (by rfl) T.g__law_wanted T.F__law_wanted.kp T.b__law_wanted (da_cons (dv_var 0) (da_cons (dv_var 1) (da_cons (dv_var 2) (da_cons (dv_var 4) (da_nil))))) rfl (by decide) rfl rfl (aL_c (aL_c (aL_c (aL_c aL_n))))))))))
theorem ok_law (T : Txt K mg) : FnOk P w K mg base (L2.CX P w) 25 T.a_law T.d_law P_law (spD K mg 1 m_law) := by
  refine fnD_ok (N := N_law) (k := 24) T.F_law sc_law fun cdv A outer s H E hr => ?_
  unfold b_law tl_law_0
  exact dss_cons (ds_set (i := 1) sc_law.nd (do_call (ok__law_shape T) (hr.mono (by decide)) (by rfl) T.g__law_shape T.F__law_shape.kp T.b__law_shape (da_cons (dv_var 0) (da_cons (dv_int) (da_nil))) rfl (by decide) rfl rfl (aL_c (aL_c aL_n))))
      (dss_cons (ds_set (i := 2) sc_law.nd (do_call (ok__law_shape T) (hr.mono (by decide)) (by rfl) T.g__law_shape T.F__law_shape.kp T.b__law_shape (da_cons (dv_var 0) (da_cons (dv_int) (da_nil))) rfl (by decide) rfl rfl (aL_c (aL_c aL_n))))
      (dss_cons (ds_lk 3 (ds_set (i := 3) sc_law.nd (do_call (ok__law_words T) (hr.mono (by decide)) (by rfl) T.g__law_words T.F__law_words.kp T.b__law_words (da_cons (dv_var 0) (da_cons (dv_int) (da_cons (dv_int) (da_nil)))) rfl (by decide) rfl rfl (aL_c (aL_c (aL_c aL_n))))))
      (dss_cons (ds_set (i := 4) sc_law.nd (do_make (ok_Kinds___init__ T) T.K_Kinds (hr.mono (by decide)) (by rfl) T.gC_Kinds T.b_Kinds___init__ (dao_cons (do_fz 1) (dao_nil)) (hlen := (aoL_c aoL_n))))
      (dss_cons (ds_set (i := 5) sc_law.nd (do_make (ok_Kinds___init__ T) T.K_Others (hr.mono (by decide)) (by rfl) T.gC_Others T.b_Kinds___init__ (dao_cons (do_fz 1) (dao_nil)) (hlen := (aoL_c aoL_n))))
      (dss_cons (ds_set (i := 6) sc_law.nd (do_make (ok_Kinds___init__ T) T.K_Kinds (hr.mono (by decide)) (by rfl) T.gC_Kinds T.b_Kinds___init__ (dao_cons (do_fz 2) (dao_nil)) (hlen := (aoL_c aoL_n))))
      (dss_cons (ds_if (dt_bool (dw_or (dt_not (dt_val (dv_isO (by rfl) T.z_isinstance (dv_var 4) T.cn_Kinds T.IC_Kinds (pe_glob (v := .ref T.C_Measure) (by rfl) T.gC_Measure rfl) T.io_Kinds_Measure))) (dw_or (dt_not (dt_val (dv_isO (by rfl) T.z_isinstance (dv_var 5) T.cn_Others T.IC_Others (pe_glob (v := .ref T.C_Kinds) (by rfl) T.gC_Kinds rfl) T.io_Others_Kinds))) (dw_or1 (dt_val (dv_isO (by rfl) T.z_isinstance (dv_var 4) T.cn_Kinds T.IC_Kinds (pe_glob (v := .ref T.C_Others) (by rfl) T.gC_Others rfl) T.io_Kinds_Others))))))
      (dss_one (ds_ret (do_v (dv_bl))))
      (dss_nil))
      (dss_cons (ds_ifO (dto_bool (dwo_or (dto_t (dt_not (dt_val (dv_call (ok__law_asked T) (hr.mono (by decide)) (by rfl) T.g__law_asked T.F__law_asked.kp T.b__law_asked (da_cons (dv_var 1) (da_cons (dv_var 4) (da_cons (dv_var 5) (da_cons (dv_var 3) (da_nil))))) rfl (by decide) rfl rfl (aL_c (aL_c (aL_c (aL_c aL_n)))))))) (dwo_or1 (dto_not (dto_o (do_callE (ok__law_asked T) (hr.mono (by decide)) (by rfl) T.g__law_asked T.F__law_asked.kp T.b__law_asked (dao_cons (do_fz 2) (dao_cons (do_var 6) (dao_cons (do_make (ok_Kinds___init__ T) T.K_Others (hr.mono (by decide)) (by rfl) T.gC_Others T.b_Kinds___init__ (dao_cons (do_var 2) (dao_nil)) (hlen := (aoL_c aoL_n))) (dao_cons (do_fz 3) (dao_nil))))) rfl (by decide) rfl rfl (aoL_c (aoL_c (aoL_c (aoL_c aoL_n))))))))))
      (dss_one (ds_ret (do_v (dv_bl))))
      (dss_nil))
      (dss_one (ds_ret (do_call (ok__law_asked T) (hr.mono (by decide)) (by rfl) T.g__law_asked T.F__law_asked.kp T.b__law_asked (da_cons (dv_var 1) (da_cons (dv_var 4) (da_cons (dv_var 5) (da_cons (dv_var 3) (da_nil))))) rfl (by decide) rfl rfl (aL_c (aL_c (aL_c (aL_c aL_n))))))))))))))
end
set_option maxHeartbeats 0 in
noncomputable def mkT {K : PySem.W.Frag} {h : Heap} {mg : Str → Option Value} (X : K.In h) (G : h.Ns mainGlobals mg)
    {f1 : Addr} {od1 an1 : Option Addr} {sl1 : Array (Option Value)} {oc1 kV1 dc1 pm1 cd1 ct1 : Value}
    (a1 : PySem.W.nsIn K mainGlobals "_law_cell" = some (some (.ref f1))) (l1 : K.lookup f1 = some ⟨oc1, od1, .func (PySem.W.fnOf "_law_cell" "_law_cell" (defArgs s__law_cell) (defBody s__law_cell) (defScope s__law_cell) .none kV1 dc1 pm1 an1 cd1 ct1), sl1⟩) (c1 : PySem.W.codeIn K cd1 "_law_cell" = true) (k1 : PySem.W.keepIn K (.ref f1) = true)
    {f2 : Addr} {od2 an2 : Option Addr} {sl2 : Array (Option Value)} {oc2 kV2 dc2 pm2 cd2 ct2 : Value}
    (a2 : PySem.W.nsIn K mainGlobals "_law_tag" = some (some (.ref f2))) (l2 : K.lookup f2 = some ⟨oc2, od2, .func (PySem.W.fnOf "_law_tag" "_law_tag" (defArgs s__law_tag) (defBody s__law_tag) (defScope s__law_tag) .none kV2 dc2 pm2 an2 cd2 ct2), sl2⟩) (c2 : PySem.W.codeIn K cd2 "_law_tag" = true) (k2 : PySem.W.keepIn K (.ref f2) = true)
    {f3 : Addr} {od3 an3 : Option Addr} {sl3 : Array (Option Value)} {oc3 kV3 dc3 pm3 cd3 ct3 : Value}
    (a3 : PySem.W.nsIn K mainGlobals "_law_shape" = some (some (.ref f3))) (l3 : K.lookup f3 = some ⟨oc3, od3, .func (PySem.W.fnOf "_law_shape" "_law_shape" (defArgs s__law_shape) (defBody s__law_shape) (defScope s__law_shape) .none kV3 dc3 pm3 an3 cd3 ct3), sl3⟩) (c3 : PySem.W.codeIn K cd3 "_law_shape" = true) (k3 : PySem.W.keepIn K (.ref f3) = true)
    {f4 : Addr} {od4 an4 : Option Addr} {sl4 : Array (Option Value)} {oc4 kV4 dc4 pm4 cd4 ct4 : Value}
    (a4 : PySem.W.nsIn K mainGlobals "_law_words" = some (some (.ref f4))) (l4 : K.lookup f4 = some ⟨oc4, od4, .func (PySem.W.fnOf "_law_words" "_law_words" (defArgs s__law_words) (defBody s__law_words) (defScope s__law_words) .none kV4 dc4 pm4 an4 cd4 ct4), sl4⟩) (c4 : PySem.W.codeIn K cd4 "_law_words" = true) (k4 : PySem.W.keepIn K (.ref f4) = true)
    {f6 : Addr} {od6 an6 : Option Addr} {sl6 : Array (Option Value)} {oc6 kV6 dc6 pm6 cd6 ct6 : Value}
    (a6 : PySem.W.nsIn K mainGlobals "kinds_ahead" = some (some (.ref f6))) (l6 : K.lookup f6 = some ⟨oc6, od6, .func (PySem.W.fnOf "kinds_ahead" "kinds_ahead" (defArgs s_kinds_ahead) (defBody s_kinds_ahead) (defScope s_kinds_ahead) .none kV6 dc6 pm6 an6 cd6 ct6), sl6⟩) (c6 : PySem.W.codeIn K cd6 "kinds_ahead" = true) (k6 : PySem.W.keepIn K (.ref f6) = true)
    {f8 : Addr} {od8 an8 : Option Addr} {sl8 : Array (Option Value)} {oc8 kV8 dc8 pm8 cd8 ct8 : Value}
    (a8 : PySem.W.nsIn K mainGlobals "_law_above" = some (some (.ref f8))) (l8 : K.lookup f8 = some ⟨oc8, od8, .func (PySem.W.fnOf "_law_above" "_law_above" (defArgs s__law_above) (defBody s__law_above) (defScope s__law_above) .none kV8 dc8 pm8 an8 cd8 ct8), sl8⟩) (c8 : PySem.W.codeIn K cd8 "_law_above" = true) (k8 : PySem.W.keepIn K (.ref f8) = true)
    {f9 : Addr} {od9 an9 : Option Addr} {sl9 : Array (Option Value)} {oc9 kV9 dc9 pm9 cd9 ct9 : Value}
    (a9 : PySem.W.nsIn K mainGlobals "_law_numbers" = some (some (.ref f9))) (l9 : K.lookup f9 = some ⟨oc9, od9, .func (PySem.W.fnOf "_law_numbers" "_law_numbers" (defArgs s__law_numbers) (defBody s__law_numbers) (defScope s__law_numbers) .none kV9 dc9 pm9 an9 cd9 ct9), sl9⟩) (c9 : PySem.W.codeIn K cd9 "_law_numbers" = true) (k9 : PySem.W.keepIn K (.ref f9) = true)
    {f12 : Addr} {od12 an12 : Option Addr} {sl12 : Array (Option Value)} {oc12 kV12 dc12 pm12 cd12 ct12 : Value}
    (a12 : PySem.W.nsIn K mainGlobals "_law_wanted" = some (some (.ref f12))) (l12 : K.lookup f12 = some ⟨oc12, od12, .func (PySem.W.fnOf "_law_wanted" "_law_wanted" (defArgs s__law_wanted) (defBody s__law_wanted) (defScope s__law_wanted) .none kV12 dc12 pm12 an12 cd12 ct12), sl12⟩) (c12 : PySem.W.codeIn K cd12 "_law_wanted" = true) (k12 : PySem.W.keepIn K (.ref f12) = true)
    {f13 : Addr} {od13 an13 : Option Addr} {sl13 : Array (Option Value)} {oc13 kV13 dc13 pm13 cd13 ct13 : Value}
    (a13 : PySem.W.nsIn K mainGlobals "_law_asked" = some (some (.ref f13))) (l13 : K.lookup f13 = some ⟨oc13, od13, .func (PySem.W.fnOf "_law_asked" "_law_asked" (defArgs s__law_asked) (defBody s__law_asked) (defScope s__law_asked) .none kV13 dc13 pm13 an13 cd13 ct13), sl13⟩) (c13 : PySem.W.codeIn K cd13 "_law_asked" = true) (k13 : PySem.W.keepIn K (.ref f13) = true)
    {f14 : Addr} {od14 an14 : Option Addr} {sl14 : Array (Option Value)} {oc14 kV14 dc14 pm14 cd14 ct14 : Value}
    (a14 : PySem.W.nsIn K mainGlobals "law" = some (some (.ref f14))) (l14 : K.lookup f14 = some ⟨oc14, od14, .func (PySem.W.fnOf "law" "law" (defArgs s_law) (defBody s_law) (defScope s_law) .none kV14 dc14 pm14 an14 cd14 ct14), sl14⟩) (c14 : PySem.W.codeIn K cd14 "law" = true) (k14 : PySem.W.keepIn K (.ref f14) = true)
    (z_bool : PySem.W.nsIn K mainGlobals "bool" = some none)
    (z_int : PySem.W.nsIn K mainGlobals "int" = some none)
    (z_isinstance : PySem.W.nsIn K mainGlobals "isinstance" = some none)
    (z_len : PySem.W.nsIn K mainGlobals "len" = some none)
    (z_min : PySem.W.nsIn K mainGlobals "min" = some none)
    (z_range : PySem.W.nsIn K mainGlobals "range" = some none)
    (z_reversed : PySem.W.nsIn K mainGlobals "reversed" = some none)
    (z_set : PySem.W.nsIn K mainGlobals "set" = some none)
    (z_sorted : PySem.W.nsIn K mainGlobals "sorted" = some none)
    (z_tuple : PySem.W.nsIn K mainGlobals "tuple" = some none)
    {cC_Measure : Addr} (aC_Measure : PySem.W.nsIn K mainGlobals "Measure" = some (some (.ref cC_Measure)))
    {cC_Kinds : Addr} (aC_Kinds : PySem.W.nsIn K mainGlobals "Kinds" = some (some (.ref cC_Kinds)))
    {cC_Others : Addr} (aC_Others : PySem.W.nsIn K mainGlobals "Others" = some (some (.ref cC_Others)))
    (opg_Kinds : PySem.W.plainGet K cC_Kinds Str.empty = true) (ohd_Kinds : PySem.W.hasDictIn K cC_Kinds = true) (opo_Kinds : PySem.W.plainOver K cC_Kinds = true) (osa_Kinds : PySem.W.findIn K (.ref cC_Kinds) "__setattr__" = some (some (.builtin "object.__setattr__")))
    (opg_Others : PySem.W.plainGet K cC_Others Str.empty = true) (ohd_Others : PySem.W.hasDictIn K cC_Others = true) (opo_Others : PySem.W.plainOver K cC_Others = true) (osa_Others : PySem.W.findIn K (.ref cC_Others) "__setattr__" = some (some (.builtin "object.__setattr__")))
    {f0 : Addr} {od0 an0 : Option Addr} {sl0 : Array (Option Value)} {oc0 kV0 dc0 pm0 cd0 ct0 : Value}
    (a0 : PySem.W.findIn K (.ref cC_Kinds) "__init__" = some (some (.ref f0))) (i0 : PySem.W.isFn K (.ref f0) = true) (l0 : K.lookup f0 = some ⟨oc0, od0, .func (PySem.W.fnOf "__init__" "Kinds.__init__" (defArgs s_Kinds___init__) (defBody s_Kinds___init__) (defScope s_Kinds___init__) .none kV0 dc0 pm0 an0 cd0 ct0), sl0⟩) (c0 : PySem.W.codeIn K cd0 "Kinds.__init__" = true) (k0 : PySem.W.keepIn K (.ref f0) = true)
    {f5 : Addr} {od5 an5 : Option Addr} {sl5 : Array (Option Value)} {oc5 kV5 dc5 pm5 cd5 ct5 : Value}
    (a5 : PySem.W.findIn K (.ref cC_Kinds) "nothing" = some (some (.ref f5))) (i5 : PySem.W.isFn K (.ref f5) = true) (l5 : K.lookup f5 = some ⟨oc5, od5, .func (PySem.W.fnOf "nothing" "Kinds.nothing" (defArgs s_Kinds_nothing) (defBody s_Kinds_nothing) (defScope s_Kinds_nothing) .none kV5 dc5 pm5 an5 cd5 ct5), sl5⟩) (c5 : PySem.W.codeIn K cd5 "Kinds.nothing" = true) (k5 : PySem.W.keepIn K (.ref f5) = true)
    {f7 : Addr} {od7 an7 : Option Addr} {sl7 : Array (Option Value)} {oc7 kV7 dc7 pm7 cd7 ct7 : Value}
    (a7 : PySem.W.findIn K (.ref cC_Kinds) "above" = some (some (.ref f7))) (i7 : PySem.W.isFn K (.ref f7) = true) (l7 : K.lookup f7 = some ⟨oc7, od7, .func (PySem.W.fnOf "above" "Kinds.above" (defArgs s_Kinds_above) (defBody s_Kinds_above) (defScope s_Kinds_above) .none kV7 dc7 pm7 an7 cd7 ct7), sl7⟩) (c7 : PySem.W.codeIn K cd7 "Kinds.above" = true) (k7 : PySem.W.keepIn K (.ref f7) = true)
    {f10 : Addr} {od10 an10 : Option Addr} {sl10 : Array (Option Value)} {oc10 kV10 dc10 pm10 cd10 ct10 : Value}
    (a10 : PySem.W.findIn K (.ref cC_Kinds) "good" = some (some (.ref f10))) (i10 : PySem.W.isFn K (.ref f10) = true) (l10 : K.lookup f10 = some ⟨oc10, od10, .func (PySem.W.fnOf "good" "Kinds.good" (defArgs s_Kinds_good) (defBody s_Kinds_good) (defScope s_Kinds_good) .none kV10 dc10 pm10 an10 cd10 ct10), sl10⟩) (c10 : PySem.W.codeIn K cd10 "Kinds.good" = true) (k10 : PySem.W.keepIn K (.ref f10) = true)
    {f11 : Addr} {od11 an11 : Option Addr} {sl11 : Array (Option Value)} {oc11 kV11 dc11 pm11 cd11 ct11 : Value}
    (a11 : PySem.W.findIn K (.ref cC_Others) "good" = some (some (.ref f11))) (i11 : PySem.W.isFn K (.ref f11) = true) (l11 : K.lookup f11 = some ⟨oc11, od11, .func (PySem.W.fnOf "good" "Others.good" (defArgs s_Others_good) (defBody s_Others_good) (defScope s_Others_good) .none kV11 dc11 pm11 an11 cd11 ct11), sl11⟩) (c11 : PySem.W.codeIn K cd11 "Others.good" = true) (k11 : PySem.W.keepIn K (.ref f11) = true)
    (am_Others_above : PySem.W.findIn K (.ref cC_Others) "above" = some (some (.ref f7)))
    (am_Others_nothing : PySem.W.findIn K (.ref cC_Others) "nothing" = some (some (.ref f5)))
    (csp_Kinds : PySem.W.specialIn K (.ref cC_Kinds) "__getattribute__" = some (some (.builtin "type.__getattribute__"))) (crd_Kinds : PySem.W.readsIn K cC_Kinds (.type "type") = true)
    (cfi_Kinds_good : PySem.W.findCls K (.ref cC_Kinds) (.type "type") "good" = some (.val (.ref f10)))
    (ica_Kinds : PySem.W.findIn K (.ref cC_Kinds) "__class__" = some (some (.builtin "object.__class__"))) (icg_Kinds : PySem.W.specialIn K (.builtin "object.__class__") "__get__" = some (some (.builtin "getset_descriptor.__get__"))) (icx_Kinds : PySem.W.takesIn K (.builtin "object.__class__") = some true) (imo_Kinds : PySem.W.mroIn K cC_Kinds (.type "object") = some true)
    (ica_Others : PySem.W.findIn K (.ref cC_Others) "__class__" = some (some (.builtin "object.__class__"))) (icg_Others : PySem.W.specialIn K (.builtin "object.__class__") "__get__" = some (some (.builtin "getset_descriptor.__get__"))) (icx_Others : PySem.W.takesIn K (.builtin "object.__class__") = some true) (imo_Others : PySem.W.mroIn K cC_Others (.type "object") = some true)
    (jd_Kinds_Measure : PySem.W.hasDictIn K cC_Measure = true) (jt_Kinds_Measure : PySem.W.typeIn K (.ref cC_Measure) = some (.type "type")) (ju_Kinds_Measure : PySem.W.subIn K (.ref cC_Kinds) (.ref cC_Measure) = some true)
    (jn_Kinds_Others : (cC_Kinds == cC_Others) = false) (jd_Kinds_Others : PySem.W.hasDictIn K cC_Others = true) (jt_Kinds_Others : PySem.W.typeIn K (.ref cC_Others) = some (.type "type")) (ju_Kinds_Others : PySem.W.subIn K (.ref cC_Kinds) (.ref cC_Others) = some false)
    (jd_Others_Kinds : PySem.W.hasDictIn K cC_Kinds = true) (jt_Others_Kinds : PySem.W.typeIn K (.ref cC_Kinds) = some (.type "type")) (ju_Others_Kinds : PySem.W.subIn K (.ref cC_Others) (.ref cC_Kinds) = some true)
    (omk_Kinds : PySem.W.makesIn K cC_Kinds = true) (okC_Kinds : PySem.W.keepIn K (.ref cC_Kinds) = true)
    (am_Others_init : PySem.W.findIn K (.ref cC_Others) "__init__" = some (some (.ref f0)))
    (omk_Others : PySem.W.makesIn K cC_Others = true) (okC_Others : PySem.W.keepIn K (.ref cC_Others) = true)
    (nf_Kinds_held : PySem.W.findIn K (.ref cC_Kinds) "held" = some none)
    (nf_Others_held : PySem.W.findIn K (.ref cC_Others) "held" = some none) : Txt K mg where
    a__law_cell := f1
    d__law_cell := _
    F__law_cell := fun_mk l1 c1 k1
    g__law_cell := PySem.W.mg_of X G a1
    b__law_cell := (fun_mk l1 c1 k1).binds (ps := P__law_cell) fun _ _ _ _ _ _ us hl => match us, hl with | [_, _], _ => rfl
    a__law_tag := f2
    d__law_tag := _
    F__law_tag := fun_mk l2 c2 k2
    g__law_tag := PySem.W.mg_of X G a2
    b__law_tag := (fun_mk l2 c2 k2).binds (ps := P__law_tag) fun _ _ _ _ _ _ us hl => match us, hl with | [_, _], _ => rfl
    a__law_shape := f3
    d__law_shape := _
    F__law_shape := fun_mk l3 c3 k3
    g__law_shape := PySem.W.mg_of X G a3
    b__law_shape := (fun_mk l3 c3 k3).binds (ps := P__law_shape) fun _ _ _ _ _ _ us hl => match us, hl with | [_, _], _ => rfl
    a__law_words := f4
    d__law_words := _
    F__law_words := fun_mk l4 c4 k4
    g__law_words := PySem.W.mg_of X G a4
    b__law_words := (fun_mk l4 c4 k4).binds (ps := P__law_words) fun _ _ _ _ _ _ us hl => match us, hl with | [_, _, _], _ => rfl
    a_kinds_ahead := f6
    d_kinds_ahead := _
    F_kinds_ahead := fun_mk l6 c6 k6
    g_kinds_ahead := PySem.W.mg_of X G a6
    b_kinds_ahead := (fun_mk l6 c6 k6).binds (ps := P_kinds_ahead) fun _ _ _ _ _ _ us hl => match us, hl with | [_, _, _, _], _ => rfl
    a__law_above := f8
    d__law_above := _
    F__law_above := fun_mk l8 c8 k8
    g__law_above := PySem.W.mg_of X G a8
    b__law_above := (fun_mk l8 c8 k8).binds (ps := P__law_above) fun _ _ _ _ _ _ us hl => match us, hl with | [_, _, _, _], _ => rfl
    a__law_numbers := f9
    d__law_numbers := _
    F__law_numbers := fun_mk l9 c9 k9
    g__law_numbers := PySem.W.mg_of X G a9
    b__law_numbers := (fun_mk l9 c9 k9).binds (ps := P__law_numbers) fun _ _ _ _ _ _ us hl => match us, hl with | [_, _], _ => rfl
    a__law_wanted := f12
    d__law_wanted := _
    F__law_wanted := fun_mk l12 c12 k12
    g__law_wanted := PySem.W.mg_of X G a12
    b__law_wanted := (fun_mk l12 c12 k12).binds (ps := P__law_wanted) fun _ _ _ _ _ _ us hl => match us, hl with | [_, _, _, _], _ => rfl
    a__law_asked := f13
    d__law_asked := _
    F__law_asked := fun_mk l13 c13 k13
    g__law_asked := PySem.W.mg_of X G a13
    b__law_asked := (fun_mk l13 c13 k13).binds (ps := P__law_asked) fun _ _ _ _ _ _ us hl => match us, hl with | [_, _, _, _], _ => rfl
    a_law := f14
    d_law := _
    F_law := fun_mk l14 c14 k14
    g_law := PySem.W.mg_of X G a14
    b_law := (fun_mk l14 c14 k14).binds (ps := P_law) fun _ _ _ _ _ _ us hl => match us, hl with | [_], _ => rfl
    z_bool := PySem.W.mg_none_of X G z_bool
    z_int := PySem.W.mg_none_of X G z_int
    z_isinstance := PySem.W.mg_none_of X G z_isinstance
    z_len := PySem.W.mg_none_of X G z_len
    z_min := PySem.W.mg_none_of X G z_min
    z_range := PySem.W.mg_none_of X G z_range
    z_reversed := PySem.W.mg_none_of X G z_reversed
    z_set := PySem.W.mg_none_of X G z_set
    z_sorted := PySem.W.mg_none_of X G z_sorted
    z_tuple := PySem.W.mg_none_of X G z_tuple
    C_Measure := cC_Measure
    gC_Measure := PySem.W.mg_of X G aC_Measure
    C_Kinds := cC_Kinds
    gC_Kinds := PySem.W.mg_of X G aC_Kinds
    C_Others := cC_Others
    gC_Others := PySem.W.mg_of X G aC_Others
    cn_Kinds := aC_Kinds
    cl_Kinds := ⟨opg_Kinds, ohd_Kinds, opo_Kinds, osa_Kinds⟩
    cn_Others := aC_Others
    cl_Others := ⟨opg_Others, ohd_Others, opo_Others, osa_Others⟩
    a_Kinds___init__ := f0
    d_Kinds___init__ := _
    F_Kinds___init__ := fun_mk l0 c0 k0
    b_Kinds___init__ := (fun_mk l0 c0 k0).binds (ps := P_Kinds___init__) fun _ _ _ _ _ _ us hl => match us, hl with | [_, _], _ => rfl
    a_Kinds_nothing := f5
    d_Kinds_nothing := _
    F_Kinds_nothing := fun_mk l5 c5 k5
    b_Kinds_nothing := (fun_mk l5 c5 k5).binds (ps := P_Kinds_nothing) fun _ _ _ _ _ _ us hl => match us, hl with | [_], _ => rfl
    a_Kinds_above := f7
    d_Kinds_above := _
    F_Kinds_above := fun_mk l7 c7 k7
    b_Kinds_above := (fun_mk l7 c7 k7).binds (ps := P_Kinds_above) fun _ _ _ _ _ _ us hl => match us, hl with | [_, _, _, _], _ => rfl
    a_Kinds_good := f10
    d_Kinds_good := _
    F_Kinds_good := fun_mk l10 c10 k10
    b_Kinds_good := (fun_mk l10 c10 k10).binds (ps := P_Kinds_good) fun _ _ _ _ _ _ us hl => match us, hl with | [_, _], _ => rfl
    a_Others_good := f11
    d_Others_good := _
    F_Others_good := fun_mk l11 c11 k11
    b_Others_good := (fun_mk l11 c11 k11).binds (ps := P_Others_good) fun _ _ _ _ _ _ us hl => match us, hl with | [_, _], _ => rfl
    M_Kinds_above := ⟨aC_Kinds, ⟨opg_Kinds, ohd_Kinds, opo_Kinds, osa_Kinds⟩, ⟨a7, i7, k7⟩⟩
    M_Kinds_good := ⟨aC_Kinds, ⟨opg_Kinds, ohd_Kinds, opo_Kinds, osa_Kinds⟩, ⟨a10, i10, k10⟩⟩
    M_Kinds_nothing := ⟨aC_Kinds, ⟨opg_Kinds, ohd_Kinds, opo_Kinds, osa_Kinds⟩, ⟨a5, i5, k5⟩⟩
    M_Others_above := ⟨aC_Others, ⟨opg_Others, ohd_Others, opo_Others, osa_Others⟩, ⟨am_Others_above, i7, k7⟩⟩
    M_Others_good := ⟨aC_Others, ⟨opg_Others, ohd_Others, opo_Others, osa_Others⟩, ⟨a11, i11, k11⟩⟩
    M_Others_nothing := ⟨aC_Others, ⟨opg_Others, ohd_Others, opo_Others, osa_Others⟩, ⟨am_Others_nothing, i5, k5⟩⟩
    CF_Kinds_good := ⟨PySem.W.mg_of X G aC_Kinds, csp_Kinds, crd_Kinds, cfi_Kinds_good, k10⟩
    IC_Kinds := ⟨⟨opg_Kinds, ohd_Kinds, opo_Kinds, osa_Kinds⟩, ica_Kinds, icg_Kinds, icx_Kinds, imo_Kinds⟩
    IC_Others := ⟨⟨opg_Others, ohd_Others, opo_Others, osa_Others⟩, ica_Others, icg_Others, icx_Others, imo_Others⟩
    io_Kinds_Measure := kit_own (cls_some jd_Kinds_Measure) jt_Kinds_Measure ju_Kinds_Measure
    io_Kinds_Others := kit_ownF jn_Kinds_Others (cls_some jd_Kinds_Others) jt_Kinds_Others ju_Kinds_Others
    io_Others_Kinds := kit_own (cls_some jd_Others_Kinds) jt_Others_Kinds ju_Others_Kinds
    K_Kinds := ⟨aC_Kinds, ⟨omk_Kinds, a0, i0, okC_Kinds⟩⟩
    K_Others := ⟨aC_Others, ⟨omk_Others, am_Others_init, i0, okC_Others⟩⟩
    cf_Kinds_Others_held := clF_cons aC_Kinds ⟨opg_Kinds, ohd_Kinds, opo_Kinds, osa_Kinds⟩ nf_Kinds_held (clF_cons aC_Others ⟨opg_Others, ohd_Others, opo_Others, osa_Others⟩ nf_Others_held (clF_nil))
set_option maxHeartbeats 0 in
theorem all_mk {l : PySem.W.OpenLaw} {w : World} {K : PySem.W.Frag} {h : Heap} {mg : Str → Option Value} {fa : Addr} (X : K.In h) (G : h.Ns mainGlobals mg) (hfa : mg "law" = some (.ref fa))
    (hlaw : ∀ ns : List Int, ns.length ≤ 63 → m_law [.scr (ns.map D.int)] = .ok (.frz (.bl true)))
    {f1 : Addr} {od1 an1 : Option Addr} {sl1 : Array (Option Value)} {oc1 kV1 dc1 pm1 cd1 ct1 : Value}
    (a1 : PySem.W.nsIn K mainGlobals "_law_cell" = some (some (.ref f1))) (l1 : K.lookup f1 = some ⟨oc1, od1, .func (PySem.W.fnOf "_law_cell" "_law_cell" (defArgs s__law_cell) (defBody s__law_cell) (defScope s__law_cell) .none kV1 dc1 pm1 an1 cd1 ct1), sl1⟩) (c1 : PySem.W.codeIn K cd1 "_law_cell" = true) (k1 : PySem.W.keepIn K (.ref f1) = true)
    {f2 : Addr} {od2 an2 : Option Addr} {sl2 : Array (Option Value)} {oc2 kV2 dc2 pm2 cd2 ct2 : Value}
    (a2 : PySem.W.nsIn K mainGlobals "_law_tag" = some (some (.ref f2))) (l2 : K.lookup f2 = some ⟨oc2, od2, .func (PySem.W.fnOf "_law_tag" "_law_tag" (defArgs s__law_tag) (defBody s__law_tag) (defScope s__law_tag) .none kV2 dc2 pm2 an2 cd2 ct2), sl2⟩) (c2 : PySem.W.codeIn K cd2 "_law_tag" = true) (k2 : PySem.W.keepIn K (.ref f2) = true)
    {f3 : Addr} {od3 an3 : Option Addr} {sl3 : Array (Option Value)} {oc3 kV3 dc3 pm3 cd3 ct3 : Value}
    (a3 : PySem.W.nsIn K mainGlobals "_law_shape" = some (some (.ref f3))) (l3 : K.lookup f3 = some ⟨oc3, od3, .func (PySem.W.fnOf "_law_shape" "_law_shape" (defArgs s__law_shape) (defBody s__law_shape) (defScope s__law_shape) .none kV3 dc3 pm3 an3 cd3 ct3), sl3⟩) (c3 : PySem.W.codeIn K cd3 "_law_shape" = true) (k3 : PySem.W.keepIn K (.ref f3) = true)
    {f4 : Addr} {od4 an4 : Option Addr} {sl4 : Array (Option Value)} {oc4 kV4 dc4 pm4 cd4 ct4 : Value}
    (a4 : PySem.W.nsIn K mainGlobals "_law_words" = some (some (.ref f4))) (l4 : K.lookup f4 = some ⟨oc4, od4, .func (PySem.W.fnOf "_law_words" "_law_words" (defArgs s__law_words) (defBody s__law_words) (defScope s__law_words) .none kV4 dc4 pm4 an4 cd4 ct4), sl4⟩) (c4 : PySem.W.codeIn K cd4 "_law_words" = true) (k4 : PySem.W.keepIn K (.ref f4) = true)
    {f6 : Addr} {od6 an6 : Option Addr} {sl6 : Array (Option Value)} {oc6 kV6 dc6 pm6 cd6 ct6 : Value}
    (a6 : PySem.W.nsIn K mainGlobals "kinds_ahead" = some (some (.ref f6))) (l6 : K.lookup f6 = some ⟨oc6, od6, .func (PySem.W.fnOf "kinds_ahead" "kinds_ahead" (defArgs s_kinds_ahead) (defBody s_kinds_ahead) (defScope s_kinds_ahead) .none kV6 dc6 pm6 an6 cd6 ct6), sl6⟩) (c6 : PySem.W.codeIn K cd6 "kinds_ahead" = true) (k6 : PySem.W.keepIn K (.ref f6) = true)
    {f8 : Addr} {od8 an8 : Option Addr} {sl8 : Array (Option Value)} {oc8 kV8 dc8 pm8 cd8 ct8 : Value}
    (a8 : PySem.W.nsIn K mainGlobals "_law_above" = some (some (.ref f8))) (l8 : K.lookup f8 = some ⟨oc8, od8, .func (PySem.W.fnOf "_law_above" "_law_above" (defArgs s__law_above) (defBody s__law_above) (defScope s__law_above) .none kV8 dc8 pm8 an8 cd8 ct8), sl8⟩) (c8 : PySem.W.codeIn K cd8 "_law_above" = true) (k8 : PySem.W.keepIn K (.ref f8) = true)
    {f9 : Addr} {od9 an9 : Option Addr} {sl9 : Array (Option Value)} {oc9 kV9 dc9 pm9 cd9 ct9 : Value}
    (a9 : PySem.W.nsIn K mainGlobals "_law_numbers" = some (some (.ref f9))) (l9 : K.lookup f9 = some ⟨oc9, od9, .func (PySem.W.fnOf "_law_numbers" "_law_numbers" (defArgs s__law_numbers) (defBody s__law_numbers) (defScope s__law_numbers) .none kV9 dc9 pm9 an9 cd9 ct9), sl9⟩) (c9 : PySem.W.codeIn K cd9 "_law_numbers" = true) (k9 : PySem.W.keepIn K (.ref f9) = true)
    {f12 : Addr} {od12 an12 : Option Addr} {sl12 : Array (Option Value)} {oc12 kV12 dc12 pm12 cd12 ct12 : Value}
    (a12 : PySem.W.nsIn K mainGlobals "_law_wanted" = some (some (.ref f12))) (l12 : K.lookup f12 = some ⟨oc12, od12, .func (PySem.W.fnOf "_law_wanted" "_law_wanted" (defArgs s__law_wanted) (defBody s__law_wanted) (defScope s__law_wanted) .none kV12 dc12 pm12 an12 cd12 ct12), sl12⟩) (c12 : PySem.W.codeIn K cd12 "_law_wanted" = true) (k12 : PySem.W.keepIn K (.ref f12) = true)
    {f13 : Addr} {od13 an13 : Option Addr} {sl13 : Array (Option Value)} {oc13 kV13 dc13 pm13 cd13 ct13 : Value}
    (a13 : PySem.W.nsIn K mainGlobals "_law_asked" = some (some (.ref f13))) (l13 : K.lookup f13 = some ⟨oc13, od13, .func (PySem.W.fnOf "_law_asked" "_law_asked" (defArgs s__law_asked) (defBody s__law_asked) (defScope s__law_asked) .none kV13 dc13 pm13 an13 cd13 ct13), sl13⟩) (c13 : PySem.W.codeIn K cd13 "_law_asked" = true) (k13 : PySem.W.keepIn K (.ref f13) = true)
    {f14 : Addr} {od14 an14 : Option Addr} {sl14 : Array (Option Value)} {oc14 kV14 dc14 pm14 cd14 ct14 : Value}
    (a14 : PySem.W.nsIn K mainGlobals "law" = some (some (.ref f14))) (l14 : K.lookup f14 = some ⟨oc14, od14, .func (PySem.W.fnOf "law" "law" (defArgs s_law) (defBody s_law) (defScope s_law) .none kV14 dc14 pm14 an14 cd14 ct14), sl14⟩) (c14 : PySem.W.codeIn K cd14 "law" = true) (k14 : PySem.W.keepIn K (.ref f14) = true)
    (z_bool : PySem.W.nsIn K mainGlobals "bool" = some none)
    (z_int : PySem.W.nsIn K mainGlobals "int" = some none)
    (z_isinstance : PySem.W.nsIn K mainGlobals "isinstance" = some none)
    (z_len : PySem.W.nsIn K mainGlobals "len" = some none)
    (z_min : PySem.W.nsIn K mainGlobals "min" = some none)
    (z_range : PySem.W.nsIn K mainGlobals "range" = some none)
    (z_reversed : PySem.W.nsIn K mainGlobals "reversed" = some none)
    (z_set : PySem.W.nsIn K mainGlobals "set" = some none)
    (z_sorted : PySem.W.nsIn K mainGlobals "sorted" = some none)
    (z_tuple : PySem.W.nsIn K mainGlobals "tuple" = some none)
    {cC_Measure : Addr} (aC_Measure : PySem.W.nsIn K mainGlobals "Measure" = some (some (.ref cC_Measure)))
    {cC_Kinds : Addr} (aC_Kinds : PySem.W.nsIn K mainGlobals "Kinds" = some (some (.ref cC_Kinds)))
    {cC_Others : Addr} (aC_Others : PySem.W.nsIn K mainGlobals "Others" = some (some (.ref cC_Others)))
    (opg_Kinds : PySem.W.plainGet K cC_Kinds Str.empty = true) (ohd_Kinds : PySem.W.hasDictIn K cC_Kinds = true) (opo_Kinds : PySem.W.plainOver K cC_Kinds = true) (osa_Kinds : PySem.W.findIn K (.ref cC_Kinds) "__setattr__" = some (some (.builtin "object.__setattr__")))
    (opg_Others : PySem.W.plainGet K cC_Others Str.empty = true) (ohd_Others : PySem.W.hasDictIn K cC_Others = true) (opo_Others : PySem.W.plainOver K cC_Others = true) (osa_Others : PySem.W.findIn K (.ref cC_Others) "__setattr__" = some (some (.builtin "object.__setattr__")))
    {f0 : Addr} {od0 an0 : Option Addr} {sl0 : Array (Option Value)} {oc0 kV0 dc0 pm0 cd0 ct0 : Value}
    (a0 : PySem.W.findIn K (.ref cC_Kinds) "__init__" = some (some (.ref f0))) (i0 : PySem.W.isFn K (.ref f0) = true) (l0 : K.lookup f0 = some ⟨oc0, od0, .func (PySem.W.fnOf "__init__" "Kinds.__init__" (defArgs s_Kinds___init__) (defBody s_Kinds___init__) (defScope s_Kinds___init__) .none kV0 dc0 pm0 an0 cd0 ct0), sl0⟩) (c0 : PySem.W.codeIn K cd0 "Kinds.__init__" = true) (k0 : PySem.W.keepIn K (.ref f0) = true)
    {f5 : Addr} {od5 an5 : Option Addr} {sl5 : Array (Option Value)} {oc5 kV5 dc5 pm5 cd5 ct5 : Value}
    (a5 : PySem.W.findIn K (.ref cC_Kinds) "nothing" = some (some (.ref f5))) (i5 : PySem.W.isFn K (.ref f5) = true) (l5 : K.lookup f5 = some ⟨oc5, od5, .func (PySem.W.fnOf "nothing" "Kinds.nothing" (defArgs s_Kinds_nothing) (defBody s_Kinds_nothing) (defScope s_Kinds_nothing) .none kV5 dc5 pm5 an5 cd5 ct5), sl5⟩) (c5 : PySem.W.codeIn K cd5 "Kinds.nothing" = true) (k5 : PySem.W.keepIn K (.ref f5) = true)
    {f7 : Addr} {od7 an7 : Option Addr} {sl7 : Array (Option Value)} {oc7 kV7 dc7 pm7 cd7 ct7 : Value}
    (a7 : PySem.W.findIn K (.ref cC_Kinds) "above" = some (some (.ref f7))) (i7 : PySem.W.isFn K (.ref f7) = true) (l7 : K.lookup f7 = some ⟨oc7, od7, .func (PySem.W.fnOf "above" "Kinds.above" (defArgs s_Kinds_above) (defBody s_Kinds_above) (defScope s_Kinds_above) .none kV7 dc7 pm7 an7 cd7 ct7), sl7⟩) (c7 : PySem.W.codeIn K cd7 "Kinds.above" = true) (k7 : PySem.W.keepIn K (.ref f7) = true)
    {f10 : Addr} {od10 an10 : Option Addr} {sl10 : Array (Option Value)} {oc10 kV10 dc10 pm10 cd10 ct10 : Value}
    (a10 : PySem.W.findIn K (.ref cC_Kinds) "good" = some (some (.ref f10))) (i10 : PySem.W.isFn K (.ref f10) = true) (l10 : K.lookup f10 = some ⟨oc10, od10, .func (PySem.W.fnOf "good" "Kinds.good" (defArgs s_Kinds_good) (defBody s_Kinds_good) (defScope s_Kinds_good) .none kV10 dc10 pm10 an10 cd10 ct10), sl10⟩) (c10 : PySem.W.codeIn K cd10 "Kinds.good" = true) (k10 : PySem.W.keepIn K (.ref f10) = true)
    {f11 : Addr} {od11 an11 : Option Addr} {sl11 : Array (Option Value)} {oc11 kV11 dc11 pm11 cd11 ct11 : Value}
    (a11 : PySem.W.findIn K (.ref cC_Others) "good" = some (some (.ref f11))) (i11 : PySem.W.isFn K (.ref f11) = true) (l11 : K.lookup f11 = some ⟨oc11, od11, .func (PySem.W.fnOf "good" "Others.good" (defArgs s_Others_good) (defBody s_Others_good) (defScope s_Others_good) .none kV11 dc11 pm11 an11 cd11 ct11), sl11⟩) (c11 : PySem.W.codeIn K cd11 "Others.good" = true) (k11 : PySem.W.keepIn K (.ref f11) = true)
    (am_Others_above : PySem.W.findIn K (.ref cC_Others) "above" = some (some (.ref f7)))
    (am_Others_nothing : PySem.W.findIn K (.ref cC_Others) "nothing" = some (some (.ref f5)))
    (csp_Kinds : PySem.W.specialIn K (.ref cC_Kinds) "__getattribute__" = some (some (.builtin "type.__getattribute__"))) (crd_Kinds : PySem.W.readsIn K cC_Kinds (.type "type") = true)
    (cfi_Kinds_good : PySem.W.findCls K (.ref cC_Kinds) (.type "type") "good" = some (.val (.ref f10)))
    (ica_Kinds : PySem.W.findIn K (.ref cC_Kinds) "__class__" = some (some (.builtin "object.__class__"))) (icg_Kinds : PySem.W.specialIn K (.builtin "object.__class__") "__get__" = some (some (.builtin "getset_descriptor.__get__"))) (icx_Kinds : PySem.W.takesIn K (.builtin "object.__class__") = some true) (imo_Kinds : PySem.W.mroIn K cC_Kinds (.type "object") = some true)
    (ica_Others : PySem.W.findIn K (.ref cC_Others) "__class__" = some (some (.builtin "object.__class__"))) (icg_Others : PySem.W.specialIn K (.builtin "object.__class__") "__get__" = some (some (.builtin "getset_descriptor.__get__"))) (icx_Others : PySem.W.takesIn K (.builtin "object.__class__") = some true) (imo_Others : PySem.W.mroIn K cC_Others (.type "object") = some true)
    (jd_Kinds_Measure : PySem.W.hasDictIn K cC_Measure = true) (jt_Kinds_Measure : PySem.W.typeIn K (.ref cC_Measure) = some (.type "type")) (ju_Kinds_Measure : PySem.W.subIn K (.ref cC_Kinds) (.ref cC_Measure) = some true)
    (jn_Kinds_Others : (cC_Kinds == cC_Others) = false) (jd_Kinds_Others : PySem.W.hasDictIn K cC_Others = true) (jt_Kinds_Others : PySem.W.typeIn K (.ref cC_Others) = some (.type "type")) (ju_Kinds_Others : PySem.W.subIn K (.ref cC_Kinds) (.ref cC_Others) = some false)
    (jd_Others_Kinds : PySem.W.hasDictIn K cC_Kinds = true) (jt_Others_Kinds : PySem.W.typeIn K (.ref cC_Kinds) = some (.type "type")) (ju_Others_Kinds : PySem.W.subIn K (.ref cC_Others) (.ref cC_Kinds) = some true)
    (omk_Kinds : PySem.W.makesIn K cC_Kinds = true) (okC_Kinds : PySem.W.keepIn K (.ref cC_Kinds) = true)
    (am_Others_init : PySem.W.findIn K (.ref cC_Others) "__init__" = some (some (.ref f0)))
    (omk_Others : PySem.W.makesIn K cC_Others = true) (okC_Others : PySem.W.keepIn K (.ref cC_Others) = true)
    (nf_Kinds_held : PySem.W.findIn K (.ref cC_Kinds) "held" = some none)
    (nf_Others_held : PySem.W.findIn K (.ref cC_Others) "held" = some none) :
    ∃ fd : FuncData, (∀ (s : Shared) (v : Value), BindsTo s fd ⟨[v], []⟩ [("_law_script", v)]) ∧ ∀ base : Heap, K.In base → base.Ns mainGlobals mg → FnOk l.prog w K mg base (L2.CX l.prog w) 25 fa fd P_law (spLaw K) := by
  have e := hfa.symm.trans (PySem.W.mg_of X G a14)
  cases e
  exact ⟨_, fun s v => .of_eq rfl, fun base _ _ => law_ok rfl (ok_law (mkT X G a1 l1 c1 k1 a2 l2 c2 k2 a3 l3 c3 k3 a4 l4 c4 k4 a6 l6 c6 k6 a8 l8 c8 k8 a9 l9 c9 k9 a12 l12 c12 k12 a13 l13 c13 k13 a14 l14 c14 k14 z_bool z_int z_isinstance z_len z_min z_range z_reversed z_set z_sorted z_tuple aC_Measure aC_Kinds aC_Others opg_Kinds ohd_Kinds opo_Kinds osa_Kinds opg_Others ohd_Others opo_Others osa_Others a0 i0 l0 c0 k0 a5 i5 l5 c5 k5 a7 i7 l7 c7 k7 a10 i10 l10 c10 k10 a11 i11 l11 c11 k11 am_Others_above am_Others_nothing csp_Kinds crd_Kinds cfi_Kinds_good ica_Kinds icg_Kinds icx_Kinds imo_Kinds ica_Others icg_Others icx_Others imo_Others jd_Kinds_Measure jt_Kinds_Measure ju_Kinds_Measure jn_Kinds_Others jd_Kinds_Others jt_Kinds_Others ju_Kinds_Others jd_Others_Kinds jt_Others_Kinds ju_Others_Kinds omk_Kinds okC_Kinds am_Others_init omk_Others okC_Others nf_Kinds_held nf_Others_held)) hlaw⟩
end Lw

namespace Lw
open PySem PySem.Spec PyProof.Rows L2 G9
theorem cell_ok (ns : List Int) (k : Nat) (hk : k < 1000) (hl : ns.length ≤ 63) : ∃ n : Nat, n < 2147483647 ∧ m__law_cell [.scr (ns.map D.int), .int k] = .ok (.frz (.int n)) := by
  have key : ∀ x : Int, ∃ n : Nat, n < 2147483647 ∧ x % 2147483647 = n := fun x => ⟨(x % 2147483647).toNat, by omega, by omega⟩
  unfold m__law_cell b__law_cell
  have c1 : (k : Int) < 18446744073709551616 := by omega
  have c2 : -18446744073709551616 < (k : Int) := by omega
  by_cases h : k < ns.length
  · obtain ⟨n, hn, e⟩ := key (ns[k] * 48271 + (k : Int) * k * 69621)
    exact ⟨n, hn, by simp [atI_nn, G9.getD_map_int, h, c1, c2, e]⟩
  · obtain ⟨n, hn, e⟩ := key ((k : Int) * k * 69621 + ns.length * 7919 + 5)
    have c3 : (ns.length : Int) < 18446744073709551616 := by omega
    have c4 : -18446744073709551616 < (ns.length : Int) := by omega
    exact ⟨n, hn, by simp [h, Int.not_lt, c1, c2, c3, c4, e]⟩
theorem tag_turn (s v at' mo : Int) (many : Nat) (h8 : many ≤ 8) (hm : (mo < 18446744073709551616 ∧ -18446744073709551616 < mo)) : ∃ t e, tl__law_tag_1 [.frz (.int s), .frz (.int v), .frz (.str [97, 98, 99, 100, 101, 102, 103, 104, 105, 106, 107, 108, 109, 110, 111, 112, 113, 114, 115, 116, 117, 118, 119, 120, 121, 122]), .frz (.int many), .frz (.int at'), .frz (.int mo), .dead, .dead, .dead] = .rt (.frz (.str t)) e ∧ t.length = many ∧ ∀ c ∈ t, 97 ≤ c ∧ c ≤ 122 := by
  unfold tl__law_tag_1
  obtain ⟨e, he, t, x, rfl, hl, hp⟩ := runFor_inv (g := gN 7) (ks := [7, 8]) (body := lb__law_tag_0)
      (fun k env => ∃ (t : Wd) (x : Slot), env = [.frz (.int s), .frz (.int v), .frz (.str [97, 98, 99, 100, 101, 102, 103, 104, 105, 106, 107, 108, 109, 110, 111, 112, 113, 114, 115, 116, 117, 118, 119, 120, 121, 122]), .frz (.int many), .frz (.int at'), .frz (.int mo), .frz (.str t), .dead, .dead] ∧ t.length = k ∧ (∀ c ∈ t, 97 ≤ c ∧ c ≤ 122))
      (rngD 0 many) 0 [.frz (.int s), .frz (.int v), .frz (.str [97, 98, 99, 100, 101, 102, 103, 104, 105, 106, 107, 108, 109, 110, 111, 112, 113, 114, 115, 116, 117, 118, 119, 120, 121, 122]), .frz (.int many), .frz (.int at'), .frz (.int mo), .frz (.str []), .dead, .dead]
      (by
        rintro j hj env ⟨t, x, rfl, hl, hp⟩
        rw [rngD_map] at hj
        simp at hj
        have hx : t.length + 1 ≤ 16777216 := by omega
        have h9 : (0 : Int) < (j : Int) + 9 := by omega
        have h9b : (j : Int) + 9 < 1073741824 := by omega
        by_cases c : (j : Int) = at'
        · obtain ⟨c, hc, h1, h2⟩ := abc_at (s / ((j : Int) + 9) + mo)
          refine ⟨_, ?_, t ++ [c], .dead, rfl, by simp [hl], ?_⟩
          · subst at'
            simp [lb__law_tag_0, rngD_map, hc, szl, hx, h9, h9b]
          · intro x hx2
            rcases List.mem_append.mp hx2 with h | h
            · exact hp x h
            · rw [List.mem_singleton.mp h]
              exact ⟨h1, h2⟩
        · obtain ⟨c', hc, h1, h2⟩ := abc_at (s / ((j : Int) + 9))
          refine ⟨_, ?_, t ++ [c'], .dead, rfl, by simp [hl], ?_⟩
          · simp [lb__law_tag_0, rngD_map, hc, szl, hx, h9, h9b, c]
          · intro x hx2
            rcases List.mem_append.mp hx2 with h | h
            · exact hp x h
            · rw [List.mem_singleton.mp h]
              exact ⟨h1, h2⟩)
      ⟨[], .dead, rfl, rfl, by simp⟩
  rw [rngD_map] at hl
  simp at hl
  have h1 : (many : Int) < 4611686018427387904 := by omega
  have h2 : -4611686018427387904 ≤ (many : Int) := by omega
  exact ⟨t, _, by simp [szl, h1, h2, he]; rfl, hl, hp⟩
theorem tag_ok (s v : Nat) (hv : v < 1000000) : ∃ t, m__law_tag [.int s, .int v] = .ok (.frz (.str t)) ∧ Tg t := by
  unfold m__law_tag
  rw [fnOf_d]
  unfold b__law_tag
  have pos : ∀ x : Int, ∃ m : Nat, 1 + x % 8 = m ∧ 1 ≤ m ∧ m ≤ 8 := fun x => ⟨(1 + x % 8).toNat, by omega, by omega, by omega⟩
  obtain ⟨m1, e1, h1, h2⟩ := pos s
  obtain ⟨m2, e2, h3, h4⟩ := pos ((s : Int) / 8 + v)
  have q1 : 0 < m1 := by omega
  have a1 : ((v : Int) < 18446744073709551616 ∧ -18446744073709551616 < (v : Int)) := by omega
  have a2 : ((v : Int) / 8 < 18446744073709551616 ∧ -18446744073709551616 < (v : Int) / 8) := by omega
  by_cases c : (s : Int) / 4096 % 2 = 1
  · obtain ⟨t, e, ht, hl, hp⟩ := tag_turn s v (m2 - 1) (v / 8) m2 h4 a2
    refine ⟨t, ?_, by omega, by omega, hp⟩
    simp [c, e1, e2, q1, ht]
  · obtain ⟨t, e, ht, hl, hp⟩ := tag_turn s v (s / 8 % m1) v m1 h2 a1
    refine ⟨t, ?_, by omega, by omega, hp⟩
    simp [c, e1, e2, q1, ht]
theorem lays_nI (ks : List Nat) : D.lays (ks.map nI) = true := lays_all fun x hx => by
  obtain ⟨k, _, rfl⟩ := List.mem_map.mp hx
  rfl
theorem dep_nIs (ks : List Nat) : (D.lst (ks.map nI)).dep ≤ 2 := by
  rw [dep_lst]
  have := deps_le (n := 1) (xs := ks.map nI) fun x hx => by
    obtain ⟨k, _, rfl⟩ := List.mem_map.mp hx
    unfold nI D.dep
    rw [D.pd]
    simp [PyData.depth]
  omega
def RuT (m : Nat) (q : Ru) : Prop := q.k < m ∧ q.i < m ∧ q.r < m ∧ Tg q.w
structure Fs (m : Nat) (st en : List Nat) (ru : List Ru) : Prop where
  m20 : m ≤ 20
  ms : ∀ k ∈ st, k < m
  me : ∀ k ∈ en, k < m
  mr : ∀ q ∈ ru, RuT m q
  ls : st.length ≤ 6
  le : en.length ≤ 6
  lr : ru.length ≤ 30
theorem tg_sgn {w : Wd} (h : Tg w) : sgn w := fun c hc => by have := (h.2.2 c hc).2; omega
theorem shape_rules (ns : List Int) (hl : ns.length ≤ 63) (m c : Nat) (hm : 1 ≤ m) (side : Nat) (hsd : side ≤ 1) (x1 x4 x5 x7 : Slot) (n : Nat) (hn : n ≤ 30) : ∃ qs : List Ru,
    runFor (gN 6) lb__law_shape_0 [6, 9, 10] (rngC (4 + side) 2 n) [.frz (.scr (ns.map D.int)), x1, .frz (nI c), .frz (nI m), x4, x5, .dead, x7, .own (.lst []), .dead, .dead] = .nx [.frz (.scr (ns.map D.int)), x1, .frz (nI c), .frz (nI m), x4, x5, .dead, x7, .own (.lst (qs.map Ru.d)), .dead, .dead] ∧ (∀ q ∈ qs, RuT m q) ∧ qs.length ≤ 30 := by
  obtain ⟨seed, _, h1⟩ := cell_ok ns 0 (by omega) hl
  have hi1 : m__law_cell [.scr (ns.map D.int), .int 0] = .ok (.frz (.int seed)) := h1
  obtain ⟨e, he, qs, rfl, hq, hlq⟩ := runFor_inv (g := gN 6) (body := lb__law_shape_0) (ks := [6, 9, 10]) (fun k env => ∃ qs : List Ru, env = [.frz (.scr (ns.map D.int)), x1, .frz (nI c), .frz (nI m), x4, x5, .dead, x7, .own (.lst (qs.map Ru.d)), .dead, .dead] ∧ (∀ q ∈ qs, RuT m q) ∧ qs.length = k) (rngC (4 + side) 2 n) 0 _
    (fun j hj env ⟨qs, h, hq, hlq⟩ => by
      subst h
      have hj2 : j < n := by simpa [rngC] using hj
      obtain ⟨d, hd, hc⟩ := cell_ok ns (4 + side + j * 2) (by omega) hl
      have hx : qs.length < 16777216 := by omega
      have m0 : 0 < m := hm
      have ej : (rngC (4 + side) 2 n)[j] = nI (4 + side + j * 2) := by simp [rngC, nI]
      have p0 : 0 < 1 + c / 3 % 3 := by omega
      have p1 : d / 262144 % (1 + c / 3 % 3) < 1 + c / 3 % 3 := Nat.mod_lt _ p0
      have p2 : (0 : Int) < 1 + (c : Int) / 3 % 3 := by omega
      obtain ⟨w, hw, hg⟩ := tag_ok seed (d / 262144 % (1 + c / 3 % 3)) (by omega)
      refine ⟨_, ?_, qs ++ [⟨d % m, w, d / 64 % m, d / 4096 % m⟩], rfl, fun q hq2 => ?_, by simp; omega⟩
      · have hw2 : m__law_tag [.int seed, .int ((d : Int) / 262144 % (1 + (c : Int) / 3 % 3))] = .ok (.frz (.str w)) := by
          rw [← hw]
          congr 3
        have hc2 : m__law_cell [.scr (ns.map D.int), .int (4 + (side : Int) + (j : Int) * 2)] = .ok (.frz (.int d)) := by
          rw [← hc]
          congr 3
        have ir := Ru.imms qs
        have lr : (qs.map Ru.d).length < 16777216 := by rw [List.length_map]; exact hx
        have m2 : (qs ++ [(⟨d % m, w, d / 64 % m, d / 4096 % m⟩ : Ru)]).map Ru.d = qs.map Ru.d ++ [.tup [.int ((d % m : Nat) : Int), .str w, .int ((d / 64 % m : Nat) : Int), .int ((d / 4096 % m : Nat) : Int)]] := by rw [List.map_append]; rfl
        rw [ej, m2]
        generalize D.scr (ns.map D.int) = SC at *
        generalize qs.map Ru.d = QS at *
        simp [lb__law_shape_0, nI, hc2, hw2, hi1, m0, p2, szl, lr, ir]
      · rcases List.mem_append.mp hq2 with h | h
        · exact hq q h
        · rw [List.mem_singleton.mp h]
          exact ⟨Nat.mod_lt _ hm, Nat.mod_lt _ hm, Nat.mod_lt _ hm, hg⟩) ⟨[], rfl, fun q hq => (by cases hq), rfl⟩
  refine ⟨qs, he, hq, ?_⟩
  have : (rngC (4 + side) 2 n).length = n := by simp [rngC]
  omega
theorem drawn_row (a c turn m : Nat) (hm : 1 ≤ m) (hc : c ≤ 8) (hd : 0 < a) (ha : a ≤ 100) (x0 x1 x2 x5 x7 x8 x9 x10 : Slot) :
    runLc (gN 6) cYes (eMod (eFdiv (mVar 4) (eAdd (mVar 6) (mC (.int a)))) (mVar 3)) [x0, x1, x2, .frz (nI m), .frz (nI turn), x5, .dead, x7, x8, x9, x10] ((List.range c).map nI) = .ok (((List.range c).map fun k => turn / (k + a) % m).map nI) := by
  have e : ∀ ks : List Nat, (∀ k ∈ ks, k < 9) → runLc (gN 6) cYes (eMod (eFdiv (mVar 4) (eAdd (mVar 6) (mC (.int a)))) (mVar 3)) [x0, x1, x2, .frz (nI m), .frz (nI turn), x5, .dead, x7, x8, x9, x10] (ks.map nI) = .ok ((ks.map fun k => turn / (k + a) % m).map nI) := by
    intro ks
    induction ks with
    | nil => exact fun _ => rfl
    | cons k ks ih =>
      intro hk
      have a1 := hk k List.mem_cons_self
      have a2 : (0 : Int) < (k : Int) + a := by omega
      have a3 : (k : Int) + a < 1073741824 := by omega
      have a4 : 0 < m := hm
      have a5 : 0 < k + a := by omega
      simp only [List.map_cons, runLc, ih fun x hx => hk x (List.mem_cons_of_mem _ hx)]
      simp [nI, a2, a3, a4]
  exact e _ fun k hk => by have := List.mem_range.mp hk; omega
theorem ss_fs (st : List Nat) {m : Nat} (h : ∀ k ∈ st, k < m) (hl : st.length ≤ 6) : ∃ us : List Nat, ssD (st.map nI) = us.map nI ∧ us.length ≤ 6 ∧ ∀ k ∈ us, k < m := by
  obtain ⟨us, e1, e2, e3⟩ := ssD_nats st
  have ul := ssD_len (st.map nI)
  rw [e1] at ul
  simp at ul
  exact ⟨us, e1, by omega, fun k hk => h k ((e3 k).mp hk)⟩
theorem rgc2_small : ((List.range 2).all fun (a : Nat) => (List.range 85).all fun (b : Nat) => Builtin.Range.small ((4 + a : Nat) : Int) (b : Int) 2) = true := by decide +kernel
theorem rgc2 (a b : Nat) (ha : a ≤ 1) (hb : b ≤ 84) : ∃ n : Nat, RgC ((4 + a : Nat) : Int) b 2 n ∧ n ≤ (b - (4 + a) + 1) / 2 := by
  have sm : Builtin.Range.small ((4 + a : Nat) : Int) (b : Int) 2 = true :=
    List.all_eq_true.mp (List.all_eq_true.mp rgc2_small a (List.mem_range.mpr (by omega))) b (List.mem_range.mpr (by omega))
  by_cases h : ((4 + a : Nat) : Int) < b
  · refine ⟨(b - (4 + a) - 1) / 2 + 1, ⟨by decide, by decide, sm, ?_⟩, by omega⟩
    simp only [Builtin.Range.rangeSize]
    rw [if_pos (by decide), if_pos h]
    omega
  · refine ⟨0, ⟨by decide, by decide, sm, ?_⟩, by omega⟩
    simp only [Builtin.Range.rangeSize]
    rw [if_pos (by decide), if_neg h]
    rfl
theorem shape_ok (ns : List Int) (hl : ns.length ≤ 63) (side : Nat) (hsd : side ≤ 1) : ∃ m st en ru, m__law_shape [.scr (ns.map D.int), nI side] = .ok (.frz (FmD m st en ru)) ∧ Fs m st en ru := by
  obtain ⟨c, dc, hc⟩ := cell_ok ns side (by omega) hl
  obtain ⟨turn, d2, h2⟩ := cell_ok ns (2 + side) (by omega) hl
  have hi2 : m__law_cell [.scr (ns.map D.int), .int (2 + (side : Int))] = .ok (.frz (.int turn)) := by
    rw [← h2]
    congr 3
  have es : List.map Slot.frz [D.scr (ns.map D.int), nI side] ++ List.replicate (11 - [D.scr (ns.map D.int), nI side].length) Slot.dead = [.frz (.scr (ns.map D.int)), .frz (nI side), .dead, .dead, .dead, .dead, .dead, .dead, .dead, .dead, .dead] := rfl
  have first : ∀ k : G9.Env → Out, sSeq (sSet 2 (oF m__law_cell (aCons (mVar 0) (aCons (mVar 1) (aNil))))) (sSeq (sSet 3 (oR (rAdd2 (mC (.int 1)) (eMod (mVar 2) (mC (.int 3)))))) k) [.frz (.scr (ns.map D.int)), .frz (nI side), .dead, .dead, .dead, .dead, .dead, .dead, .dead, .dead, .dead] = k [.frz (.scr (ns.map D.int)), .frz (nI side), .frz (nI c), .frz (.int (1 + (c : Int) % 3)), .dead, .dead, .dead, .dead, .dead, .dead, .dead] := fun k => by
    generalize D.scr (ns.map D.int) = SC at *
    simp [nI, hc]
  unfold m__law_shape
  rw [fnOf_d]
  unfold b__law_shape
  rw [es, first]
  by_cases h0 : (c : Int) / 9 % 8 = 0
  · refine ⟨0, [], [], [], ?_, by decide, fun k h => (by cases h), fun k h => (by cases h), fun k h => (by cases h), by decide, by decide, by decide⟩
    generalize D.scr (ns.map D.int) = SC at *
    simp [nI, FmD, szl, h0]
  obtain ⟨m, m0, hm20, hm1, hm2⟩ : ∃ m : Nat, 0 < m ∧ m ≤ 20 ∧ ((c : Int) / 72 % 6 = 1 → 11 + (c : Int) / 432 % 4 = m) ∧ (¬ (c : Int) / 72 % 6 = 1 → 1 + (c : Int) % 3 = m) := by
    by_cases e : (c : Int) / 72 % 6 = 1
    · exact ⟨11 + c / 432 % 4, by omega, by omega, fun _ => by omega, fun z => absurd e z⟩
    · exact ⟨1 + c % 3, by omega, by omega, fun z => absurd z e, fun _ => by omega⟩
  have third : sIf (mB (eEq 536 (eMod (eFdiv (mVar 2) (mC (.int 9))) (mC (.int 8))) (mC (.int 0)))) (sRet (oTup (aoCons (oV (mC (.int 0))) (aoCons (oTup (aoNil)) (aoCons (oTup (aoNil)) (aoCons (oTup (aoNil)) (aoNil))))))) (sNext) [.frz (.scr (ns.map D.int)), .frz (nI side), .frz (nI c), .frz (.int (1 + (c : Int) % 3)), .dead, .dead, .dead, .dead, .dead, .dead, .dead] = .nx [.frz (.scr (ns.map D.int)), .frz (nI side), .frz (nI c), .frz (.int (1 + (c : Int) % 3)), .dead, .dead, .dead, .dead, .dead, .dead, .dead] := by
    generalize D.scr (ns.map D.int) = SC at *
    simp [nI, h0]
  have fourth : sIf (mB (eEq 536 (eMod (eFdiv (mVar 2) (mC (.int 72))) (mC (.int 6))) (mC (.int 1)))) (sSet 3 (oR (rAdd2 (mC (.int 11)) (eMod (eFdiv (mVar 2) (mC (.int 432))) (mC (.int 4)))))) (sNext) [.frz (.scr (ns.map D.int)), .frz (nI side), .frz (nI c), .frz (.int (1 + (c : Int) % 3)), .dead, .dead, .dead, .dead, .dead, .dead, .dead] = .nx [.frz (.scr (ns.map D.int)), .frz (nI side), .frz (nI c), .frz (nI m), .dead, .dead, .dead, .dead, .dead, .dead, .dead] := by
    generalize D.scr (ns.map D.int) = SC at *
    by_cases e : (c : Int) / 72 % 6 = 1
    · have q := hm1 e
      simp [nI, e, q]
    · have q := hm2 e
      simp [nI, e, q]
  rw [sSeq_d, third]; dsimp only
  unfold tl__law_shape_2
  rw [sSeq_d, fourth]; dsimp only
  obtain ⟨n, hn, hnl⟩ := rgc2 side (if 36 < ns.length then 36 else ns.length) hsd (by split <;> omega)
  have hn20 : n ≤ 30 := by split at hnl <;> omega
  obtain ⟨ct, ect, lct⟩ : ∃ ct : Nat, (if 1 + (turn : Int) % 3 + (m : Int) / 4 < (turn : Int) % 8 then 1 + (turn : Int) % 3 + (m : Int) / 4 else (turn : Int) % 8) = ct ∧ ct ≤ 8 := by
    split
    · exact ⟨1 + turn % 3 + m / 4, by omega, by omega⟩
    · exact ⟨turn % 8, by omega, by omega⟩
  have lct6 : ct ≤ 7 := by
    split at ect <;> omega
  obtain ⟨ch, ech, lch⟩ : ∃ ch : Nat, (if (0 : Int) < (turn : Int) / 3 % 8 then (1 : Int) else 0) + (turn : Int) / 24 % 2 = ch ∧ ch ≤ 2 := by
    split
    · exact ⟨1 + turn / 24 % 2, by omega, by omega⟩
    · exact ⟨0 + turn / 24 % 2, by omega, by omega⟩
  have en0 := fun (x5 : Slot) => drawn_row 7 ct turn m m0 lct (by decide) (by decide) (.frz (.scr (ns.map D.int))) (.frz (nI side)) (.frz (nI c)) x5 .dead .dead .dead .dead
  have st0 := fun (x5 : Slot) => drawn_row 11 ch turn m m0 (by omega) (by decide) (by decide) (.frz (.scr (ns.map D.int))) (.frz (nI side)) (.frz (nI c)) x5 .dead .dead .dead .dead
  have enm : ∀ k ∈ (List.range ct).map fun k => turn / (k + 7) % m, k < m := fun k hk => by
    obtain ⟨j, _, rfl⟩ := List.mem_map.mp hk
    exact Nat.mod_lt _ m0
  have stm : ∀ k ∈ (List.range ch).map fun k => turn / (k + 11) % m, k < m := fun k hk => by
    obtain ⟨j, _, rfl⟩ := List.mem_map.mp hk
    exact Nat.mod_lt _ m0
  have lct7 : ct ≤ 6 := by
    have := hm1; have := hm2
    by_cases e : (c : Int) / 72 % 6 = 1
    · have := hm1 e
      split at ect <;> omega
    · have := hm2 e
      split at ect <;> omega
  have enl : ((List.range ct).map fun k => turn / (k + 7) % m).length ≤ 6 := by simp; omega
  have stl : ((List.range ch).map fun k => turn / (k + 11) % m).length ≤ 6 := by simp; omega
  generalize ((List.range ct).map fun k => turn / (k + 7) % m) = en at en0 enm enl
  generalize ((List.range ch).map fun k => turn / (k + 11) % m) = st at st0 stm stl
  obtain ⟨qs, r1, r2, r3⟩ := shape_rules ns hl m c m0 side hsd (.frz (nI side)) (.frz (nI turn)) (.own (.lst (en.map nI))) (.own (.lst (st.map nI))) n hn20
  obtain ⟨us, e1, e3, e4⟩ := ss_fs st stm stl
  obtain ⟨vs, f1, f3, f4⟩ := ss_fs en enm enl
  obtain ⟨ws, g1, g2, g3, g4⟩ := ssD_rus qs
  refine ⟨m, us, vs, ws, ?_, hm20, e4, f4, fun q h => r2 q ((g4 q).mp h), e3, f3, by omega⟩
  have o1 : srtS 536 (st.map nI) = .ok (us.map nI) := by rw [srtS_ok (ssOk_nats (by decide) (by omega)), e1]
  have o2 : srtS 536 (en.map nI) = .ok (vs.map nI) := by rw [srtS_ok (ssOk_nats (by decide) (by omega)), f1]
  have o3 : srtS 536 (qs.map Ru.d) = .ok (ws.map Ru.d) := by rw [srtS_ok (ssOk_rus (by decide) (fun q h => tg_sgn (r2 q h).2.2.2) (by omega)), g1]
  have a2 : sSet 4 (oF m__law_cell (aCons (mVar 0) (aCons (eAdd (mC (.int 2)) (mVar 1)) (aNil)))) [.frz (.scr (ns.map D.int)), .frz (nI side), .frz (nI c), .frz (nI m), .dead, .dead, .dead, .dead, .dead, .dead, .dead] = .nx [.frz (.scr (ns.map D.int)), .frz (nI side), .frz (nI c), .frz (nI m), .frz (nI turn), .dead, .dead, .dead, .dead, .dead, .dead] := by
    generalize D.scr (ns.map D.int) = SC at *
    simp [hi2, nI]
  have k2 : (ct : Int) < 4611686018427387904 := by omega
  have k3 : -4611686018427387904 ≤ (ct : Int) := by omega
  have k4 : ct ≤ 16777216 := by omega
  have k6 : (ch : Int) < 4611686018427387904 := by omega
  have k7 : -4611686018427387904 ≤ (ch : Int) := by omega
  have k8 : ch ≤ 16777216 := by omega
  have ien := nI_imms en
  have ist := nI_imms st
  have a3 : sSet 5 (oL (fLc (jRng (aCons (eMin (aCons (eMod (mVar 4) (mC (.int 8))) (aCons (eAdd (eAdd (mC (.int 1)) (eMod (mVar 4) (mC (.int 3)))) (eFdiv (mVar 3) (mC (.int 4)))) (aNil)))) (aNil))) (gN 6) (cYes) (eMod (eFdiv (mVar 4) (eAdd (mVar 6) (mC (.int 7)))) (mVar 3)) [6])) [.frz (.scr (ns.map D.int)), .frz (nI side), .frz (nI c), .frz (nI m), .frz (nI turn), .dead, .dead, .dead, .dead, .dead, .dead] = .nx [.frz (.scr (ns.map D.int)), .frz (nI side), .frz (nI c), .frz (nI m), .frz (nI turn), .own (.lst (en.map nI)), .dead, .dead, .dead, .dead, .dead] := by
    rw [sSet_d, oL_d, fLc_d]
    have j0 : jRng (aCons (eMin (aCons (eMod (mVar 4) (mC (.int 8))) (aCons (eAdd (eAdd (mC (.int 1)) (eMod (mVar 4) (mC (.int 3)))) (eFdiv (mVar 3) (mC (.int 4)))) (aNil)))) (aNil)) [.frz (.scr (ns.map D.int)), .frz (nI side), .frz (nI c), .frz (nI m), .frz (nI turn), .dead, .dead, .dead, .dead, .dead, .dead] = .ok (true, (List.range ct).map nI) := by
      rw [← rng_nI]
      generalize D.scr (ns.map D.int) = SC at *
      simp [nI, ect, k2, k3]
    have en1 : runLc (gN 6) cYes (eMod (eFdiv (mVar 4) (eAdd (mVar 6) (mC (.int 7)))) (mVar 3)) [.frz (.scr (ns.map D.int)), .frz (nI side), .frz (nI c), .frz (nI m), .frz (nI turn), .dead, .dead, .dead, .dead, .dead, .dead] ((List.range ct).map nI) = .ok (en.map nI) := en0 _
    rw [j0]
    simp [szl, k4, en1, ien]
  have a4 : sSet 7 (oL (fLc (jRng (aCons (eAdd (eInt (aCons (eGt (eMod (eFdiv (mVar 4) (mC (.int 3))) (mC (.int 8))) (mC (.int 0))) (aNil))) (eMod (eFdiv (mVar 4) (mC (.int 24))) (mC (.int 2)))) (aNil))) (gN 6) (cYes) (eMod (eFdiv (mVar 4) (eAdd (mVar 6) (mC (.int 11)))) (mVar 3)) [6])) [.frz (.scr (ns.map D.int)), .frz (nI side), .frz (nI c), .frz (nI m), .frz (nI turn), .own (.lst (en.map nI)), .dead, .dead, .dead, .dead, .dead] = .nx [.frz (.scr (ns.map D.int)), .frz (nI side), .frz (nI c), .frz (nI m), .frz (nI turn), .own (.lst (en.map nI)), .dead, .own (.lst (st.map nI)), .dead, .dead, .dead] := by
    rw [sSet_d, oL_d, fLc_d]
    have j0 : jRng (aCons (eAdd (eInt (aCons (eGt (eMod (eFdiv (mVar 4) (mC (.int 3))) (mC (.int 8))) (mC (.int 0))) (aNil))) (eMod (eFdiv (mVar 4) (mC (.int 24))) (mC (.int 2)))) (aNil)) [.frz (.scr (ns.map D.int)), .frz (nI side), .frz (nI c), .frz (nI m), .frz (nI turn), .own (.lst (en.map nI)), .dead, .dead, .dead, .dead, .dead] = .ok (true, (List.range ch).map nI) := by
      rw [← rng_nI]
      generalize D.scr (ns.map D.int) = SC at *
      generalize en.map nI = EN at *
      by_cases z : (0 : Int) < (turn : Int) / 3 % 8
      · rw [if_pos z] at ech
        have ech' : (1 : Int) + (turn : Int) / 24 % 2 = ch := by omega
        simp [nI, z, ech', k6, k7]
      · rw [if_neg z] at ech
        have ech' : (turn : Int) / 24 % 2 = ch := by omega
        have ech2 : (0 : Int) + (turn : Int) / 24 % 2 = ch := by omega
        simp [nI, z, ech', ech2, k6, k7]
    have st1 : runLc (gN 6) cYes (eMod (eFdiv (mVar 4) (eAdd (mVar 6) (mC (.int 11)))) (mVar 3)) [.frz (.scr (ns.map D.int)), .frz (nI side), .frz (nI c), .frz (nI m), .frz (nI turn), .own (.lst (en.map nI)), .dead, .dead, .dead, .dead, .dead] ((List.range ch).map nI) = .ok (st.map nI) := st0 _
    rw [j0]
    generalize en.map nI = EN at *
    simp [szl, k8, st1, ist]
  have a5 : sSet 8 (oLst (aoNil)) [.frz (.scr (ns.map D.int)), .frz (nI side), .frz (nI c), .frz (nI m), .frz (nI turn), .own (.lst (en.map nI)), .dead, .own (.lst (st.map nI)), .dead, .dead, .dead] = .nx [.frz (.scr (ns.map D.int)), .frz (nI side), .frz (nI c), .frz (nI m), .frz (nI turn), .own (.lst (en.map nI)), .dead, .own (.lst (st.map nI)), .own (.lst []), .dead, .dead] := by
    generalize D.scr (ns.map D.int) = SC at *
    generalize en.map nI = EN at *
    generalize st.map nI = ST at *
    simp
  have a6 : sFor (iRng3M (aCons (eAdd (mC (.int 4)) (mVar 1)) (aCons (eMin (aCons (eLen (aCons (mVar 0) (aNil))) (aCons (mC (.int 36)) (aNil)))) (aCons (mC (.int 2)) (aNil))))) (gN 6) lb__law_shape_0 [6, 9, 10] [.frz (.scr (ns.map D.int)), .frz (nI side), .frz (nI c), .frz (nI m), .frz (nI turn), .own (.lst (en.map nI)), .dead, .own (.lst (st.map nI)), .own (.lst []), .dead, .dead] = .nx [.frz (.scr (ns.map D.int)), .frz (nI side), .frz (nI c), .frz (nI m), .frz (nI turn), .own (.lst (en.map nI)), .dead, .own (.lst (st.map nI)), .own (.lst (qs.map Ru.d)), .dead, .dead] := by
    rw [← r1]
    have hr : rng3 [.int (4 + (side : Int)), .int (if (36 : Int) < ns.length then 36 else ns.length), .int 2] = some (4 + (side : Int), 2, n) := by
      have hn' : RgC (4 + (side : Int)) (if (36 : Int) < ns.length then 36 else ns.length) 2 n := by
        by_cases hb : 36 < ns.length
        · have hb' : (36 : Int) < ns.length := by omega
          rw [if_pos hb] at hn
          rw [if_pos hb']
          exact hn
        · have hb' : ¬ (36 : Int) < ns.length := by omega
          rw [if_neg hb] at hn
          rw [if_neg hb']
          exact hn
      exact rng3_ok hn'
    simp [nI, hr]
  unfold tl__law_shape_1
  rw [sSeq_d, a2]; dsimp only
  rw [sSeq_d, a3]; dsimp only
  rw [sSeq_d, a4]; dsimp only
  rw [sSeq_d, a5]; dsimp only
  rw [sSeq_d, a6]; dsimp only
  have iu := nI_imms us
  have iv := nI_imms vs
  have iw := Ru.imms ws
  have fD : FmD m us vs ws = .tup [nI m, .tup (us.map nI), .tup (vs.map nI), .tup (ws.map Ru.d)] := rfl
  rw [fD]
  generalize D.scr (ns.map D.int) = SC at *
  generalize en.map nI = EN at *
  generalize st.map nI = ST at *
  generalize qs.map Ru.d = QS at *
  generalize us.map nI = US at *
  generalize vs.map nI = VS at *
  generalize ws.map Ru.d = WS at *
  simp [o1, o2, o3, iu, iv, iw, szl, nI]
def rok : List Wd → Nat → Prop
  | [], _ => True
  | w :: r, d => (w = [47] ∧ rok r (d + 1)) ∨ (w ≠ [47] ∧ sgn w ∧ 0 < d ∧ rok r (d - 1))
theorem rok_ends : ∀ (n : Nat) (r : List Wd) (d : Nat), rok r (d + n) → rok (List.replicate n [47] ++ r) d
  | 0, r, d, h => h
  | n + 1, r, d, h => by
    rw [List.replicate_succ]
    exact .inl ⟨rfl, rok_ends n r (d + 1) (by rw [Nat.add_right_comm]; exact h)⟩
theorem rep_str (n : Nat) : ((List.range n).map fun _ => ([47] : Wd)) = List.replicate n [47] := by
  induction n with
  | zero => rfl
  | succ n ih => rw [List.range_succ, List.map_append, ih, List.replicate_succ']; rfl
abbrev EWo (SC : D) (seed rare : Nat) (ws : List Wd) (o : Nat) : G9.Env := [.frz SC, .frz (.int 3), .frz (.int 63), .frz (nI seed), .frz (nI rare), .own (.lst (ws.map D.str)), .frz (.int o), .dead, .dead]
theorem words_turn (ns : List Int) (hl : ns.length ≤ 63) (seed rare : Nat) (hr : 0 < rare) (j : Nat) (hj : j < 900) (ws : List Wd) (o : Nat) (hr2 : rok ws.reverse o) (hw : ws.length ≤ 900) (ho : o ≤ ws.length) :
    ∃ ws2 o2, turn (gN 7) lb__law_words_0 [7, 8] (nI j) (EWo (.scr (ns.map D.int)) seed rare ws o) = .nx (EWo (.scr (ns.map D.int)) seed rare ws2 o2) ∧ rok ws2.reverse o2 ∧ ws2.length = ws.length + 1 ∧ o2 ≤ ws2.length := by
  obtain ⟨d, hd, hc⟩ := cell_ok ns j (by omega) hl
  have hc' : m__law_cell [.scr (ns.map D.int), .int j] = .ok (.frz (.int d)) := hc
  obtain ⟨w, hw1, hw2⟩ := tag_ok seed (d / 12 % 3) (by omega)
  have hw1' : m__law_tag [.int seed, .int ((d : Int) / 12 % 3)] = .ok (.frz (.str w)) := by
    rw [← hw1]
    congr 3
  have iw := strs_imm ws
  have lw : (ws.map D.str).length < 16777216 := by rw [List.length_map]; omega
  have m2 : ∀ w, (ws ++ [w]).map D.str = ws.map D.str ++ [.str w] := fun w => by rw [List.map_append]; rfl
  have hr' : (0 : Int) < rare := by omega
  unfold EWo
  by_cases c : 0 < o ∧ ((d : Int) % rare = 0 ∨ 60 < o)
  · refine ⟨ws ++ [[47]], o - 1, ?_, ?_, by simp, by simp; omega⟩
    · have e1 : ((o - 1 : Nat) : Int) = (o : Int) - 1 := by omega
      rw [m2, e1]
      obtain ⟨c1, c2⟩ := c
      have c1' : (0 : Int) < o := by omega
      generalize D.scr (ns.map D.int) = SC at *
      generalize ws.map D.str = WS at *
      rcases c2 with c2 | c2
      · simp [lb__law_words_0, nI, hc', c1, c1', c2, szl, lw, iw, hr, hr']
      · have c2' : (60 : Int) < o := by omega
        by_cases c3 : (d : Int) % rare = 0
        · simp [lb__law_words_0, nI, hc', c1, c1', c3, szl, lw, iw, hr, hr']
        · simp [lb__law_words_0, nI, hc', c1, c1', c2, c2', c3, szl, lw, iw, hr, hr']
    · rw [List.reverse_append]
      exact .inl ⟨rfl, by rw [Nat.sub_add_cancel c.1]; exact hr2⟩
  · refine ⟨ws ++ [w], o + 1, ?_, ?_, by simp, by simp; omega⟩
    · have e1 : ((o + 1 : Nat) : Int) = (o : Int) + 1 := by omega
      rw [m2, e1]
      generalize D.scr (ns.map D.int) = SC at *
      generalize ws.map D.str = WS at *
      by_cases c1 : 0 < o
      · have c1' : (0 : Int) < o := by omega
        have c2 : ¬ (d : Int) % rare = 0 := fun z => c ⟨c1, .inl z⟩
        have c3 : ¬ 60 < o := fun z => c ⟨c1, .inr z⟩
        have c3' : ¬ (60 : Int) < o := by omega
        simp [lb__law_words_0, nI, hc', hw1', c1, c1', c2, c3, c3', szl, lw, iw, hr, hr']
      · have c1' : ¬ (0 : Int) < o := by omega
        simp [lb__law_words_0, nI, hc', hw1', c1, c1', szl, lw, iw]
    · rw [List.reverse_append]
      exact .inr ⟨hw2.ne, tg_sgn hw2, by omega, by simpa using hr2⟩
theorem words_ok (ns : List Int) (hl : ns.length ≤ 63) : ∃ ws : List Wd, m__law_words [.scr (ns.map D.int), .int 3, .int 63] = .ok (.own (.lst (ws.map D.str))) ∧ rok ws.reverse 0 ∧ ws.length ≤ 200 := by
  obtain ⟨seed, d1, h1⟩ := cell_ok ns 0 (by omega) hl
  have h1' : m__law_cell [.scr (ns.map D.int), .int 0] = .ok (.frz (.int seed)) := h1
  obtain ⟨rare, er, lr0⟩ : ∃ r : Nat, (2 : Int) + (seed : Int) / 64 % 3 = r ∧ 0 < r := ⟨2 + seed / 64 % 3, by omega, by omega⟩
  have run : ∀ (n j : Nat) (ws : List Wd) (o : Nat), j + n ≤ 70 → rok ws.reverse o → ws.length ≤ j → o ≤ ws.length → ∃ ws2 o2, runFor (gN 7) lb__law_words_0 [7, 8] ((List.range' j n).map nI) (EWo (.scr (ns.map D.int)) seed rare ws o) = .nx (EWo (.scr (ns.map D.int)) seed rare ws2 o2) ∧ rok ws2.reverse o2 ∧ ws2.length ≤ j + n ∧ o2 ≤ ws2.length := by
    intro n
    induction n with
    | zero => intro j ws o _ h2 h3 h4; exact ⟨ws, o, rfl, h2, h3, h4⟩
    | succ n ih =>
      intro j ws o hj h2 h3 h4
      obtain ⟨w1, o1, t1, t2, t3, t4⟩ := words_turn ns hl seed rare lr0 j (by omega) ws o h2 (by omega) h4
      obtain ⟨w2, o2, u1, u2, u3, u4⟩ := ih (j + 1) w1 o1 (by omega) t2 (by omega) t4
      exact ⟨w2, o2, by rw [List.range'_succ, List.map_cons, runFor_turn, t1]; exact u1, u2, by omega, u4⟩
  obtain ⟨ws, o, r1, r2, r3, r4⟩ := run (ns.length - 3) 3 [] 0 (by omega) trivial (by simp) (by simp)
  refine ⟨ws ++ List.replicate o [47], ?_, ?_, by simp; omega⟩
  · have it : iRngM (aCons (mVar 1) (aCons (eMin (aCons (eLen (aCons (mVar 0) (aNil))) (aCons (mVar 2) (aNil)))) (aNil))) (EWo (.scr (ns.map D.int)) seed rare [] 0) = .ok ((List.range' 3 (ns.length - 3)).map nI) (EWo (.scr (ns.map D.int)) seed rare [] 0) := by
      have rg : rngD (3 : Int) (ns.length - 3) = (List.range' 3 (ns.length - 3)).map nI := by
        unfold rngD
        rw [List.range'_eq_map_range, List.map_map]
        exact List.map_congr_left fun i _ => by show D.int _ = D.int _; congr 1
      rw [← rg]
      have w3 : (-4611686018427387904 : Int) ≤ (ns.length : Int) := by omega
      have w4 : (ns.length : Int) < 4611686018427387904 := by omega
      have w5 : ((ns.length : Int) - 3).toNat = ns.length - 3 := by omega
      by_cases h : 63 < ns.length
      · omega
      · have h' : ¬ (63 : Int) < ns.length := by omega
        simp [nI, w3, w4, w5, h, h']
    have e1 : ∀ k : G9.Env → Out, sSeq (sSet 3 (oF m__law_cell (aCons (mVar 0) (aCons (mC (.int 0)) (aNil))))) (sSeq (sSet 4 (oR (rAdd2 (mC (.int 2)) (eMod (eFdiv (mVar 3) (mC (.int 64))) (mC (.int 3)))))) (sSeq (sSet 5 (oLst (aoNil))) (sSeq (sSet 6 (oV (mC (.int 0)))) k))) [.frz (.scr (ns.map D.int)), .frz (.int 3), .frz (.int 63), .dead, .dead, .dead, .dead, .dead, .dead] = k (EWo (.scr (ns.map D.int)) seed rare [] 0) := fun k => by
      unfold EWo
      generalize D.scr (ns.map D.int) = SC at *
      simp [h1', er, nI]
    have iw := strs_imm ws
    have io : D.imms ((List.replicate o ([47] : Wd)).map D.str) = true := strs_imm _
    have lw : (ws.map D.str).length + ((List.replicate o ([47] : Wd)).map D.str).length ≤ 16777216 := by simp; omega
    have fl : fLc (jRng (aCons (mVar 6) (aNil))) (gN 7) (cYes) (mC (.str [47])) [7] (EWo (.scr (ns.map D.int)) seed rare ws o) = .ok ((List.replicate o ([47] : Wd)).map D.str) := by
      have c3 := runLc_maps (g := gN 7) (m := mC (.str [47])) (e0 := EWo (.scr (ns.map D.int)) seed rare ws o) nI D.str (fun _ => [47]) (List.range o) fun k _ => ⟨_, by simp; rfl, by simp, rfl⟩
      rw [rep_str] at c3
      have z1 : (o : Int) < 4611686018427387904 := by omega
      have z2 : (-4611686018427387904 : Int) ≤ o := by omega
      have z3 : o ≤ 16777216 := by omega
      have j0 : jRng (aCons (mVar 6) (aNil)) (EWo (.scr (ns.map D.int)) seed rare ws o) = .ok (true, (List.range o).map nI) := by
        rw [← rng_nI]
        unfold EWo
        generalize D.scr (ns.map D.int) = SC at *
        generalize ws.map D.str = WS at *
        simp [z1, z2]
      rw [fLc_d, j0]
      simp only [Res.bind, List.length_map, List.length_range, szl, z3, true_and, true_or, if_true, killW_c, killW_n, List.set_cons_succ, List.set_cons_zero]
      unfold EWo at c3
      rw [c3]
    unfold m__law_words
    rw [fnOf_d]
    unfold b__law_words
    have es : List.map Slot.frz [D.scr (ns.map D.int), .int 3, .int 63] ++ List.replicate (9 - [D.scr (ns.map D.int), .int 3, .int 63].length) Slot.dead = [.frz (.scr (ns.map D.int)), .frz (.int 3), .frz (.int 63), .dead, .dead, .dead, .dead, .dead, .dead] := rfl
    rw [es, e1, sSeq_d, sFor_d, it]; dsimp only
    rw [r1]; dsimp only
    rw [List.map_append]
    generalize fLc (jRng (aCons (mVar 6) (aNil))) (gN 7) (cYes) (mC (.str [47])) [7] = FL at *
    unfold EWo at fl ⊢
    generalize D.scr (ns.map D.int) = SC at *
    generalize ws.map D.str = WS at *
    generalize (List.replicate o ([47] : Wd)).map D.str = RS at *
    simp [fl, iw, io, szl, lw]
  · rw [List.reverse_append, List.reverse_replicate]
    exact rok_ends o _ 0 (by rw [Nat.zero_add]; exact r2)
abbrev kO (F : D) : D := .obj "Kinds" ["held"] [F]
abbrev oO (F : D) : D := .obj "Others" ["held"] [F]
theorem fh (F : D) : fldG [Str.ofString "held"] [F] (Str.ofString "held") = some F := by
  have e : fIx [Str.ofString "held"] (Str.ofString "held") = some 0 := by decide +kernel
  unfold fldG
  rw [e]
  rfl
theorem fx_good : fIx [Str.ofString "held"] (Str.ofString "good") = none := by decide +kernel
theorem fx_above : fIx [Str.ofString "held"] (Str.ofString "above") = none := by decide +kernel
theorem fx_nothing : fIx [Str.ofString "held"] (Str.ofString "nothing") = none := by decide +kernel
theorem numbers_ok (V : List Nat) (hl : V.length ≤ 1000) : m__law_numbers [.tup (V.map nI), .tup (V.map nI)] = .ok (.frz (.bl true)) := by
  have iv := nI_imms V
  have run : ∀ js : List Nat, (∀ j ∈ js, j < V.length) → runFor (gN 2) lb__law_numbers_0 [2] (js.map nI) [.frz (.tup (V.map nI)), .frz (.tup (V.map nI)), .dead] = .nx [.frz (.tup (V.map nI)), .frz (.tup (V.map nI)), .dead] := by
    intro js
    induction js with
    | nil => intro _; rfl
    | cons j js ih =>
      intro h
      have hj := h j List.mem_cons_self
      have e1 : atI (V.map nI) (j : Int) = some (.int V[j]) := by rw [atI_nn, List.getElem?_map, List.getElem?_eq_getElem hj]; rfl
      have t : turn (gN 2) lb__law_numbers_0 [2] (nI j) [.frz (.tup (V.map nI)), .frz (.tup (V.map nI)), .dead] = .nx [.frz (.tup (V.map nI)), .frz (.tup (V.map nI)), .dead] := by
        generalize V[j] = x at *
        generalize V.map nI = W at *
        simp [lb__law_numbers_0, nI, e1]
      rw [List.map_cons, runFor_turn, t]
      exact ih fun x hx => h x (List.mem_cons_of_mem _ hx)
  have r := run (List.range V.length) fun j hj => List.mem_range.mp hj
  rw [← rng_nI] at r
  have lV : V.length = (V.map nI).length := (List.length_map _).symm
  have z1 : ((V.map nI).length : Int) < 4611686018427387904 := by rw [← lV]; omega
  have z2 : (-4611686018427387904 : Int) ≤ ((V.map nI).length : Int) := by omega
  rw [lV] at r
  unfold m__law_numbers
  rw [fnOf_d]
  unfold b__law_numbers tl__law_numbers_1
  generalize V.map nI = W at *
  simp [r, z1, z2]
section
variable {m : Nat} {st en : List Nat} {ru : List Ru}
theorem kin_lt (h : Fs m st en ru) {t : Wd} {S B : List Nat} : ∀ k ∈ kin ru t S B, k < m := fun k hk => by
  obtain ⟨q, hq, rfl, _⟩ := kin_mem.mp hk
  exact (h.mr q hq).1
theorem kin_len (h : Fs m st en ru) (t : Wd) (S B : List Nat) : (kin ru t S B).length ≤ 64 := by
  have nd : (kin ru t S B).Nodup := by unfold kin; exact (nss_rise _).imp fun z => by omega
  have := lt_len nd (kin_lt h (t := t) (S := S) (B := B))
  have := h.m20
  omega
end
def stepH (t : Wd) (S B : List Nat) (K : List Nat) (q : Ru) : List Nat := if q.w = t ∧ q.i ∈ S ∧ q.r ∈ B then addK K q.k else K
theorem foldH_mem {t : Wd} {S B : List Nat} : ∀ {qs : List Ru} {K : List Nat} {k : Nat}, k ∈ qs.foldl (stepH t S B) K ↔ k ∈ K ∨ ∃ q ∈ qs, q.k = k ∧ q.w = t ∧ q.i ∈ S ∧ q.r ∈ B
  | [], K, k => by simp
  | q :: qs, K, k => by
    have h1 : k ∈ stepH t S B K q ↔ k ∈ K ∨ (q.k = k ∧ q.w = t ∧ q.i ∈ S ∧ q.r ∈ B) := by
      unfold stepH
      split
      · rename_i c
        rw [addK_mem]
        constructor
        · rintro (h | h)
          · exact .inr ⟨h.symm, c⟩
          · exact .inl h
        · rintro (h | ⟨h, _⟩)
          · exact .inr h
          · exact .inl h.symm
      · rename_i c
        exact ⟨.inl, fun h => h.elim id fun h => absurd h.2 c⟩
    rw [List.foldl_cons, foldH_mem, h1]
    constructor
    · rintro ((h | h) | ⟨p, hp, h⟩)
      · exact .inl h
      · exact .inr ⟨q, List.mem_cons_self, h⟩
      · exact .inr ⟨p, List.mem_cons_of_mem _ hp, h⟩
    · rintro (h | ⟨p, hp, h⟩)
      · exact .inl (.inl h)
      · rcases List.mem_cons.mp hp with rfl | hp
        · exact .inl (.inr h)
        · exact .inr ⟨p, hp, h⟩
abbrev EH (f : D) (t : Wd) (S B K : List Nat) : G9.Env := [.frz f, .frz (.str t), .frz (.tup (S.map nI)), .frz (.tup (B.map nI)), .own (.dic false (kset K)), .dead, .dead, .dead, .dead]
theorem ahead_ok {m : Nat} {st en : List Nat} {ru : List Ru} (hm : m ≤ 64) (hk : ∀ q ∈ ru, q.k < m) (t : Wd) (S B : List Nat) :
    m_kinds_ahead [FmD m st en ru, .str t, .tup (S.map nI), .tup (B.map nI)] = .ok (.own (.lst ((kin ru t S B).map nI))) := by
  have fd : itemD (FmD m st en ru) 3 = some (.tup (ru.map Ru.d)) := rfl
  generalize hf : FmD m st en ru = f at *
  obtain ⟨h1, h2, h3⟩ := runFor_map (g := gT 4 (gsC (gN 5) (gsC (gN 6) (gsC (gN 7) (gsC (gN 8) (gsN)))))) (body := lb_kinds_ahead_0) (ks := [5, 6, 7, 8]) Ru.d (fun K : List Nat => EH f t S B K) (stepH t S B) (fun K => K.Nodup ∧ ∀ k ∈ K, k < m) ru [] (fun K q hq ⟨nd, hb⟩ => by
    have hx := lt_len nd hb
    have hx2 : K.length < 16777216 := by omega
    refine ⟨?_, ?_, fun k hk2 => ?_⟩
    · have e5 : ∀ w : Wd, kAtom (mVar 5) [.frz f, .frz (.str t), .frz (.tup (S.map nI)), .frz (.tup (B.map nI)), .own (.dic false (kset K)), .frz (nI q.k), .frz (.str w), .frz (nI q.i), .frz (nI q.r)] = .ok (nI q.k) := fun w => nI_kAtom (by simp)
      have g1 := gInQ_nt false q.i S
      have g2 := gInQ_nt false q.r B
      have b0 : lb_kinds_ahead_0 [.frz f, .frz (.str t), .frz (.tup (S.map nI)), .frz (.tup (B.map nI)), .own (.dic false (kset K)), .frz (nI q.k), .frz (.str q.w), .frz (nI q.i), .frz (nI q.r)] = .nx [.frz f, .frz (.str t), .frz (.tup (S.map nI)), .frz (.tup (B.map nI)), .own (.dic false (kset (stepH t S B K q))), .frz (nI q.k), .frz (.str q.w), .frz (nI q.i), .frz (nI q.r)] := by
        unfold stepH lb_kinds_ahead_0
        by_cases c1 : q.w = t
        · by_cases c2 : q.i ∈ S
          · by_cases c3 : q.r ∈ B
            · simp [c1, c2, c3, g1, g2, e5, -kAtom_d, -gInQ_t, szl, hx2, kset_put]
            · simp [c1, c2, c3, g1, g2, -gInQ_t]
          · simp [c1, c2, g1, -gInQ_t]
        · simp [c1]
      generalize stepH t S B K q = K2 at *
      simp [Ru.d, b0]
    · unfold stepH; split
      · exact addK_nodup nd
      · exact nd
    · unfold stepH at hk2
      split at hk2
      · rcases addK_mem.mp hk2 with rfl | h
        · exact hk q hq
        · exact hb k h
      · exact hb k hk2) ⟨List.nodup_nil, fun k hk => by cases hk⟩
  have eq : upN (ru.foldl (stepH t S B) []) = kin ru t S B := rising_eq (upN_lt h2) (nss_rise _) fun k => by
    rw [(upN_perm _).mem_iff, foldH_mem, kin_mem]
    simp
  generalize ru.foldl (stepH t S B) [] = K at *
  have s4 : sSet 4 (oDNew false) [.frz f, .frz (.str t), .frz (.tup (S.map nI)), .frz (.tup (B.map nI)), .dead, .dead, .dead, .dead, .dead] = .nx (EH f t S B []) := by simp [kset]
  have s5 : sFor (iTupM (oP (pIx (pVar 0) (mC (.int 3))))) (gT 4 (gsC (gN 5) (gsC (gN 6) (gsC (gN 7) (gsC (gN 8) (gsN)))))) lb_kinds_ahead_0 [5, 6, 7, 8] (EH f t S B []) = .nx (EH f t S B K) := by
    rw [← h1]
    simp [fd]
  unfold m_kinds_ahead
  rw [fnOf_d]
  have es : List.map Slot.frz [f, .str t, .tup (S.map nI), .tup (B.map nI)] ++ List.replicate (9 - [f, .str t, .tup (S.map nI), .tup (B.map nI)].length) Slot.dead = [.frz f, .frz (.str t), .frz (.tup (S.map nI)), .frz (.tup (B.map nI)), .dead, .dead, .dead, .dead, .dead] := rfl
  rw [es]
  unfold b_kinds_ahead
  rw [sSeq_d, s4]; dsimp only
  rw [sSeq_d, s5]; dsimp only
  simp [srt_ok (srtOk_nats _ K), sortD_nats, nI_imms, eq]
section
variable {m : Nat} {st en : List Nat} {ru : List Ru}
theorem nothing_ok (F : D) (c : D) (hc : c = kO F ∨ c = oO F) (hF : F = FmD m st en ru) : m_Kinds_nothing [c] = .ok (.frz (.tup (en.map nI))) := by
  have i2 : itemD F 2 = some (.tup (en.map nI)) := by rw [hF]; rfl
  have ie := nI_imms en
  generalize en.map nI = EN at *
  rcases hc with rfl | rfl
  · simp [m_Kinds_nothing, b_Kinds_nothing, fh, i2, ie]
  · simp [m_Kinds_nothing, b_Kinds_nothing, fh, i2, ie]
theorem above_ok (h : Fs m st en ru) (F : D) (c : D) (hc : c = kO F ∨ c = oO F) (hF : F = FmD m st en ru) (w : Wd) (S B : List Nat) : m_Kinds_above [c, .str w, .tup (S.map nI), .tup (B.map nI)] = .ok (.frz (.tup ((kin ru w S B).map nI))) := by
  have a := ahead_ok (st := st) (en := en) (m := m) (ru := ru) (by have := h.m20; omega) (fun q hq => (h.mr q hq).1) w S B
  rw [← hF] at a
  have ik := nI_imms (kin ru w S B)
  generalize (kin ru w S B).map nI = KN at *
  generalize S.map nI = SN at *
  generalize B.map nI = BN at *
  rcases hc with rfl | rfl
  · simp [m_Kinds_above, b_Kinds_above, fh, a, ik]
  · simp [m_Kinds_above, b_Kinds_above, fh, a, ik]
theorem good_ok (h : Fs m st en ru) (F : D) (c : D) (hc : c = kO F ∨ c = oO F) (hF : F = FmD m st en ru) (V : List Nat) : m_Kinds_good [c, .tup (V.map nI)] = .ok (.frz (.bl (decide (st.filter (fun k => decide (k ∈ V)) ≠ [])))) := by
  have i1 : itemD F 1 = some (.tup (st.map nI)) := by rw [hF]; rfl
  have ls : st.length ≤ 16777216 := by have := h.ls; omega
  have go : ∀ cc : D, (cc = kO F ∨ cc = oO F) → pIx (pFl ["Kinds", "Others"] "held" (pVar 0)) (mC (.int 1)) [.frz cc, .frz (.tup (V.map nI)), .dead] = .ok (true, .tup (st.map nI)) := by
    intro cc hcc
    generalize V.map nI = VN at *
    rcases hcc with rfl | rfl
    · simp [i1, fh]
    · simp [i1, fh]
  have c2 := runLc_fl (g := gN 2) (c := mB (eInQ false (mVar 2) (mVar 1))) (m := mVar 2) (e0 := [.frz c, .frz (.tup (V.map nI)), .dead]) nI nI (fun k => decide (k ∈ V)) (fun k => k) st fun k hk => by
    have g := gInQ_nt false k V
    refine ⟨[.frz c, .frz (.tup (V.map nI)), .frz (nI k)], by simp, ?_, fun _ => ⟨by simp, rfl⟩⟩
    generalize V.map nI = VN at *
    simp [g, -gInQ_t]
  rw [List.map_id'] at c2
  have ist := nI_imms (st.filter fun k => decide (k ∈ V))
  have fl : fLc (jTup (pIx (pFl ["Kinds", "Others"] "held" (pVar 0)) (mC (.int 1)))) (gN 2) (mB (eInQ false (mVar 2) (mVar 1))) (mVar 2) [2] [.frz c, .frz (.tup (V.map nI)), .dead] = .ok ((st.filter fun k => decide (k ∈ V)).map nI) := by
    have j0 : jTup (pIx (pFl ["Kinds", "Others"] "held" (pVar 0)) (mC (.int 1))) [.frz c, .frz (.tup (V.map nI)), .dead] = .ok (true, st.map nI) := by
      rw [jTup_d, go c hc]
    rw [fLc_d, j0]
    simp only [Res.bind, List.length_map, szl, ls, true_and, true_or, if_true, killW_c, killW_n, List.set_cons_succ, List.set_cons_zero]
    rw [c2]
  unfold m_Kinds_good
  rw [fnOf_d]
  unfold b_Kinds_good
  have es : List.map Slot.frz [c, .tup (V.map nI)] ++ List.replicate (3 - [c, D.tup (V.map nI)].length) Slot.dead = [.frz c, .frz (.tup (V.map nI)), .dead] := rfl
  rw [es]
  generalize fLc (jTup (pIx (pFl ["Kinds", "Others"] "held" (pVar 0)) (mC (.int 1)))) (gN 2) (mB (eInQ false (mVar 2) (mVar 1))) (mVar 2) [2] = FL at *
  by_cases e : st.filter (fun k => decide (k ∈ V)) = []
  · rw [e] at fl ⊢
    simp [fl]
  · have e2 : (0 : Int) < ((((st.filter fun k => decide (k ∈ V)).map nI).length : Nat) : Int) := by
      have := List.length_pos_iff.mpr e
      rw [List.length_map]; omega
    have e3 : 0 < ((st.filter fun k => decide (k ∈ V)).map nI).length := by omega
    rw [decide_eq_true e]
    generalize (st.filter fun k => decide (k ∈ V)).map nI = FA at *
    simp [fl, ist, e2, e3]
theorem wanted_ok (h : Fs m st en ru) (F : D) (hF : F = FmD m st en ru) (V : List Nat) : m__law_wanted [F, kO F, oO F, .tup (V.map nI)] = .ok (.frz (.bl true)) := by
  have i1 : itemD F 1 = some (.tup (st.map nI)) := by rw [hF]; rfl
  have ls : st.length ≤ 16777216 := by have := h.ls; omega
  have g1 := good_ok h F (kO F) (.inl rfl) hF V
  have g2 := good_ok h F (oO F) (.inr rfl) hF V
  have g3 : m_Others_good [oO F, .tup (V.map nI)] = .ok (.frz (.bl (!decide (st.filter (fun k => decide (k ∈ V)) ≠ [])))) := by
    generalize V.map nI = VN at *
    simp [m_Others_good, b_Others_good, g2]
  have c2 := runLc_fl (g := gN 5) (c := mB (eInQ false (mVar 5) (mVar 3))) (m := mVar 5) (e0 := [.frz F, .frz (kO F), .frz (oO F), .frz (.tup (V.map nI)), .dead, .dead, .dead, .dead]) nI nI (fun k => decide (k ∈ V)) (fun k => k) st fun k hk => by
    have g := gInQ_nt false k V
    refine ⟨[.frz F, .frz (kO F), .frz (oO F), .frz (.tup (V.map nI)), .dead, .frz (nI k), .dead, .dead], by simp, ?_, fun _ => ⟨by simp, rfl⟩⟩
    generalize V.map nI = VN at *
    simp [g, -gInQ_t]
  rw [List.map_id'] at c2
  have ist := nI_imms (st.filter fun k => decide (k ∈ V))
  have fl : fLc (jTup (pIx (pVar 0) (mC (.int 1)))) (gN 5) (mB (eInQ false (mVar 5) (mVar 3))) (mVar 5) [5] [.frz F, .frz (kO F), .frz (oO F), .frz (.tup (V.map nI)), .dead, .dead, .dead, .dead] = .ok ((st.filter fun k => decide (k ∈ V)).map nI) := by
    have j0 : jTup (pIx (pVar 0) (mC (.int 1))) [.frz F, .frz (kO F), .frz (oO F), .frz (.tup (V.map nI)), .dead, .dead, .dead, .dead] = .ok (true, st.map nI) := by simp [i1]
    rw [fLc_d, j0]
    simp only [Res.bind, List.length_map, szl, ls, true_and, true_or, if_true, killW_c, killW_n, List.set_cons_succ, List.set_cons_zero]
    rw [c2]
  have ne : gNe 552 (.lst ((st.filter fun k => decide (k ∈ V)).map nI)) (.lst []) = .ok (.bl (!((st.filter fun k => decide (k ∈ V)).map nI).isEmpty)) := by
    have h := gEq_nil (B := 552) (xs := (st.filter fun k => decide (k ∈ V)).map nI) (lays_nI _) (Nat.le_trans (dep_nIs _) (by decide))
    unfold gEq at h
    unfold gNe
    cases e : eqD 552 (.lst ((st.filter fun k => decide (k ∈ V)).map nI)) (.lst []) with
    | bad => rw [e] at h; cases h
    | er _ => rw [e] at h; cases h
    | ok c => rw [e] at h; cases h; rfl
  have same : (!((st.filter fun k => decide (k ∈ V)).map nI).isEmpty) = decide (st.filter (fun k => decide (k ∈ V)) ≠ []) := by
    cases st.filter (fun k => decide (k ∈ V)) <;> rfl
  rw [same] at ne
  unfold m__law_wanted
  rw [fnOf_d]
  unfold b__law_wanted
  have es : List.map Slot.frz [F, kO F, oO F, .tup (V.map nI)] ++ List.replicate (8 - [F, kO F, oO F, D.tup (V.map nI)].length) Slot.dead = [.frz F, .frz (kO F), .frz (oO F), .frz (.tup (V.map nI)), .dead, .dead, .dead, .dead] := rfl
  rw [es]
  generalize fLc (jTup (pIx (pVar 0) (mC (.int 1)))) (gN 5) (mB (eInQ false (mVar 5) (mVar 3))) (mVar 5) [5] = FL at *
  generalize decide (st.filter (fun k => decide (k ∈ V)) ≠ []) = b at *
  generalize (st.filter fun k => decide (k ∈ V)).map nI = FA at *
  generalize V.map nI = VN at *
  cases b
  · simp [fl, ist, ne, g1, g3, fx_good]
  · simp [fl, ist, ne, g1, g3, fx_good]
theorem lawabove_ok (h : Fs m st en ru) (F : D) (hF : F = FmD m st en ru) (w : Wd) (S B : List Nat) : m__law_above [F, .str w, .tup (S.map nI), .tup (B.map nI)] = .ok (.frz (.tup ((kin ru w S B).map nI))) := by
  have i3 : itemD F 3 = some (.tup (ru.map Ru.d)) := by rw [hF]; rfl
  have lr : ru.length ≤ 16777216 := by have := h.lr; omega
  have c2 := runLc_fl (g := gN 5) (c := bAnd (mB (eEq 520 (vP (pIx (pVar 5) (mC (.int 1)))) (mVar 1))) (bAnd (mB (eInQ false (vP (pIx (pVar 5) (mC (.int 2)))) (mVar 2))) (mB (eInQ false (vP (pIx (pVar 5) (mC (.int 3)))) (mVar 3))))) (m := vP (pIx (pVar 5) (mC (.int 0)))) (e0 := [.frz F, .frz (.str w), .frz (.tup (S.map nI)), .frz (.tup (B.map nI)), .dead, .dead]) Ru.d nI (fun q => decide (q.w = w ∧ q.i ∈ S ∧ q.r ∈ B)) (fun q => q.k) ru fun q hq => by
    have g1 := gInQ_nt false q.i S
    have g2 := gInQ_nt false q.r B
    have q0 : itemD q.d 0 = some (nI q.k) := rfl
    have q1 : itemD q.d 1 = some (.str q.w) := rfl
    have q2 : itemD q.d 2 = some (nI q.i) := rfl
    have q3 : itemD q.d 3 = some (nI q.r) := rfl
    refine ⟨[.frz F, .frz (.str w), .frz (.tup (S.map nI)), .frz (.tup (B.map nI)), .dead, .frz q.d], by generalize q.d = QD at *; simp, ?_, fun _ => ⟨?_, rfl⟩⟩
    · by_cases c1 : q.w = w
      · by_cases c2 : q.i ∈ S
        · by_cases c3 : q.r ∈ B
          · rw [decide_eq_true ⟨c1, c2, c3⟩]
            generalize q.d = QD at *
            generalize nI q.i = QI at *
            generalize nI q.r = QR at *
            generalize S.map nI = SN at *
            generalize B.map nI = BN at *
            simp [q1, q2, q3, g1, g2, c1, c2, c3, -gInQ_t]
          · rw [decide_eq_false fun z => c3 z.2.2]
            generalize q.d = QD at *
            generalize nI q.i = QI at *
            generalize nI q.r = QR at *
            generalize S.map nI = SN at *
            generalize B.map nI = BN at *
            simp [q1, q2, q3, g1, g2, c1, c2, c3, -gInQ_t]
        · rw [decide_eq_false fun z => c2 z.2.1]
          generalize q.d = QD at *
          generalize nI q.i = QI at *
          generalize S.map nI = SN at *
          generalize B.map nI = BN at *
          simp [q1, q2, g1, c1, c2, -gInQ_t]
      · rw [decide_eq_false fun z => c1 z.1]
        generalize q.d = QD at *
        generalize S.map nI = SN at *
        generalize B.map nI = BN at *
        simp [q1, c1]
    · generalize q.d = QD at *
      generalize S.map nI = SN at *
      generalize B.map nI = BN at *
      simp [q0]
  have fl : fLc (jTup (pIx (pVar 0) (mC (.int 3)))) (gN 5) (bAnd (mB (eEq 520 (vP (pIx (pVar 5) (mC (.int 1)))) (mVar 1))) (bAnd (mB (eInQ false (vP (pIx (pVar 5) (mC (.int 2)))) (mVar 2))) (mB (eInQ false (vP (pIx (pVar 5) (mC (.int 3)))) (mVar 3))))) (vP (pIx (pVar 5) (mC (.int 0)))) [5] [.frz F, .frz (.str w), .frz (.tup (S.map nI)), .frz (.tup (B.map nI)), .dead, .dead] = .ok (((ru.filter fun q => decide (q.w = w ∧ q.i ∈ S ∧ q.r ∈ B)).map (·.k)).map nI) := by
    have j0 : jTup (pIx (pVar 0) (mC (.int 3))) [.frz F, .frz (.str w), .frz (.tup (S.map nI)), .frz (.tup (B.map nI)), .dead, .dead] = .ok (true, ru.map Ru.d) := by
      generalize S.map nI = SN at *
      generalize B.map nI = BN at *
      simp [i3]
    rw [fLc_d, j0]
    simp only [Res.bind, List.length_map, szl, lr, true_and, true_or, if_true, killW_c, killW_n, List.set_cons_succ, List.set_cons_zero]
    rw [c2]
  have ll : ((ru.filter fun q => decide (q.w = w ∧ q.i ∈ S ∧ q.r ∈ B)).map (·.k)).length ≤ 1200 := by
    have := List.length_filter_le (fun q : Ru => decide (q.w = w ∧ q.i ∈ S ∧ q.r ∈ B)) ru
    have := h.lr
    rw [List.length_map]; omega
  have sr : srtS 520 (((ru.filter fun q => decide (q.w = w ∧ q.i ∈ S ∧ q.r ∈ B)).map (·.k)).map nI) = .ok ((kin ru w S B).map nI) := by
    rw [srtS_ok (ssOk_nats (by decide) ll), nss_eq]
    rfl
  have i4 := nI_imms ((ru.filter fun q => decide (q.w = w ∧ q.i ∈ S ∧ q.r ∈ B)).map (·.k))
  have i5 := nI_imms (kin ru w S B)
  unfold m__law_above
  rw [fnOf_d]
  unfold b__law_above
  have es : List.map Slot.frz [F, .str w, .tup (S.map nI), .tup (B.map nI)] ++ List.replicate (6 - [F, D.str w, .tup (S.map nI), .tup (B.map nI)].length) Slot.dead = [.frz F, .frz (.str w), .frz (.tup (S.map nI)), .frz (.tup (B.map nI)), .dead, .dead] := rfl
  rw [es]
  generalize fLc (jTup (pIx (pVar 0) (mC (.int 3)))) (gN 5) _ (vP (pIx (pVar 5) (mC (.int 0)))) [5] = FL at *
  generalize ((ru.filter fun q => decide (q.w = w ∧ q.i ∈ S ∧ q.r ∈ B)).map (·.k)).map nI = FA at *
  generalize (kin ru w S B).map nI = KN at *
  generalize S.map nI = SN at *
  generalize B.map nI = BN at *
  simp [fl, sr, i4, i5]
end
section
variable {m : Nat} {st en : List Nat} {ru : List Ru}
def tD (V : List Nat) : D := .tup (V.map nI)
theorem tD_imms (P : List (List Nat)) : D.imms (P.map tD) = true := by
  rw [imms_all, List.all_eq_true]
  intro d hd
  obtain ⟨V, _, rfl⟩ := List.mem_map.mp hd
  have := nI_imms V
  unfold tD
  rw [D.imm]; exact this
abbrev EA (F WS : D) (V : List Nat) (P : List (List Nat)) : G9.Env := [.frz F, .frz (kO F), .frz (oO F), .frz WS, .frz (tD V), .own (.lst (P.map tD)), .dead, .dead, .dead]
theorem asked_turn (h : Fs m st en ru) (F : D) (hF : F = FmD m st en ru) (WS : D) (w : Wd) (V : List Nat) (P : List (List Nat)) (hl : P.length < 1000) :
    (w = [47] → turn (gN 6) lb__law_asked_3 [6, 7, 8] (.str w) (EA F WS V P) = .nx (EA F WS en (P ++ [V]))) ∧
    (w ≠ [47] → ∀ Q B, P = Q ++ [B] → turn (gN 6) lb__law_asked_3 [6, 7, 8] (.str w) (EA F WS V P) = .nx (EA F WS (kin ru w V B) Q)) := by
  have hw := wanted_ok h F hF V
  have i2 : itemD F 2 = some (tD en) := by rw [hF]; rfl
  have iP := tD_imms P
  have lP : (P.map tD).length < 16777216 := by rw [List.length_map]; omega
  constructor
  · intro e
    subst e
    have m2 : (P ++ [V]).map tD = P.map tD ++ [tD V] := by rw [List.map_append]; rfl
    have iV : (tD V).imm = true := by unfold tD; rw [D.imm]; exact nI_imms V
    have hw' : m__law_wanted [F, kO F, oO F, tD V] = .ok (.frz (.bl true)) := hw
    unfold EA
    rw [m2]
    generalize P.map tD = PD at *
    generalize tD V = VD at *
    generalize tD en = ED at *
    generalize kO F = KO at *
    generalize oO F = OO at *
    simp [lb__law_asked_3, tl__law_asked_2, hw', i2, iP, iV, lP, szl]
  · intro e Q B hP
    subst hP
    have a1 := above_ok h F (kO F) (.inl rfl) hF w V B
    have a2 := above_ok h F (oO F) (.inr rfl) hF w V B
    have a3 := lawabove_ok h F hF w V B
    have nu := numbers_ok (kin ru w V B) (by have := kin_len h w V B; omega)
    have m2 : (Q ++ [B]).map tD = Q.map tD ++ [tD B] := by rw [List.map_append]; rfl
    have iQ := tD_imms Q
    have iB : (tD B).imm = true := by unfold tD; rw [D.imm]; exact nI_imms B
    have iK : (tD (kin ru w V B)).imm = true := by unfold tD; rw [D.imm]; exact nI_imms _
    have hw' : m__law_wanted [F, kO F, oO F, tD V] = .ok (.frz (.bl true)) := hw
    have a1' : m_Kinds_above [kO F, .str w, tD V, tD B] = .ok (.frz (tD (kin ru w V B))) := a1
    have a2' : m_Kinds_above [oO F, .str w, tD V, tD B] = .ok (.frz (tD (kin ru w V B))) := a2
    have a3' : m__law_above [F, .str w, tD V, tD B] = .ok (.frz (tD (kin ru w V B))) := a3
    have nu' : m__law_numbers [tD (kin ru w V B), tD (kin ru w V B)] = .ok (.frz (.bl true)) := nu
    unfold EA
    rw [m2]
    generalize tD (kin ru w V B) = KD at *
    generalize Q.map tD = QD at *
    generalize tD V = VD at *
    generalize tD B = BD at *
    simp [lb__law_asked_3, tl__law_asked_2, tl__law_asked_1, tl__law_asked_0, hw', a1', a2', a3', nu', iQ, iB, iK, szl, e, fx_above]
theorem asked_run (h : Fs m st en ru) (F : D) (hF : F = FmD m st en ru) (WS : D) : ∀ (rs : List Wd) (V : List Nat) (P : List (List Nat)), rok rs P.length → P.length + rs.length < 1000 → ∃ V' P', runFor (gN 6) lb__law_asked_3 [6, 7, 8] (rs.map D.str) (EA F WS V P) = .nx (EA F WS V' P')
  | [], V, P, _, _ => ⟨V, P, rfl⟩
  | w :: rs, V, P, hr, hl => by
    rw [List.length_cons] at hl
    obtain ⟨t1, t2⟩ := asked_turn h F hF WS w V P (by omega)
    rcases hr with ⟨e, hr⟩ | ⟨e, _, hd, hr⟩
    · obtain ⟨V', P', h1⟩ := asked_run h F hF WS rs en (P ++ [V]) (by rw [List.length_append]; exact hr) (by rw [List.length_append]; simp; omega)
      exact ⟨V', P', by rw [List.map_cons, runFor_turn, t1 e]; exact h1⟩
    · obtain ⟨Q, B, rfl⟩ : ∃ Q B, P = Q ++ [B] := ⟨P.dropLast, P.getLast (by intro z; rw [z] at hd; simp at hd), (List.dropLast_concat_getLast _).symm⟩
      have lq : (Q ++ [B]).length = Q.length + 1 := by simp
      rw [lq] at hr hl
      obtain ⟨V', P', h1⟩ := asked_run h F hF WS rs (kin ru w V B) Q (by simpa using hr) (by omega)
      exact ⟨V', P', by rw [List.map_cons, runFor_turn, t2 e Q B rfl]; exact h1⟩
theorem asked_ok (h : Fs m st en ru) (F : D) (hF : F = FmD m st en ru) (ws : List Wd) (hr : rok ws.reverse 0) (hl : ws.length ≤ 200) : m__law_asked [F, kO F, oO F, .scr (ws.map D.str)] = .ok (.frz (.bl true)) := by
  obtain ⟨V', P', r⟩ := asked_run h F hF (.scr (ws.map D.str)) ws.reverse en [] hr (by simp; omega)
  have n1 := nothing_ok F (kO F) (.inl rfl) hF
  have n2 := nothing_ok F (oO F) (.inr rfl) hF
  have nu := numbers_ok en (by have := h.le; omega)
  have hw := wanted_ok h F hF V'
  have i2 : itemD F 2 = some (tD en) := by rw [hF]; rfl
  have iE : (tD en).imm = true := by unfold tD; rw [D.imm]; exact nI_imms en
  have n1' : m_Kinds_nothing [kO F] = .ok (.frz (tD en)) := n1
  have n2' : m_Kinds_nothing [oO F] = .ok (.frz (tD en)) := n2
  have nu' : m__law_numbers [tD en, tD en] = .ok (.frz (.bl true)) := nu
  have hw' : m__law_wanted [F, kO F, oO F, tD V'] = .ok (.frz (.bl true)) := hw
  have it : iRevM (oVar 3) (EA F (.scr (ws.map D.str)) en []) = .ok (ws.reverse.map D.str) (EA F (.scr (ws.map D.str)) en []) := by
    rw [List.map_reverse]
    unfold EA
    generalize ws.map D.str = WS at *
    generalize kO F = KO at *
    generalize oO F = OO at *
    simp
  unfold m__law_asked
  rw [fnOf_d]
  unfold b__law_asked
  have es : List.map Slot.frz [F, kO F, oO F, .scr (ws.map D.str)] ++ List.replicate (9 - [F, kO F, oO F, D.scr (ws.map D.str)].length) Slot.dead = [.frz F, .frz (kO F), .frz (oO F), .frz (.scr (ws.map D.str)), .dead, .dead, .dead, .dead, .dead] := rfl
  rw [es]
  have c0 : sIf (bOr (bNot (mB (vF m__law_numbers (aCons (vF m_Kinds_nothing (aCons (mObj "Kinds" "nothing" (mVar 1)) (aNil))) (aCons (vP (pIx (pVar 0) (mC (.int 2)))) (aNil)))))) (bNot (mB (vF m__law_numbers (aCons (vF m_Kinds_nothing (aCons (mObj "Others" "nothing" (mVar 2)) (aNil))) (aCons (vP (pIx (pVar 0) (mC (.int 2)))) (aNil))))))) (sRet (oV (mC (.bl false)))) (sNext) [.frz F, .frz (kO F), .frz (oO F), .frz (.scr (ws.map D.str)), .dead, .dead, .dead, .dead, .dead] = .nx [.frz F, .frz (kO F), .frz (oO F), .frz (.scr (ws.map D.str)), .dead, .dead, .dead, .dead, .dead] := by
    generalize D.scr (ws.map D.str) = WS at *
    generalize tD en = ED at *
    simp [n1', n2', nu', i2, fx_nothing]
  rw [sSeq_d, c0]; dsimp only
  unfold tl__law_asked_4
  have c1 : ∀ k : G9.Env → Out, sSeq (sSet 4 (oP (pIx (pVar 0) (mC (.int 2))))) (sSeq (sSet 5 (oLst (aoNil))) k) [.frz F, .frz (kO F), .frz (oO F), .frz (.scr (ws.map D.str)), .dead, .dead, .dead, .dead, .dead] = k (EA F (.scr (ws.map D.str)) en []) := fun k => by
    unfold EA
    generalize D.scr (ws.map D.str) = WS at *
    generalize tD en = ED at *
    generalize kO F = KO at *
    generalize oO F = OO at *
    simp [i2, iE]
  rw [c1, sSeq_d, sFor_d, it]; dsimp only
  rw [r]; dsimp only
  unfold EA
  generalize D.scr (ws.map D.str) = WS at *
  generalize tD V' = VD at *
  generalize P'.map tD = PD at *
  generalize kO F = KO at *
  generalize oO F = OO at *
  simp [hw']
end
theorem fx_held : fIx ([] : List Str) (Str.ofString "held") = none := by decide +kernel
theorem kinit (F : D) (hi : F.imm = true) (c : Str) (hc : c = "Kinds" ∨ c = "Others") : m_Kinds___init__ [.pin (.obj c [] []), .frz F] = .ok (.frz .non) (.obj c ["held"] [F]) := by
  unfold m_Kinds___init__
  rw [fnOfI_d]
  unfold b_Kinds___init__
  rcases hc with rfl | rfl
  · simp [hi, D.getP, D.putP, putKs, putDs, fx_held]
  · simp [hi, D.getP, D.putP, putKs, putDs, fx_held]
theorem law_ok : ∀ ns : List Int, ns.length ≤ 63 → m_law [.scr (ns.map D.int)] = .ok (.frz (.bl true)) := by
  intro ns hl
  obtain ⟨m1, st1, en1, ru1, s1, f1⟩ := shape_ok ns hl 0 (by omega)
  obtain ⟨m2, st2, en2, ru2, s2, f2⟩ := shape_ok ns hl 1 (by omega)
  obtain ⟨ws, hw, hr, hlw⟩ := words_ok ns hl
  have s1' : m__law_shape [.scr (ns.map D.int), .int 0] = .ok (.frz (FmD m1 st1 en1 ru1)) := s1
  have s2' : m__law_shape [.scr (ns.map D.int), .int 1] = .ok (.frz (FmD m2 st2 en2 ru2)) := s2
  have a1 := asked_ok f1 _ rfl ws hr hlw
  have a2 := asked_ok f2 _ rfl ws hr hlw
  have i1 := FmD_imm m1 st1 en1 ru1
  have i2 := FmD_imm m2 st2 en2 ru2
  have iw := strs_imm ws
  have q1 := kinit _ i1 "Kinds" (.inl rfl)
  have q2 := kinit _ i1 "Others" (.inr rfl)
  have q3 := kinit _ i2 "Kinds" (.inl rfl)
  have q4 := kinit _ i2 "Others" (.inr rfl)
  have nb : (kO (FmD m2 st2 en2 ru2)).imm = false ∧ (oO (FmD m2 st2 en2 ru2)).imm = false := ⟨rfl, rfl⟩
  obtain ⟨lw, sw⟩ := lk_lst iw
  unfold m_law
  rw [fnOf_d]
  unfold b_law
  have es : List.map Slot.frz [D.scr (ns.map D.int)] ++ List.replicate (7 - [D.scr (ns.map D.int)].length) Slot.dead = [.frz (.scr (ns.map D.int)), .dead, .dead, .dead, .dead, .dead, .dead] := rfl
  rw [es]
  unfold tl_law_0
  generalize FmD m1 st1 en1 ru1 = F1 at *
  generalize FmD m2 st2 en2 ru2 = F2 at *
  generalize D.scr (ns.map D.int) = SC at *
  generalize ws.map D.str = WS at *
  simp [s1', s2', hw, lw, sw, i1, i2, q1, q2, q3, q4, a1, a2, iw]
theorem hlaw : ∀ ns : List Int, ns.length ≤ 63 → m_law [.scr (ns.map D.int)] = .ok (.frz (.bl true)) := law_ok

end Lw

open PySem PySem.W PyProof.Rows
set_option maxHeartbeats 0 in
theorem PySem.Challenge.cw_formgrove_k51_values_of_groves_holds : PySem.Challenge.rw_formgrove_k51_values_of_groves.Holds := by
  w_on; o_law; k_head; (case hw => w_witness2)
  k_fill
  refine L2.walk_of (l := PySem.Challenge.rw_formgrove_k51_values_of_groves) (n := 63) (k := 25) (x := "_law_script") (CX := fun w => L2.CX PySem.Challenge.rw_formgrove_k51_values_of_groves.prog w) (sp := fun w => G9.spLaw _) rfl (by decide) rfl ⟨rfl, by decide, by decide⟩ (fun w h Y => PySem.W.kIn_of Y) ?F (fun _ _ a ns hl hO hS => ⟨a, ns, rfl, hO, hS, hl, fun _ => rfl⟩) ?C
  case C => exact fun w H s e s' h => G9.cx_false h
  case F =>
    intro w mg fa h KX G hmg
    refine' Lw.all_mk KX G hmg Lw.hlaw ?a1 ?l1 ?c1 ?k1 ?a2 ?l2 ?c2 ?k2 ?a3 ?l3 ?c3 ?k3 ?a4 ?l4 ?c4 ?k4 ?a6 ?l6 ?c6 ?k6 ?a8 ?l8 ?c8 ?k8 ?a9 ?l9 ?c9 ?k9 ?a12 ?l12 ?c12 ?k12 ?a13 ?l13 ?c13 ?k13 ?a14 ?l14 ?c14 ?k14 ?z_bool ?z_int ?z_isinstance ?z_len ?z_min ?z_range ?z_reversed ?z_set ?z_sorted ?z_tuple ?aC_Measure ?aC_Kinds ?aC_Others ?opg_Kinds ?ohd_Kinds ?opo_Kinds ?osa_Kinds ?opg_Others ?ohd_Others ?opo_Others ?osa_Others ?a0 ?i0 ?l0 ?c0 ?k0 ?a5 ?i5 ?l5 ?c5 ?k5 ?a7 ?i7 ?l7 ?c7 ?k7 ?a10 ?i10 ?l10 ?c10 ?k10 ?a11 ?i11 ?l11 ?c11 ?k11 ?am_Others_above ?am_Others_nothing ?csp_Kinds ?crd_Kinds ?cfi_Kinds_good ?ica_Kinds ?icg_Kinds ?icx_Kinds ?imo_Kinds ?ica_Others ?icg_Others ?icx_Others ?imo_Others ?jd_Kinds_Measure ?jt_Kinds_Measure ?ju_Kinds_Measure ?jn_Kinds_Others ?jd_Kinds_Others ?jt_Kinds_Others ?ju_Kinds_Others ?jd_Others_Kinds ?jt_Others_Kinds ?ju_Others_Kinds ?omk_Kinds ?okC_Kinds ?am_Others_init ?omk_Others ?okC_Others ?nf_Kinds_held ?nf_Others_held
    (case a1 => k_is); (case l1 => k_is); (case c1 => k_is); (case k1 => k_is); (case a2 => k_is); (case l2 => k_is); (case c2 => k_is); (case k2 => k_is); (case a3 => k_is); (case l3 => k_is); (case c3 => k_is); (case k3 => k_is); (case a4 => k_is); (case l4 => k_is); (case c4 => k_is); (case k4 => k_is); (case a6 => k_is); (case l6 => k_is); (case c6 => k_is); (case k6 => k_is); (case a8 => k_is); (case l8 => k_is); (case c8 => k_is); (case k8 => k_is); (case a9 => k_is); (case l9 => k_is); (case c9 => k_is); (case k9 => k_is); (case a12 => k_is); (case l12 => k_is); (case c12 => k_is); (case k12 => k_is); (case a13 => k_is); (case l13 => k_is); (case c13 => k_is); (case k13 => k_is); (case a14 => k_is); (case l14 => k_is); (case c14 => k_is); (case k14 => k_is); (case z_bool => k_is); (case z_int => k_is); (case z_isinstance => k_is); (case z_len => k_is); (case z_min => k_is); (case z_range => k_is); (case z_reversed => k_is); (case z_set => k_is); (case z_sorted => k_is); (case z_tuple => k_is); (case aC_Measure => k_is); (case aC_Kinds => k_is); (case aC_Others => k_is); (case opg_Kinds => k_is); (case ohd_Kinds => k_is); (case opo_Kinds => k_is); (case osa_Kinds => k_is); (case opg_Others => k_is); (case ohd_Others => k_is); (case opo_Others => k_is); (case osa_Others => k_is); (case a0 => k_is); (case i0 => k_is); (case l0 => k_is); (case c0 => k_is); (case k0 => k_is); (case a5 => k_is); (case i5 => k_is); (case l5 => k_is); (case c5 => k_is); (case k5 => k_is); (case a7 => k_is); (case i7 => k_is); (case l7 => k_is); (case c7 => k_is); (case k7 => k_is); (case a10 => k_is); (case i10 => k_is); (case l10 => k_is); (case c10 => k_is); (case k10 => k_is); (case a11 => k_is); (case i11 => k_is); (case l11 => k_is); (case c11 => k_is); (case k11 => k_is); (case am_Others_above => k_is); (case am_Others_nothing => k_is); (case csp_Kinds => k_is); (case crd_Kinds => k_is); (case cfi_Kinds_good => k_is); (case ica_Kinds => k_is); (case icg_Kinds => k_is); (case icx_Kinds => k_is); (case imo_Kinds => k_is); (case ica_Others => k_is); (case icg_Others => k_is); (case icx_Others => k_is); (case imo_Others => k_is); (case jd_Kinds_Measure => k_is); (case jt_Kinds_Measure => k_is); (case ju_Kinds_Measure => k_is); (case jn_Kinds_Others => first | k_is | rfl | decide +kernel); (case jd_Kinds_Others => k_is); (case jt_Kinds_Others => k_is); (case ju_Kinds_Others => k_is); (case jd_Others_Kinds => k_is); (case jt_Others_Kinds => k_is); (case ju_Others_Kinds => k_is); (case omk_Kinds => k_is); (case okC_Kinds => k_is); (case am_Others_init => k_is); (case omk_Others => k_is); (case okC_Others => k_is); (case nf_Kinds_held => k_is); (case nf_Others_held => k_is)
