import PyProof.Rows.All
import Wide.All
import OpenK.AllK
import Wide.FinOn
import HandS.ForMost
import HandS.Deep
import HandS.Wide
import HandS.NoneIn
import HandS.IsInst
import HandS.SortInts
import HandS.Conv
import HandS.TupLe
import HandS.Defaults
import PySem.Challenge.RW_crosskeep_k31_acceptors
set_option Elab.async false
set_option linter.all false
set_option maxRecDepth 100000
set_option maxHeartbeats 4000000
/-! EngA: data by value (D), how an abstract heap holds it (RepD), how states follow one another (Ext) -/
namespace E
open PySem L2

/-- data by value: a list or dict bears a mark whether it is owned (may be changed through its one owner) -/
inductive D where
  | non | bl (b : Bool) | int (i : Int) | str (x : Str)
  | tup (xs : List D) | lst (o : Bool) (xs : List D) | dic (o : Bool) (kvs : List (D × D)) | loc (n : Nat) | ty (n : String) | und

mutual
/-- nothing owned within -/
@[simp] def D.pure : D → Bool
  | .tup xs => pureL xs
  | .lst o xs => !o && pureL xs
  | .dic o kvs => !o && pureK kvs
  | .und => false
  | .non => true
  | .bl _ => true
  | .int _ => true
  | .str _ => true
  | .loc _ => true
  | .ty _ => true
def pureL : List D → Bool
  | [] => true
  | x :: xs => x.pure && pureL xs
def pureK : List (D × D) → Bool
  | [] => true
  | (_, x) :: xs => x.pure && pureK xs
end
mutual
/-- what is owned becomes fixed -/
@[simp] def D.fz : D → D
  | .tup xs => .tup (fzL xs)
  | .lst _ xs => .lst false (fzL xs)
  | .dic _ kvs => .dic false (fzK kvs)
  | .non => .non
  | .bl b => .bl b
  | .int i => .int i
  | .str x => .str x
  | .loc n => .loc n
  | .ty n => .ty n
  | .und => .und
def fzL : List D → List D
  | [] => []
  | x :: xs => x.fz :: fzL xs
def fzK : List (D × D) → List (D × D)
  | [] => []
  | (k, x) :: xs => (k, x.fz) :: fzK xs
end
mutual
def D.toPy : D → Option PyData
  | .non => some .none
  | .bl b => some (.bool b)
  | .int i => some (.int i)
  | .str x => some (.str x)
  | .tup xs => (toPyL xs).map .tuple
  | .lst _ xs => (toPyL xs).map .list
  | _ => none
def toPyL : List D → Option (List PyData)
  | [] => some []
  | x :: xs => match x.toPy, toPyL xs with
    | some a, some b => some (a :: b)
    | _, _ => none
end

structure Wd where
  F : Addr → Prop
  ι : List Addr

/-- a list (tuple) that the module's top has written -/
def KL (K : PySem.W.Frag) (a : Addr) (xs : List V) : Prop :=
  ∃ (o : Obj) (its : Array Value) (n : Nat), K.lookup a = some o ∧ o.cls = .type "list" ∧ o.dict = none ∧ o.data = .seq its n ∧ its.size ≤ sizeLine ∧ Vals xs its.toList
def KT (K : PySem.W.Frag) (a : Addr) (xs : List V) : Prop :=
  ∃ (o : Obj) (its : Array Value) (n : Nat), K.lookup a = some o ∧ o.cls = .type "tuple" ∧ o.data = .seq its n ∧ its.size ≤ sizeLine ∧ Vals xs its.toList
def FzL (K : PySem.W.Frag) (W : Wd) (H : Hp) (a : Addr) (xs : List V) : Prop := (W.F a ∧ Rd H a (.lst xs)) ∨ KL K a xs
def FzT (K : PySem.W.Frag) (W : Wd) (H : Hp) (a : Addr) (xs : List V) : Prop := (W.F a ∧ Rd H a (.tup xs)) ∨ KT K a xs
theorem FzL.sq {K : PySem.W.Frag} {W : Wd} {H : Hp} {a : Addr} {xs : List V} (h : FzL K W H a xs) : SqL K H a xs := by
  rcases h with ⟨_, h⟩ | h
  · exact .inl h
  · exact .inr h
theorem FzT.sq {K : PySem.W.Frag} {W : Wd} {H : Hp} {a : Addr} {xs : List V} (h : FzT K W H a xs) : SqT K H a xs := by
  rcases h with ⟨_, h⟩ | h
  · exact .inl h
  · exact .inr h

def kD : Key → D
  | .inl i => .int i
  | .inr x => .str x
def kDT (ks : List Key) : D := .tup (ks.map kD)

mutual
/-- v is d in H; the owned addresses of it -/
inductive RepD (K : PySem.W.Frag) (W : Wd) (H : Hp) : V → D → List Addr → Prop
  | non : RepD K W H .non .non []
  | bl {b} : RepD K W H (.bl b) (.bl b) []
  | int {i} : RepD K W H (.int i) (.int i) []
  | str {x} : RepD K W H (.str x) (.str x) []
  | loc {n a} : W.ι[n]? = some a → RepD K W H (.ref a) (.loc n) []
  | ty {n} : RepD K W H (.ty n) (.ty n) []
  | tup {a vs ds fp} : FzT K W H a vs → RepL K W H vs ds fp → RepD K W H (.ref a) (.tup ds) fp
  | lstF {a vs ds} : FzL K W H a vs → RepL K W H vs ds [] → RepD K W H (.ref a) (.lst false ds) []
  | lstO {a vs ds fp} : H a = some (.lst vs) → RepL K W H vs ds fp → RepD K W H (.ref a) (.lst true ds) (a :: fp)
  | dkF {a} {kvs : List (Key × V)} {dd : List (D × D)} : W.F a → H a = some (.dK kvs) → kvs.map (fun p => kD p.1) = dd.map (·.1) → RepL K W H (kvs.map (·.2)) (dd.map (·.2)) [] → RepD K W H (.ref a) (.dic false dd) []
  | dtF {a} {kvs : List (List Key × V)} {dd : List (D × D)} : W.F a → H a = some (.dT kvs) → kvs.map (fun p => kDT p.1) = dd.map (·.1) → RepL K W H (kvs.map (·.2)) (dd.map (·.2)) [] → RepD K W H (.ref a) (.dic false dd) []
  | dkO {a fp} {kvs : List (Key × V)} {dd : List (D × D)} : H a = some (.dK kvs) → kvs.map (fun p => kD p.1) = dd.map (·.1) → RepL K W H (kvs.map (·.2)) (dd.map (·.2)) fp → RepD K W H (.ref a) (.dic true dd) (a :: fp)
  | dtO {a fp} {kvs : List (List Key × V)} {dd : List (D × D)} : H a = some (.dT kvs) → kvs.map (fun p => kDT p.1) = dd.map (·.1) → RepL K W H (kvs.map (·.2)) (dd.map (·.2)) fp → RepD K W H (.ref a) (.dic true dd) (a :: fp)
inductive RepL (K : PySem.W.Frag) (W : Wd) (H : Hp) : List V → List D → List Addr → Prop
  | nil : RepL K W H [] [] []
  | cons {v d f vs ds g} : RepD K W H v d f → RepL K W H vs ds g → RepL K W H (v :: vs) (d :: ds) (f ++ g)
end

/-- from (W, H) to (W', H'), where only fp may be changed -/
structure Ext (W : Wd) (H : Hp) (W' : Wd) (H' : Hp) (fp : List Addr) : Prop where
  fm : ∀ a, W.F a → W'.F a
  im : ∀ (n : Nat) a, W.ι[n]? = some a → W'.ι[n]? = some a
  keep : ∀ a o, H a = some o → a ∉ fp → H' a = some o
  fnew : ∀ a, W'.F a → W.F a ∨ a ∈ fp ∨ H a = none
  there : ∀ a, H' a = none → H a = none
/-- owned ones are there and not fixed -/
def Own (W : Wd) (H : Hp) (fp : List Addr) : Prop := ∀ a ∈ fp, ¬ W.F a ∧ H a ≠ none
/-- fixed ones are there -/
def Fix (W : Wd) (H : Hp) : Prop := ∀ a, W.F a → H a ≠ none

theorem Ext.refl (W : Wd) (H : Hp) (fp : List Addr) : Ext W H W H fp := ⟨fun _ h => h, fun _ _ h => h, fun _ _ h _ => h, fun _ h => .inl h, fun _ h => h⟩
theorem Ext.trans {W W1 W2 : Wd} {H H1 H2 : Hp} {fp fq : List Addr} (e : Ext W H W1 H1 fp) (f : Ext W1 H1 W2 H2 fq) (s : ∀ a ∈ fq, a ∈ fp ∨ H a = none) : Ext W H W2 H2 fp where
  fm := fun a h => f.fm a (e.fm a h)
  im := fun n a h => f.im n a (e.im n a h)
  keep := fun a o h q => f.keep a o (e.keep a o h q) fun z => by
    rcases s a z with z | z
    · exact q z
    · rw [h] at z; cases z
  fnew := fun a h => by
    rcases f.fnew a h with z | z | z
    · exact e.fnew a z
    · rcases s a z with y | y
      · exact .inr (.inl y)
      · exact .inr (.inr y)
    · exact .inr (.inr (e.there a z))
  there := fun a h => e.there a (f.there a h)
theorem Ext.sub {W W1 : Wd} {H H1 : Hp} {fp fq : List Addr} (e : Ext W H W1 H1 fp) (s : ∀ a ∈ fp, a ∈ fq) : Ext W H W1 H1 fq where
  fm := e.fm
  im := e.im
  keep := fun a o h q => e.keep a o h fun z => q (s a z)
  fnew := fun a h => by
    rcases e.fnew a h with z | z | z
    · exact .inl z
    · exact .inr (.inl (s a z))
    · exact .inr (.inr z)
  there := e.there
theorem Own.app {W : Wd} {H : Hp} {f g : List Addr} : Own W H (f ++ g) ↔ Own W H f ∧ Own W H g := by
  unfold Own
  constructor
  · intro h
    exact ⟨fun a m => h a (List.mem_append_left _ m), fun a m => h a (List.mem_append_right _ m)⟩
  · rintro ⟨h, k⟩ a m
    rcases List.mem_append.mp m with m | m
    · exact h a m
    · exact k a m
theorem Own.nil {W : Wd} {H : Hp} : Own W H [] := fun a m => by cases m
/-- what is owned apart stays owned -/
theorem Own.ext {W W1 : Wd} {H H1 : Hp} {fp g : List Addr} (o : Own W H g) (e : Ext W H W1 H1 fp) (d : ∀ a ∈ g, a ∉ fp) : Own W1 H1 g := fun a m => by
  obtain ⟨h1, h2⟩ := o a m
  refine ⟨fun z => ?_, fun z => h2 (e.there a z)⟩
  rcases e.fnew a z with y | y | y
  · exact h1 y
  · exact d a m y
  · exact h2 y

section
variable {K : PySem.W.Frag} {W W' : Wd} {H H' : Hp} {fp : List Addr}
theorem rd_ext {a : Addr} {o : HO} (h : Rd H a o) (k : ∀ o, H a = some o → H' a = some o) : Rd H' a o := by
  rcases h with h | ⟨u, h⟩
  · exact .inl (k _ h)
  · exact .inr ⟨u, k _ h⟩
/-- fixed addresses don't lie in fp -/
def Off (W : Wd) (fp : List Addr) : Prop := ∀ a ∈ fp, ¬ W.F a
theorem FzL.ext {a : Addr} {xs : List V} (h : FzL K W H a xs) (e : Ext W H W' H' fp) (o : Off W fp) : FzL K W' H' a xs := by
  rcases h with ⟨h1, h2⟩ | h
  · exact .inl ⟨e.fm a h1, rd_ext h2 fun u q => e.keep a u q fun m => o a m h1⟩
  · exact .inr h
theorem FzT.ext {a : Addr} {xs : List V} (h : FzT K W H a xs) (e : Ext W H W' H' fp) (o : Off W fp) : FzT K W' H' a xs := by
  rcases h with ⟨h1, h2⟩ | h
  · exact .inl ⟨e.fm a h1, rd_ext h2 fun u q => e.keep a u q fun m => o a m h1⟩
  · exact .inr h
mutual
theorem RepD.ext (e : Ext W H W' H' fp) (o : Off W fp) : ∀ {v : V} {d : D} {g : List Addr}, RepD K W H v d g → (∀ a ∈ g, a ∉ fp) → RepD K W' H' v d g
  | _, _, _, .non, _ => .non
  | _, _, _, .bl, _ => .bl
  | _, _, _, .int, _ => .int
  | _, _, _, .str, _ => .str
  | _, _, _, .loc h, _ => .loc (e.im _ _ h)
  | _, _, _, .ty, _ => .ty
  | _, _, _, .tup h l, n => .tup (h.ext e o) (RepL.ext e o l n)
  | _, _, _, .lstF h l, n => .lstF (h.ext e o) (RepL.ext e o l n)
  | _, _, _, .lstO h l, n => .lstO (e.keep _ _ h (n _ (List.mem_cons_self ..))) (RepL.ext e o l fun a m => n a (List.mem_cons_of_mem _ m))
  | _, _, _, .dkF f h k l, n => .dkF (e.fm _ f) (e.keep _ _ h fun m => o _ m f) k (RepL.ext e o l n)
  | _, _, _, .dtF f h k l, n => .dtF (e.fm _ f) (e.keep _ _ h fun m => o _ m f) k (RepL.ext e o l n)
  | _, _, _, .dkO h k l, n => .dkO (e.keep _ _ h (n _ (List.mem_cons_self ..))) k (RepL.ext e o l fun a m => n a (List.mem_cons_of_mem _ m))
  | _, _, _, .dtO h k l, n => .dtO (e.keep _ _ h (n _ (List.mem_cons_self ..))) k (RepL.ext e o l fun a m => n a (List.mem_cons_of_mem _ m))
theorem RepL.ext (e : Ext W H W' H' fp) (o : Off W fp) : ∀ {vs : List V} {ds : List D} {g : List Addr}, RepL K W H vs ds g → (∀ a ∈ g, a ∉ fp) → RepL K W' H' vs ds g
  | _, _, _, .nil, _ => .nil
  | _, _, _, .cons h l, n => .cons (RepD.ext e o h fun a m => n a (List.mem_append_left _ m)) (RepL.ext e o l fun a m => n a (List.mem_append_right _ m))
end
mutual
/-- pure data owns nothing -/
theorem RepD.pure : ∀ {v : V} {d : D} {g : List Addr}, RepD K W H v d g → d.pure = true → g = []
  | _, _, _, .non, _ => rfl
  | _, _, _, .bl, _ => rfl
  | _, _, _, .int, _ => rfl
  | _, _, _, .str, _ => rfl
  | _, _, _, .loc _, _ => rfl
  | _, _, _, .ty, _ => rfl
  | _, _, _, .tup _ l, p => RepL.pure l p
  | _, _, _, .lstF _ _, _ => rfl
  | _, _, _, .lstO _ _, p => by simp [D.pure] at p
  | _, _, _, .dkF _ _ _ _, _ => rfl
  | _, _, _, .dtF _ _ _ _, _ => rfl
  | _, _, _, .dkO _ _ _, p => by simp [D.pure] at p
  | _, _, _, .dtO _ _ _, p => by simp [D.pure] at p
theorem RepL.pure : ∀ {vs : List V} {ds : List D} {g : List Addr}, RepL K W H vs ds g → pureL ds = true → g = []
  | _, _, _, .nil, _ => rfl
  | _, _, _, .cons h l, p => by
    have p' : _ ∧ _ := Bool.and_eq_true_iff.mp p
    rw [RepD.pure h p'.1, RepL.pure l p'.2]
    rfl
end
theorem pureL_all : ∀ {ds : List D}, pureL ds = ds.all D.pure
  | [] => rfl
  | d :: ds => by rw [pureL, List.all_cons, pureL_all]
theorem pureK_all : ∀ {kvs : List (D × D)}, pureK kvs = (kvs.map (·.2)).all D.pure
  | [] => rfl
  | (k, d) :: r => by rw [pureK, List.map_cons, List.all_cons, pureK_all]
theorem fzL_map : ∀ {ds : List D}, fzL ds = ds.map D.fz
  | [] => rfl
  | d :: ds => by rw [fzL, List.map_cons, fzL_map]
theorem fzK_map : ∀ {kvs : List (D × D)}, fzK kvs = kvs.map fun p => (p.1, p.2.fz)
  | [] => rfl
  | (k, d) :: r => by rw [fzK, List.map_cons, fzK_map]
mutual
theorem fz_pure : ∀ d : D, d ≠ .und → (∀ d', d'=d → True) → d.pure = true → d.fz = d
  | .non, _, _, _ => rfl
  | .bl _, _, _, _ => rfl
  | .int _, _, _, _ => rfl
  | .str _, _, _, _ => rfl
  | .loc _, _, _, _ => rfl
  | .ty _, _, _, _ => rfl
  | .und, h, _, _ => rfl
  | .tup xs, _, _, p => by
    have p' : pureL xs = true := by simpa [D.pure] using p
    rw [D.fz, fzL_pure xs p']
  | .lst o xs, _, _, p => by
    have p' : o = false ∧ pureL xs = true := by simpa [D.pure] using p
    rw [D.fz, fzL_pure xs p'.2, p'.1]
  | .dic o xs, _, _, p => by
    have p' : o = false ∧ pureK xs = true := by simpa [D.pure] using p
    rw [D.fz, fzK_pure xs p'.2, p'.1]
theorem fzL_pure : ∀ ds : List D, pureL ds = true → fzL ds = ds
  | [], _ => rfl
  | d :: ds, p => by
    have p' : d.pure = true ∧ pureL ds = true := by simpa [pureL] using p
    rw [fzL, fz_pure d (by intro e; subst e; exact absurd p'.1 (by simp [D.pure])) (fun _ _ => trivial) p'.1, fzL_pure ds p'.2]
theorem fzK_pure : ∀ ds : List (D × D), pureK ds = true → fzK ds = ds
  | [], _ => rfl
  | (k, d) :: ds, p => by
    have p' : d.pure = true ∧ pureK ds = true := by simpa [pureK] using p
    rw [fzK, fz_pure d (by intro e; subst e; exact absurd p'.1 (by simp [D.pure])) (fun _ _ => trivial) p'.1, fzK_pure ds p'.2]
end
end
end E
/-! EngB: states, the judgement of an expression, names, constants -/
namespace E
open PySem L2

structure Ob where
  cls : Nat
  fs : List (String × D)
structure Mem where
  env : List D
  hs : List Ob
inductive Res (α : Type) where
  | ok (a : α)
  | exc (x : D) (m : Mem)
  | fail
def Res.bind {α β : Type} (r : Res α) (f : α → Res β) : Res β := match r with
  | .ok a => f a
  | .exc x m => .exc x m
  | .fail => .fail
@[simp] theorem Res.bind_ok {α β : Type} (a : α) (f : α → Res β) : (Res.ok a).bind f = f a := rfl
@[simp] theorem Res.bind_fail {α β : Type} (f : α → Res β) : (Res.fail : Res α).bind f = .fail := rfl
@[simp] theorem Res.bind_exc {α β : Type} (x : D) (m : Mem) (f : α → Res β) : (Res.exc x m : Res α).bind f = .exc x m := rfl
theorem Res.bind_eq {α β : Type} {r : Res α} {f : α → Res β} {b : β} (h : r.bind f = .ok b) : ∃ a, r = .ok a ∧ f a = .ok b := by
  cases r with
  | ok a => exact ⟨a, rfl, h⟩
  | exc x m => cases h
  | fail => cases h
/-- what follows is not looked at before its time -/
theorem Res.bind_congr {α β : Type} {r r' : Res α} {f : α → Res β} (h : r = r') : r.bind f = r'.bind f := by rw [h]
abbrev M (α : Type) := Mem → Res (α × Mem)
abbrev MQ (α : Type) := Mem → Res α
/-- a value that is there, or nothing -/
def Res.of {α : Type} : Option α → Res α
  | some a => .ok a
  | none => .fail
@[simp] theorem Res.of_some {α : Type} (a : α) : Res.of (some a) = .ok a := rfl
@[simp] theorem Res.of_none {α : Type} : Res.of (none : Option α) = .fail := rfl
theorem Res.of_eq {α : Type} {o : Option α} {a : α} (h : Res.of o = .ok a) : o = some a := by
  cases o with
  | none => cases h
  | some b => cases h; rfl
/-- a truth that no evaluation opens -/
noncomputable def cdec (p : Prop) : Bool := @decide p (Classical.propDecidable p)
theorem cdec_of {p : Prop} (h : p) : cdec p = true := @decide_eq_true p (Classical.propDecidable p) h
theorem of_cdec {p : Prop} (h : cdec p = true) : p := @of_decide_eq_true p (Classical.propDecidable p) h
def Res.when {α : Type} (b : Bool) (r : Res α) : Res α := if b = true then r else .fail
@[simp] theorem Res.when_true {α : Type} (r : Res α) : Res.when true r = r := rfl
@[simp] theorem Res.when_false {α : Type} (r : Res α) : Res.when false r = .fail := rfl
theorem Res.when_congr {α : Type} {b b' : Bool} {r : Res α} (h : b = b') : Res.when b r = Res.when b' r := by rw [h]
theorem Res.when_eq {α : Type} {b : Bool} {r : Res α} {a : α} (h : Res.when b r = .ok a) : b = true ∧ r = .ok a := by
  cases b with
  | false => cases h
  | true => exact ⟨rfl, h⟩

section
variable {K : PySem.W.Frag} {W W' : Wd} {H H' : Hp} {fp : List Addr}
mutual
theorem RepD.frz (f : ∀ a, W.F a → W'.F a) (i : W'.ι = W.ι) : ∀ {v : V} {d : D} {g : List Addr}, RepD K W H v d g → (∀ a ∈ g, W'.F a) → RepD K W' H v d.fz []
  | _, _, _, .non, _ => .non
  | _, _, _, .bl, _ => .bl
  | _, _, _, .int, _ => .int
  | _, _, _, .str, _ => .str
  | _, _, _, .loc h, _ => .loc (by rw [i]; exact h)
  | _, _, _, .ty, _ => .ty
  | _, _, _, .tup h l, n => .tup (h.imp (fun q => ⟨f _ q.1, q.2⟩) id) (RepL.frz f i l n)
  | _, _, _, .lstF h l, n => .lstF (h.imp (fun q => ⟨f _ q.1, q.2⟩) id) (RepL.frz f i l n)
  | _, _, _, .lstO h l, n => .lstF (.inl ⟨n _ (List.mem_cons_self ..), .inl h⟩) (RepL.frz f i l fun a m => n a (List.mem_cons_of_mem _ m))
  | _, _, _, .dkF g h k l, n => by
    refine .dkF (f _ g) h ?_ ?_
    · rw [k, fzK_map, List.map_map]; rfl
    · have := RepL.frz f i l n
      rw [fzL_map] at this
      rw [fzK_map, List.map_map]
      rw [List.map_map] at this
      exact this
  | _, _, _, .dtF g h k l, n => by
    refine .dtF (f _ g) h ?_ ?_
    · rw [k, fzK_map, List.map_map]; rfl
    · have := RepL.frz f i l n
      rw [fzL_map] at this
      rw [fzK_map, List.map_map]
      rw [List.map_map] at this
      exact this
  | _, _, _, .dkO h k l, n => by
    refine .dkF (n _ (List.mem_cons_self ..)) h ?_ ?_
    · rw [k, fzK_map, List.map_map]; rfl
    · have := RepL.frz f i l fun a m => n a (List.mem_cons_of_mem _ m)
      rw [fzL_map] at this
      rw [fzK_map, List.map_map]
      rw [List.map_map] at this
      exact this
  | _, _, _, .dtO h k l, n => by
    refine .dtF (n _ (List.mem_cons_self ..)) h ?_ ?_
    · rw [k, fzK_map, List.map_map]; rfl
    · have := RepL.frz f i l fun a m => n a (List.mem_cons_of_mem _ m)
      rw [fzL_map] at this
      rw [fzK_map, List.map_map]
      rw [List.map_map] at this
      exact this
theorem RepL.frz (f : ∀ a, W.F a → W'.F a) (i : W'.ι = W.ι) : ∀ {vs : List V} {ds : List D} {g : List Addr}, RepL K W H vs ds g → (∀ a ∈ g, W'.F a) → RepL K W' H vs (fzL ds) []
  | _, _, _, .nil, _ => .nil
  | _, _, _, .cons h l, n => .cons (f := []) (g := []) (RepD.frz f i h fun a m => n a (List.mem_append_left _ m)) (RepL.frz f i l fun a m => n a (List.mem_append_right _ m))
end
/-- to fix owned addresses -/
def Wd.fixed (W : Wd) (g : List Addr) : Wd := ⟨fun a => W.F a ∨ a ∈ g, W.ι⟩
theorem Ext.fixed {g : List Addr} (s : ∀ a ∈ g, a ∈ fp) : Ext W H (W.fixed g) H fp :=
  ⟨fun _ h => .inl h, fun _ _ h => h, fun _ _ h _ => h, fun a h => h.elim .inl fun m => .inr (.inl (s a m)), fun _ h => h⟩
theorem RepD.fixed {v : V} {d : D} {g : List Addr} (r : RepD K W H v d g) : RepD K (W.fixed g) H v d.fz [] := RepD.frz (W' := W.fixed g) (fun _ h => Or.inl h) rfl r fun _ m => Or.inr m

/-! ### slots -/
inductive RepS (K : PySem.W.Frag) (W : Wd) (H : Hp) : L2.St → List D → List Addr → Prop
  | nil : RepS K W H [] [] []
  | und {x σ env g} : RepS K W H σ env g → RepS K W H (x :: σ) (.und :: env) g
  | cons {v σ d env f g} : RepD K W H v d f → RepS K W H σ env g → RepS K W H (some v :: σ) (d :: env) (f ++ g)
theorem RepS.ext (e : Ext W H W' H' fp) (o : Off W fp) {σ : L2.St} {env : List D} {g : List Addr} (h : RepS K W H σ env g) (n : ∀ a ∈ g, a ∉ fp) : RepS K W' H' σ env g := by
  induction h with
  | nil => exact .nil
  | und _ ih => exact .und (ih n)
  | cons r _ ih => exact .cons (r.ext e o fun a m => n a (List.mem_append_left _ m)) (ih fun a m => n a (List.mem_append_right _ m))
theorem RepD.nund {v : V} {g : List Addr} (h : RepD K W H v .und g) : False := by cases h
/-- one slot in view: others may move on as long as theirs isn't touched -/
theorem RepS.at {σ : L2.St} {env : List D} {g : List Addr} (h : RepS K W H σ env g) : ∀ {i : Nat} {d : D}, env[i]? = some d → d ≠ .und →
    ∃ v A f B, g = A ++ f ++ B ∧ σ[i]? = some (some v) ∧ RepD K W H v d f ∧
      ∀ {W' : Wd} {H' : Hp} {fq : List Addr} {v' : V} {d' : D} {f' : List Addr}, Ext W H W' H' fq → Off W fq → (∀ a ∈ A ++ B, a ∉ fq) → RepD K W' H' v' d' f' → RepS K W' H' (σ.set i (some v')) (env.set i d') (A ++ f' ++ B) := by
  induction h with
  | nil => intro i d e; simp at e
  | @und x σ env g hs ih =>
    intro i d e nd
    cases i with
    | zero => simp at e; exact absurd e.symm nd
    | succ i =>
      obtain ⟨v, A, f, B, e1, e2, e3, k⟩ := ih (by simpa using e) nd
      exact ⟨v, A, f, B, e1, by simpa using e2, e3, fun a b c d => .und (k a b c d)⟩
  | @cons v σ d0 env f g r hs ih =>
    intro i d e nd
    cases i with
    | zero =>
      obtain rfl : d0 = d := by simpa using e
      refine ⟨v, [], f, g, rfl, rfl, r, fun a b c q => ?_⟩
      exact .cons q (hs.ext a b fun z m => c z (by simpa using m))
    | succ i =>
      obtain ⟨v', A, f', B, e1, e2, e3, k⟩ := ih (by simpa using e) nd
      refine ⟨v', f ++ A, f', B, by rw [e1]; simp, by simpa using e2, e3, fun a b c q => ?_⟩
      have := RepS.cons (r.ext a b fun z m => c z (by simp [m])) (k a b (fun z m => c z (by
        rcases List.mem_append.mp m with m | m
        · simp [m]
        · simp [m])) q)
      simpa using this
/-- a slot stored anew: what it held is given up -/
theorem RepS.put {σ : L2.St} {env : List D} {g : List Addr} (h : RepS K W H σ env g) : ∀ {i : Nat}, i < env.length →
    ∃ A f B, g = A ++ f ++ B ∧ ∀ {v' : V} {d' : D} {f' : List Addr}, RepD K W H v' d' f' → RepS K W H (σ.set i (some v')) (env.set i d') (A ++ f' ++ B) := by
  induction h with
  | nil => intro i e; simp at e
  | @und x σ env g hs ih =>
    intro i e
    cases i with
    | zero => exact ⟨[], [], g, rfl, fun q => .cons q hs⟩
    | succ i =>
      obtain ⟨A, f, B, e1, k⟩ := ih (by simpa using e)
      exact ⟨A, f, B, e1, fun q => .und (k q)⟩
  | @cons v σ d0 env f g r hs ih =>
    intro i e
    cases i with
    | zero => exact ⟨[], f, g, rfl, fun q => .cons q hs⟩
    | succ i =>
      obtain ⟨A, f', B, e1, k⟩ := ih (by simpa using e)
      refine ⟨f ++ A, f', B, by rw [e1]; simp, fun q => ?_⟩
      have := RepS.cons r (k q)
      simpa using this
theorem RepS.length {σ : L2.St} {env : List D} {g : List Addr} (h : RepS K W H σ env g) : σ.length = env.length := by
  induction h with
  | nil => rfl
  | und _ ih => simp [ih]
  | cons _ _ ih => simp [ih]

/-! ### objects -/
inductive RepH (K : PySem.W.Frag) (CT : Nat → Addr) (W : Wd) (H : Hp) : List Addr → List Ob → List Addr → Prop
  | nil : RepH K CT W H [] [] []
  | cons {a c dx fvs fs f ι hs g} : H a = some (.ins (CT c) dx fvs) → fvs.map (·.1) = fs.map (fun p => Str.ofString p.1) → RepL K W H (fvs.map (·.2)) (fs.map (·.2)) f → RepH K CT W H ι hs g → RepH K CT W H (a :: ι) (⟨c, fs⟩ :: hs) ((a :: f) ++ g)
theorem RepH.ext {CT : Nat → Addr} (e : Ext W H W' H' fp) (o : Off W fp) {ι : List Addr} {hs : List Ob} {g : List Addr} (h : RepH K CT W H ι hs g) (n : ∀ a ∈ g, a ∉ fp) : RepH K CT W' H' ι hs g := by
  induction h with
  | nil => exact .nil
  | cons h1 h2 h3 _ ih =>
    refine .cons (e.keep _ _ h1 (n _ (by simp))) h2 (h3.ext e o fun a m => n a (by simp [m])) (ih fun a m => n a ?_)
    exact List.mem_append_right _ m

structure Rel (K : PySem.W.Frag) (CT : Nat → Addr) (W : Wd) (H : Hp) (σ : L2.St) (m : Mem) (fp : List Addr) : Prop where
  s : ∃ f g, fp = f ++ g ∧ RepS K W H σ m.env f ∧ RepH K CT W H W.ι m.hs g
  nd : fp.Nodup
  own : Own W H fp
  fix : Fix W H
theorem Rel.off {CT : Nat → Addr} {σ : L2.St} {m : Mem} (r : Rel K CT W H σ m fp) : Off W fp := fun a m => (r.own a m).1
/-- what lies apart from it may change -/
theorem Rel.ext {CT : Nat → Addr} {σ : L2.St} {m : Mem} {fq : List Addr} (r : Rel K CT W H σ m fp) (e : Ext W H W' H' fq) (o : Off W fq) (n : ∀ a ∈ fp, a ∉ fq) (i : W'.ι = W.ι) (x : Fix W' H') : Rel K CT W' H' σ m fp := by
  obtain ⟨f, g, rfl, h1, h2⟩ := r.s
  refine ⟨⟨f, g, rfl, h1.ext e o fun a m => n a (List.mem_append_left _ m), ?_⟩, r.nd, r.own.ext e n, x⟩
  rw [i]
  exact h2.ext e o fun a m => n a (List.mem_append_right _ m)
end

/-! ### the judgements -/
section
variable (K : PySem.W.Frag) (CT : Nat → Addr)
/-- behind an expression: v is d, apart from what the state owns -/
structure Post (W : Wd) (H : Hp) (σ : L2.St) (fp : List Addr) (v : V) (d : D) (m' : Mem) (W' : Wd) (H' : Hp) (fp' fd : List Addr) : Prop where
  rel : Rel K CT W' H' σ m' fp'
  rep : RepD K W' H' v d fd
  nd : (fp' ++ fd).Nodup
  own : Own W' H' fd
  ext : Ext W H W' H' fp
  sub : ∀ a ∈ fp' ++ fd, a ∈ fp ∨ H a = none
def tM (e : M D) : TE := fun σ H Q => ∃ W m fp d m', Rel K CT W H σ m fp ∧ e m = .ok (d, m') ∧ ∀ v W' H' fp' fd, Post K CT W H σ fp v d m' W' H' fp' fd → Q v H'
/-- an expression that changes nothing; its value may be a part of the state -/
structure PostQ (W : Wd) (H : Hp) (σ : L2.St) (m : Mem) (fp : List Addr) (v : V) (d : D) (W' : Wd) (H' : Hp) (fd : List Addr) : Prop where
  rel : Rel K CT W' H' σ m fp
  rep : RepD K W' H' v d fd
  ext : Ext W H W' H' []
  sub : ∀ a ∈ fd, a ∈ fp
def tQ (e : MQ D) : TE := fun σ H Q => ∃ W m fp d, Rel K CT W H σ m fp ∧ e m = .ok d ∧ ∀ v W' H' fd, PostQ K CT W H σ m fp v d W' H' fd → Q v H'
/-- argument lists -/
structure PostL (W : Wd) (H : Hp) (σ : L2.St) (fp : List Addr) (vs : List V) (ds : List D) (m' : Mem) (W' : Wd) (H' : Hp) (fp' fd : List Addr) : Prop where
  rel : Rel K CT W' H' σ m' fp'
  rep : RepL K W' H' vs ds fd
  nd : (fp' ++ fd).Nodup
  own : Own W' H' fd
  ext : Ext W H W' H' fp
  sub : ∀ a ∈ fp' ++ fd, a ∈ fp ∨ H a = none
end
def ME (X : Cx) (CT : Nat → Addr) (e : Expr) (m : M D) : Prop := PE X e (tM X.K CT m)
def MEQ (X : Cx) (CT : Nat → Addr) (e : Expr) (q : MQ D) : Prop := PE X e (tQ X.K CT q)

theorem pe_weak {X : Cx} {e : Expr} {t t' : TE} (h : PE X e t) (k : ∀ σ H Q, t' σ H Q → t σ H Q) : PE X e t' := ⟨fun pins s σ H Q I q => h.run pins s σ H Q I (k σ H Q q)⟩
theorem pt_weak {X : Cx} {e : Expr} {t t' : TT} (h : PT X e t) (k : ∀ σ H Q, t' σ H Q → t σ H Q) : PT X e t' := ⟨fun pins s σ H Q I q => h.run pins s σ H Q I (k σ H Q q)⟩
theorem pw_weak {X : Cx} {e : Expr} {t t' : TT} (h : PW X e t) (k : ∀ σ H Q, t' σ H Q → t σ H Q) : PW X e t' := ⟨fun w pins s σ H Q I q => h.run w pins s σ H Q I (k σ H Q q)⟩
theorem pa_weak {X : Cx} {e : List Expr} {t t' : TA} (h : PA X e t) (k : ∀ σ H Q, t' σ H Q → t σ H Q) : PA X e t' := ⟨fun p pins s σ H Q I q => h.run p pins s σ H Q I (k σ H Q q)⟩
theorem ps_weak {X : Cx} {e : Stmt} {t t' : TS} (h : PS X e t) (k : ∀ D σ H, t' D σ H → t D σ H) : PS X e t' := ⟨fun pins s σ H D I q => h.run pins s σ H D I (k D σ H q)⟩
theorem pss_weak {X : Cx} {e : List Stmt} {t t' : TS} (h : PSs X e t) (k : ∀ D σ H, t' D σ H → t D σ H) : PSs X e t' := ⟨fun pins s σ H D I q => h.run pins s σ H D I (k D σ H q)⟩

section
variable {K : PySem.W.Frag} {CT : Nat → Addr} {W W' W1 W2 : Wd} {H H' H1 H2 : Hp} {σ : L2.St} {m m' m1 m2 : Mem} {fp fp' fd fp1 fp2 fd1 fd2 : List Addr} {v v1 v2 : V} {d d1 d2 : D}
theorem Post.mk0 (r : Rel K CT W H σ m fp) (h : RepD K W H v d []) : Post K CT W H σ fp v d m W H fp [] :=
  ⟨r, h, by rw [List.append_nil]; exact r.nd, Own.nil, Ext.refl _ _ _, fun a z => .inl (by simpa using z)⟩
theorem PostQ.mk0 (r : Rel K CT W H σ m fp) (h : RepD K W H v d fd) (s : ∀ a ∈ fd, a ∈ fp) : PostQ K CT W H σ m fp v d W H fd := ⟨r, h, Ext.refl _ _ _, s⟩
end

/-! ### names and constants -/
def mqC (d : D) : MQ D := fun _ => .ok d
def mqVar (i : Nat) : MQ D := fun m => match m.env[i]? with
  | some .und => .fail
  | some d => .ok d
  | none => .fail
theorem mqVar_eq {i : Nat} {m : Mem} {d : D} (h : mqVar i m = .ok d) : m.env[i]? = some d ∧ d ≠ .und := by
  unfold mqVar at h
  split at h
  · cases h
  · rename_i d' hd e
    cases h
    exact ⟨e, hd⟩
  · cases h
/-- a value out of a thing that is looked at: it must be pure -/
def mP (q : MQ D) : M D := fun m => (q m).bind fun d => Res.when d.pure (.ok (d, m))
/-- a name's value: what it owned is fixed then -/
def mVar (i : Nat) : M D := fun m => (mqVar i m).bind fun d => if d.pure = true then .ok (d, m) else .ok (d.fz, { m with env := m.env.set i d.fz })
section
variable {X : Cx} {CT : Nat → Addr} {e : Expr}
theorem meq_c {v : V} {d : D} (h : PE X e (tC v)) (r : ∀ W H, RepD X.K W H v d []) : MEQ X CT e (mqC d) := pe_weak h fun σ H Q ⟨W, m, fp, d', rel, e, k⟩ => by
  cases e
  exact k v W H [] (PostQ.mk0 rel (r W H) fun a m => by cases m)
theorem meq_int {i : Int} {j pos} : MEQ X CT (.Constant (.int i) j pos) (mqC (.int i)) := meq_c pe_int fun _ _ => .int
theorem meq_bl {b : Bool} {j pos} : MEQ X CT (.Constant (.bool b) j pos) (mqC (.bl b)) := meq_c pe_bl fun _ _ => .bl
theorem meq_non {j pos} : MEQ X CT (.Constant .none j pos) (mqC .non) := meq_c pe_non fun _ _ => .non
theorem meq_str {x : Str} {j pos} : MEQ X CT (.Constant (.str x) j pos) (mqC (.str x)) := meq_c pe_str fun _ _ => .str
theorem meq_var {i : Nat} (h : PE X e (tVar i)) : MEQ X CT e (mqVar i) := pe_weak h fun σ H Q ⟨W, m, fp, d, rel, e, k⟩ => by
  obtain ⟨e1, e2⟩ := mqVar_eq e
  obtain ⟨f, g, rfl, h1, h2⟩ := rel.s
  obtain ⟨v, A, f1, B, rfl, s, r, _⟩ := h1.at e1 e2
  exact ⟨v, s, k v W H f1 (PostQ.mk0 rel r fun a z => by simp [z])⟩
theorem me_p {q : MQ D} (h : MEQ X CT e q) : ME X CT e (mP q) := pe_weak h fun σ H Q ⟨W, m, fp, d, m', rel, e, k⟩ => by
  obtain ⟨d1, e1, e2⟩ := Res.bind_eq e
  obtain ⟨p, e3⟩ := Res.when_eq e2
  cases e3
  refine ⟨W, m, fp, d, rel, e1, fun v W' H' fd q => ?_⟩
  obtain rfl := q.rep.pure p
  exact k v W' H' fp [] ⟨q.rel, q.rep, by rw [List.append_nil]; exact q.rel.nd, Own.nil, q.ext.sub (fun a m => by cases m), fun a z => .inl (by simpa using z)⟩
theorem me_var {i : Nat} (h : PE X e (tVar i)) : ME X CT e (mVar i) := pe_weak h fun σ H Q ⟨W, m, fp, d, m', rel, e, k⟩ => by
  obtain ⟨d1, e1, e2⟩ := Res.bind_eq e
  obtain ⟨e3, nu⟩ := mqVar_eq e1
  obtain ⟨f, g, rfl, h1, h2⟩ := rel.s
  obtain ⟨v, A, f1, B, rfl, s, r, kk⟩ := h1.at e3 nu
  refine ⟨v, s, ?_⟩
  by_cases p : d1.pure = true
  · rw [if_pos p] at e2
    cases e2
    obtain rfl := r.pure p
    exact k v W H _ [] (Post.mk0 rel r)
  · rw [if_neg p] at e2
    cases e2
    have hs : σ.set i (some v) = σ := by
      apply List.ext_getElem?
      intro j
      rw [List.getElem?_set]
      split
      · rename_i ej; subst ej
        have : i < σ.length := (List.getElem?_eq_some_iff.mp s).1
        rw [if_pos this, s]
      · rfl
    have nd := rel.nd
    have x : Ext W H (W.fixed f1) H f1 := Ext.fixed fun a m => m
    have of1 : Off W f1 := fun a m => rel.off a (by simp [m])
    have dA : ∀ a ∈ A ++ B, a ∉ f1 := fun a ma mf => by
      simp only [List.nodup_append, List.append_assoc] at nd
      rcases List.mem_append.mp ma with ma | ma
      · exact nd.2.2 a ma a (by simp [mf]) rfl
      · exact nd.2.1.2.2 a mf a (by simp [ma]) rfl
    have dg : ∀ a ∈ g, a ∉ f1 := fun a ma mf => by
      simp only [List.nodup_append, List.append_assoc] at nd
      exact nd.2.1.2.2 a mf a (by simp [ma]) rfl
    have ns : RepS X.K (W.fixed f1) H σ (m.env.set i d1.fz) (A ++ [] ++ B) := by
      have := kk (v' := v) x of1 dA r.fixed
      rw [hs] at this
      exact this
    have sub : ∀ a ∈ (A ++ [] ++ B) ++ g, a ∈ A ++ f1 ++ B ++ g := fun a z => by
      simp only [List.append_nil, List.mem_append] at z ⊢
      rcases z with (z | z) | z
      · exact .inl (.inl (.inl z))
      · exact .inl (.inr z)
      · exact .inr z
    have nd2 : ((A ++ [] ++ B) ++ g).Nodup := by
      simp only [List.nodup_append, List.append_assoc, List.append_nil] at nd ⊢
      refine ⟨nd.1, nd.2.1.2.1, fun a ma b mb => nd.2.2 a ma b (by simp only [List.mem_append] at mb ⊢; exact .inr mb)⟩
    have own2 : Own (W.fixed f1) H ((A ++ [] ++ B) ++ g) := fun a z => by
      refine ⟨fun y => ?_, (rel.own a (sub a z)).2⟩
      rcases y with y | y
      · exact (rel.own a (sub a z)).1 y
      · simp only [List.append_nil, List.mem_append] at z
        rcases z with z | z
        · exact dA a (List.mem_append.mpr z) y
        · exact dg a z y
    have fx : Fix (W.fixed f1) H := fun a y => by
      rcases y with y | y
      · exact rel.fix a y
      · exact (rel.own a (by simp [y])).2
    refine k v (W.fixed f1) H _ [] ⟨⟨⟨_, g, rfl, ns, h2.ext x of1 dg⟩, nd2, own2, fx⟩, r.fixed, ?_, Own.nil, x.sub (fun a z => by simp [z]), fun a z => .inl (sub a (by simpa using z))⟩
    rw [List.append_nil]
    exact nd2
end
end E
/-! EngC: operators by data -/
namespace E
open PySem L2

/-- a new thing: v is d, what d owns is new -/
structure New (K : PySem.W.Frag) (W : Wd) (H : Hp) (v : V) (d : D) (W' : Wd) (H' : Hp) (fd : List Addr) : Prop where
  rep : RepD K W' H' v d fd
  ext : Ext W H W' H' []
  ι : W'.ι = W.ι
  fix : Fix W' H'
  nd : fd.Nodup
  own : Own W' H' fd
  fresh : ∀ a ∈ fd, H a = none
section
variable {K : PySem.W.Frag} {CT : Nat → Addr} {W W' W1 W2 : Wd} {H H' H1 H2 : Hp} {σ : L2.St} {m m' m1 m2 : Mem} {fp fp' fd fp1 fp2 fd1 fd2 g : List Addr} {v v1 v2 : V} {d d1 d2 : D}
theorem off_nil : Off W [] := fun a m => by cases m
theorem New.sc (x : Fix W H) (h : RepD K W H v d []) : New K W H v d W H [] := ⟨h, Ext.refl _ _ _, rfl, x, List.nodup_nil, Own.nil, fun a m => by cases m⟩
/-- a new object -/
theorem ext_upd {p : Addr} {o : HO} (hp : H p = none) : Ext W H W (upd H p o) [] := ⟨fun _ h => h, fun _ _ h => h, fun a u h _ => by rw [upd_ne (ne_of_none h hp)]; exact h, fun _ h => .inl h, fun a h => by
  by_cases e : a = p
  · subst e; exact hp
  · rw [upd_ne e] at h; exact h⟩
theorem fix_upd {p : Addr} {o : HO} (x : Fix W H) : Fix W (upd H p o) := fun a h => by
  by_cases e : a = p
  · subst e; rw [upd_same]; exact fun z => by cases z
  · rw [upd_ne e]; exact x a h
/-- a new object that is fixed at once -/
theorem ext_updF {p : Addr} {o : HO} (hp : H p = none) : Ext W H (W.fixed [p]) (upd H p o) [] := ⟨fun _ h => .inl h, fun _ _ h => h, (ext_upd (W := W) hp).keep, fun a h => by
  rcases h with h | h
  · exact .inl h
  · obtain rfl : a = p := by simpa using h
    exact .inr (.inr hp), (ext_upd (W := W) hp).there⟩
theorem fix_updF {p : Addr} {o : HO} (x : Fix W H) : Fix (W.fixed [p]) (upd H p o) := fun a h => by
  rcases h with h | h
  · exact fix_upd x a h
  · obtain rfl : a = p := by simpa using h
    rw [upd_same]; exact fun z => by cases z
/-- a new tuple of things that stand -/
theorem New.tup {p : Addr} {vs : List V} {ds : List D} (x : Fix W H) (hp : H p = none) (h : RepL K W H vs ds []) : New K W H (.ref p) (.tup ds) (W.fixed [p]) (upd H p (.tup vs)) [] :=
  ⟨.tup (.inl ⟨.inr (by simp), .inl upd_same⟩) (h.ext (ext_updF hp) off_nil fun a m => by cases m), ext_updF hp, rfl, fix_updF x, List.nodup_nil, Own.nil, fun a m => by cases m⟩
/-- a new list of fixed things -/
theorem New.lst {p : Addr} {vs : List V} {ds : List D} (x : Fix W H) (hp : H p = none) (h : RepL K W H vs ds []) : New K W H (.ref p) (.lst true ds) W (upd H p (.lst vs)) [p] :=
  ⟨.lstO upd_same (h.ext (ext_upd hp) off_nil fun a m => by cases m), ext_upd hp, rfl, fix_upd x, by simp, fun a m => by
    obtain rfl : a = p := by simpa using m
    exact ⟨fun z => x a z hp, by rw [upd_same]; exact fun z => by cases z⟩, fun a m => by
    obtain rfl : a = p := by simpa using m
    exact hp⟩
/-- behind an operation: a new thing over a state -/
theorem New.post {m' : Mem} (n : New K W1 H1 v d W' H' fd) (r : Rel K CT W1 H1 σ m' fp1) (e : Ext W H W1 H1 fp) (s : ∀ a ∈ fp1, a ∈ fp ∨ H a = none) : Post K CT W H σ fp v d m' W' H' fp1 fd where
  rel := r.ext n.ext off_nil (fun a _ z => by cases z) n.ι n.fix
  rep := n.rep
  nd := by
    rw [List.nodup_append]
    refine ⟨r.nd, n.nd, fun a ma b mb z => ?_⟩
    subst z
    exact (r.own a ma).2 (n.fresh a mb)
  own := n.own
  ext := e.trans n.ext fun a z => by cases z
  sub := fun a z => by
    rcases List.mem_append.mp z with z | z
    · exact s a z
    · exact .inr (e.there a (n.fresh a z))
theorem New.postQ (n : New K W1 H1 v d W' H' fd) (p : d.pure = true) (r : Rel K CT W1 H1 σ m fp) (e : Ext W H W1 H1 []) : PostQ K CT W H σ m fp v d W' H' [] where
  rel := r.ext n.ext off_nil (fun a _ z => by cases z) n.ι n.fix
  rep := by have := n.rep.pure p; subst this; exact n.rep
  ext := e.trans n.ext fun a z => by cases z
  sub := fun a z => by cases z

theorem RepD.lst {o : Bool} {ds : List D} (h : RepD K W H v (.lst o ds) g) : ∃ a vs g', v = .ref a ∧ SqL K H a vs ∧ RepL K W H vs ds g' ∧ ∀ a ∈ g', a ∈ g := by
  cases h with
  | lstF h l => exact ⟨_, _, [], rfl, h.sq, l, fun a m => m⟩
  | lstO h l => exact ⟨_, _, _, rfl, .inl (.inl h), l, fun a m => List.mem_cons_of_mem _ m⟩
theorem RepD.tupl {ds : List D} (h : RepD K W H v (.tup ds) g) : ∃ a vs, v = .ref a ∧ SqT K H a vs ∧ FzT K W H a vs ∧ RepL K W H vs ds g := by
  cases h with
  | tup h l => exact ⟨_, _, rfl, h.sq, h, l⟩
theorem RepL.length {vs : List V} {ds : List D} : ∀ {g : List Addr}, RepL K W H vs ds g → vs.length = ds.length := by
  induction vs generalizing ds with
  | nil => intro g h; cases h; rfl
  | cons v vs ih => intro g h; cases h with
    | cons _ l => simp [ih l]
theorem RepL.get {vs : List V} {ds : List D} : ∀ {g : List Addr}, RepL K W H vs ds g → ∀ {i : Nat} {d : D}, ds[i]? = some d → ∃ v f, vs[i]? = some v ∧ RepD K W H v d f ∧ ∀ a ∈ f, a ∈ g := by
  induction vs generalizing ds with
  | nil => intro g h i d e; cases h; simp at e
  | cons v vs ih => intro g h i d e; cases h with
    | cons r l =>
      cases i with
      | zero =>
        simp at e; subst e
        exact ⟨v, _, rfl, r, fun a m => List.mem_append_left _ m⟩
      | succ i =>
        obtain ⟨v', f, e1, r', s⟩ := ih l (by simpa using e)
        exact ⟨v', f, by simpa using e1, r', fun a m => List.mem_append_right _ (s a m)⟩
theorem RepL.app {vs ws : List V} {ds es : List D} : ∀ {f g : List Addr}, RepL K W H vs ds f → RepL K W H ws es g → RepL K W H (vs ++ ws) (ds ++ es) (f ++ g) := by
  induction vs generalizing ds with
  | nil => intro f g h k; cases h; exact k
  | cons v vs ih => intro f g h k; cases h with
    | cons r l =>
      have := RepL.cons r (ih l k)
      simpa using this
/-- pure items, picked -/
theorem RepL.pick {vs : List V} {ds : List D} : RepL K W H vs ds [] → ∀ n k, RepL K W H ((vs.drop n).take k) ((ds.drop n).take k) [] := by
  induction vs generalizing ds with
  | nil => intro h n k; cases h; simp; exact .nil
  | cons v vs ih =>
    intro h n k
    generalize hg : ([] : List Addr) = g at h
    cases h with
    | cons r l =>
      obtain ⟨rfl, rfl⟩ := List.nil_eq_append_iff.mp hg
      cases n with
      | succ n => simpa using ih l n k
      | zero =>
        cases k with
        | zero => simp; exact .nil
        | succ k =>
          have := ih l 0 k
          simp only [List.drop_zero, List.take_succ_cons] at this ⊢
          exact RepL.cons (f := []) (g := []) r this
mutual
theorem RepD.dp : ∀ {v : V} {d : D} {g : List Addr}, RepD K W H v d g → ∀ {p : PyData}, d.toPy = some p → Dp K H v p
  | _, _, _, .non, _, e => by cases e; exact .non
  | _, _, _, .bl, _, e => by cases e; exact .bl _
  | _, _, _, .int, _, e => by cases e; exact .int _
  | _, _, _, .str, _, e => by cases e; exact .str _
  | _, _, _, .loc _, _, e => by cases e
  | _, _, _, .ty, _, e => by cases e
  | _, _, _, .tup h l, p, e => by
    simp only [D.toPy, Option.map_eq_some_iff] at e
    obtain ⟨ps, e1, rfl⟩ := e
    exact .tup h.sq (RepL.dp l e1)
  | _, _, _, .lstF h l, p, e => by
    simp only [D.toPy, Option.map_eq_some_iff] at e
    obtain ⟨ps, e1, rfl⟩ := e
    exact .lst h.sq (RepL.dp l e1)
  | _, _, _, .lstO h l, p, e => by
    simp only [D.toPy, Option.map_eq_some_iff] at e
    obtain ⟨ps, e1, rfl⟩ := e
    exact .lst (.inl (.inl h)) (RepL.dp l e1)
  | _, _, _, .dkF _ _ _ _, _, e => by cases e
  | _, _, _, .dtF _ _ _ _, _, e => by cases e
  | _, _, _, .dkO _ _ _, _, e => by cases e
  | _, _, _, .dtO _ _ _, _, e => by cases e
theorem RepL.dp : ∀ {vs : List V} {ds : List D} {g : List Addr}, RepL K W H vs ds g → ∀ {ps : List PyData}, toPyL ds = some ps → DpAll K H vs ps
  | _, _, _, .nil, _, e => by cases e; exact .nil
  | _, _, _, .cons (d := d) (ds := ds) h l, ps, e => by
    unfold toPyL at e
    split at e
    · rename_i a b e1 e2
      cases e
      exact .cons (RepD.dp h e1) (RepL.dp l e2)
    · cases e
end
end

/-! ### operators as data -/
def OpD (X : Cx) (f : Value → Value → Sem Value) (g : D → D → Res D) : Prop :=
  ∃ r : R2, OpR X f r ∧ ∀ W H x y d1 d2 f1 f2 d Q, Fix W H → RepD X.K W H x d1 f1 → RepD X.K W H y d2 f2 → g d1 d2 = .ok d → (∀ v W' H' fd, New X.K W H v d W' H' fd → Q v H') → r x y H Q
def Scal (g : D → D → Res D) : Prop := ∀ d1 d2 d, g d1 d2 = .ok d → d.pure = true
theorem OpR.or {X : Cx} {f : Value → Value → Sem Value} {r1 r2 : R2} (h1 : OpR X f r1) (h2 : OpR X f r2) : OpR X f (fun x y H Q => r1 x y H Q ∨ r2 x y H Q) := fun pins s σ H x y v u Q I rx ry h => by
  rcases h with h | h
  · exact h1 pins s σ H x y v u Q I rx ry h
  · exact h2 pins s σ H x y v u Q I rx ry h
/-- an operation of two forms: where the first has no answer, the second is asked -/
def opElse (g1 g2 : D → D → Res D) : D → D → Res D := fun a b => match g1 a b with
  | .ok d => .ok d
  | _ => g2 a b
theorem OpD.or {X : Cx} {f : Value → Value → Sem Value} {g1 g2 : D → D → Res D} (h1 : OpD X f g1) (h2 : OpD X f g2) : OpD X f (opElse g1 g2) := by
  obtain ⟨r1, o1, k1⟩ := h1
  obtain ⟨r2, o2, k2⟩ := h2
  refine ⟨_, OpR.or o1 o2, fun W H x y d1 d2 f1 f2 d Q x0 a b e k => ?_⟩
  unfold opElse at e
  split at e
  · rename_i d' e1
    cases e
    exact .inl (k1 W H x y d1 d2 f1 f2 d Q x0 a b e1 k)
  · exact .inr (k2 W H x y d1 d2 f1 f2 d Q x0 a b e k)

@[simp] def dAddI : D → D → Res D
  | .int i, .int j => .ok (.int (i + j))
  | _, _ => .fail
def dAddS : D → D → Res D
  | .str i, .str j => .when (decide (i.length + j.length ≤ sizeLine)) (.ok (.str (i ++ j)))
  | _, _ => .fail
def dAddT : D → D → Res D
  | .tup xs, .tup ys => .when (!xs.isEmpty && pureL xs && pureL ys && decide (xs.length + ys.length ≤ sizeLine)) (.ok (.tup (xs ++ ys)))
  | _, _ => .fail
@[simp] def dAdd : D → D → Res D
  | .int i, .int j => .ok (.int (i + j))
  | .str i, .str j => .when (decide (i.length + j.length ≤ sizeLine)) (.ok (.str (i ++ j)))
  | .tup xs, .tup ys => .when (!xs.isEmpty && pureL xs && pureL ys && decide (xs.length + ys.length ≤ sizeLine)) (.ok (.tup (xs ++ ys)))
  | .lst true xs, .lst true ys => .when (pureL xs && pureL ys && decide (xs.length + ys.length ≤ sizeLine)) (.ok (.lst true (xs ++ ys)))
  | _, _ => .fail
@[simp] def dSub : D → D → Res D
  | .int i, .int j => .ok (.int (i - j))
  | _, _ => .fail
noncomputable def small (i : Int) : Bool := cdec (-18446744073709551616 < i ∧ i < 18446744073709551616)
@[simp] noncomputable def dMul : D → D → Res D
  | .int i, .int j => .when (small i || small j) (.ok (.int (i * j)))
  | _, _ => .fail
noncomputable def wide (j : Int) : Bool := cdec (j < ((2 ^ 8000 : Nat) : Int))
@[simp] noncomputable def dFdiv : D → D → Res D
  | .int i, .int j => .when (decide (0 < j) && wide j) (.ok (.int (i / j)))
  | _, _ => .fail
@[simp] def dMod : D → D → Res D
  | .int i, .int j => .when (decide (0 < j)) (.ok (.int (i % j)))
  | _, _ => .fail
@[simp] def dPow : D → D → Res D
  | .int i, .int j => .when (decide (0 ≤ j ∧ j ≤ 1000000 ∧ i.natAbs < 2 ^ 64)) (.ok (.int (i ^ j.toNat)))
  | _, _ => .fail
def ltL : List Nat → List Nat → Bool := fun a b => decide (a < b)
@[simp] def dLt : D → D → Res D
  | .int i, .int j => .ok (.bl (decide (i < j)))
  | .str i, .str j => .ok (.bl (decide (i.cps.toList < j.cps.toList)))
  | _, _ => .fail
@[simp] def dLe : D → D → Res D
  | .int i, .int j => .ok (.bl (decide (i ≤ j)))
  | _, _ => .fail
@[simp] def dGt : D → D → Res D
  | .int i, .int j => .ok (.bl (decide (j < i)))
  | _, _ => .fail
@[simp] def dGe : D → D → Res D
  | .int i, .int j => .ok (.bl (decide (j ≤ i)))
  | _, _ => .fail
def okPy (p : PyData) : Bool := SeqAt.shaped p
@[simp] def dEq (a b : D) : Res D := match a.toPy, b.toPy with
  | some p, some q => .when (SeqAt.shaped p && SeqAt.shaped q) (.ok (.bl (PyData.eqv p q)))
  | _, _ => .fail
@[simp] def dNe (a b : D) : Res D := match a.toPy, b.toPy with
  | some p, some q => .when (SeqAt.shaped p && SeqAt.shaped q) (.ok (.bl (!PyData.eqv p q)))
  | _, _ => .fail
@[simp] def isNone : D → Bool
  | .non => true
  | _ => false
@[simp] def dIs : D → D → Res D
  | a, .non => .ok (.bl (isNone a))
  | _, _ => .fail
@[simp] def dIsNot : D → D → Res D
  | a, .non => .ok (.bl (!isNone a))
  | _, _ => .fail

section
variable {X : Cx}
theorem opd_I {f : Value → Value → Sem Value} {k : Int → Int → V} {kd : Int → Int → D} {g : D → D → Res D} (h : OpR X f (rI0 k)) (hk : ∀ i j W H, RepD X.K W H (k i j) (kd i j) []) (hg : ∀ a b d, g a b = .ok d → ∃ i j, a = .int i ∧ b = .int j ∧ d = kd i j) : OpD X f g := by
  refine ⟨_, h, fun W H x y d1 d2 f1 f2 d Q x0 a b e q => ?_⟩
  obtain ⟨i, j, rfl, rfl, rfl⟩ := hg _ _ _ e
  cases a; cases b
  exact ⟨i, j, rfl, rfl, q _ W H [] (New.sc x0 (hk i j W H))⟩
theorem opd_IC {f : Value → Value → Sem Value} {C : Int → Int → Prop} {k : Int → Int → V} {kd : Int → Int → D} {g : D → D → Res D} (h : OpR X f (rI C k)) (hk : ∀ i j W H, RepD X.K W H (k i j) (kd i j) []) (hg : ∀ a b d, g a b = .ok d → ∃ i j, a = .int i ∧ b = .int j ∧ C i j ∧ d = kd i j) : OpD X f g := by
  refine ⟨_, h, fun W H x y d1 d2 f1 f2 d Q x0 a b e q => ?_⟩
  obtain ⟨i, j, rfl, rfl, c, rfl⟩ := hg _ _ _ e
  cases a; cases b
  exact ⟨i, j, rfl, rfl, c, q _ W H [] (New.sc x0 (hk i j W H))⟩
theorem od_sub : OpD X (binaryOp .Sub) dSub := opd_I (kd := fun i j => .int (i - j)) op_sub (fun _ _ _ _ => .int) fun a b d e => by
  unfold dSub at e; split at e <;> cases e; exact ⟨_, _, rfl, rfl, rfl⟩
theorem od_mul : OpD X (binaryOp .Mult) dMul := opd_IC (kd := fun i j => .int (i * j)) op_mul (fun _ _ _ _ => .int) fun a b d e => by
  unfold dMul at e; split at e
  · obtain ⟨h, e⟩ := Res.when_eq e
    cases e
    refine ⟨_, _, rfl, rfl, ?_, rfl⟩
    rcases Bool.or_eq_true_iff.mp h with h | h
    · exact .inl (of_cdec h)
    · exact .inr (of_cdec h)
  · cases e
theorem od_fdiv : OpD X (binaryOp .FloorDiv) dFdiv := opd_IC (kd := fun i j => .int (i / j)) op_fdivW (fun _ _ _ _ => .int) fun a b d e => by
  unfold dFdiv at e; split at e
  · obtain ⟨h, e⟩ := Res.when_eq e
    cases e
    rw [Bool.and_eq_true] at h
    have h1 : (0 : Int) < _ := of_decide_eq_true h.1
    have h2 := of_cdec h.2
    exact ⟨_, _, rfl, rfl, wide_div (b := 8000) h1 (by generalize (2 ^ 8000 : Nat) = N at h2 ⊢; omega) (by decide) (by decide), rfl⟩
  · cases e
theorem od_mod : OpD X (binaryOp .Mod) dMod := opd_IC (kd := fun i j => .int (i % j)) op_mod (fun _ _ _ _ => .int) fun a b d e => by
  unfold dMod at e; split at e
  · obtain ⟨h, e⟩ := Res.when_eq e
    cases e
    exact ⟨_, _, rfl, rfl, of_decide_eq_true h, rfl⟩
  · cases e
theorem od_pow : OpD X (binaryOp .Pow) dPow := opd_IC (kd := fun i j => .int (i ^ j.toNat)) op_pow (fun _ _ _ _ => .int) fun a b d e => by
  unfold dPow at e; split at e
  · obtain ⟨h, e⟩ := Res.when_eq e
    cases e
    have h' := decide_eq_true_eq.mp h
    exact ⟨_, _, rfl, rfl, h', rfl⟩
  · cases e
theorem od_le : OpD X (compareOp .LtE) dLe := opd_I (kd := fun i j => .bl (decide (i ≤ j))) op_le (fun _ _ _ _ => .bl) fun a b d e => by
  unfold dLe at e; split at e <;> cases e; exact ⟨_, _, rfl, rfl, rfl⟩
theorem od_gt : OpD X (compareOp .Gt) dGt := opd_I (kd := fun i j => .bl (decide (j < i))) op_gt (fun _ _ _ _ => .bl) fun a b d e => by
  unfold dGt at e; split at e <;> cases e; exact ⟨_, _, rfl, rfl, rfl⟩
theorem od_ge : OpD X (compareOp .GtE) dGe := opd_I (kd := fun i j => .bl (decide (j ≤ i))) op_ge (fun _ _ _ _ => .bl) fun a b d e => by
  unfold dGe at e; split at e <;> cases e; exact ⟨_, _, rfl, rfl, rfl⟩
theorem od_lt : OpD X (compareOp .Lt) dLt := by
  refine ⟨_, OpR.or op_lt op_lt_str, fun W H x y d1 d2 f1 f2 d Q x0 a b e q => ?_⟩
  unfold dLt at e; split at e
  · cases e; cases a; cases b
    exact .inl ⟨_, _, rfl, rfl, q _ W H [] (New.sc x0 .bl)⟩
  · cases e; cases a; cases b
    exact .inr ⟨_, _, rfl, rfl, q _ W H [] (New.sc x0 .bl)⟩
  · cases e
theorem od_add : OpD X (binaryOp .Add) dAdd := by
  refine ⟨_, OpR.or op_add (OpR.or op_add_str (OpR.or op_catT op_cat)), fun W H x y d1 d2 f1 f2 d Q x0 a b e q => ?_⟩
  unfold dAdd at e; split at e
  · cases e; cases a; cases b
    exact .inl ⟨_, _, rfl, rfl, q _ W H [] (New.sc x0 .int)⟩
  · obtain ⟨h, e⟩ := Res.when_eq e
    cases e; cases a; cases b
    exact .inr (.inl ⟨_, _, rfl, rfl, of_decide_eq_true h, q _ W H [] (New.sc x0 .str)⟩)
  · obtain ⟨h, e⟩ := Res.when_eq e
    cases e
    simp only [Bool.and_eq_true, decide_eq_true_eq] at h
    obtain ⟨⟨⟨h1, h2⟩, h3⟩, h4⟩ := h
    obtain ⟨a1, vs1, rfl, s1, z1, l1⟩ := a.tupl
    obtain ⟨a2, vs2, rfl, s2, z2, l2⟩ := b.tupl
    obtain rfl := l1.pure h2
    obtain rfl := l2.pure h3
    have l := l1.app l2
    refine .inr (.inr (.inl ⟨a1, a2, vs1, vs2, rfl, rfl, s1, s2, ?_, by rw [l1.length, l2.length]; exact h4, fun z => ?_, fun _ p hp => ?_⟩))
    · intro z
      subst z
      cases l1
      simp at h1
    · subst z
      have e2 : _ = [] := List.length_eq_zero_iff.mp l2.length.symm
      subst e2
      rw [List.append_nil] at q
      exact q _ W H [] (New.sc x0 (.tup z1 l1))
    · exact q _ _ _ _ (New.tup x0 hp l)
  · obtain ⟨h, e⟩ := Res.when_eq e
    cases e
    simp only [Bool.and_eq_true, decide_eq_true_eq] at h
    obtain ⟨⟨h2, h3⟩, h4⟩ := h
    cases a with
    | lstO h1 l1 =>
      cases b with
      | lstO h1' l2 =>
        obtain rfl := l1.pure h2
        obtain rfl := l2.pure h3
        exact .inr (.inr (.inr ⟨_, _, _, _, rfl, rfl, h1, h1', by rw [l1.length, l2.length]; exact h4, fun p hp => q _ _ _ _ (New.lst x0 hp (l1.app l2))⟩))
  · cases e
theorem od_eq (hu : X.A.units + 64 < cLine) : OpD X (compareOp .Eq) dEq := by
  refine ⟨_, op_eqD hu, fun W H x y d1 d2 f1 f2 d Q x0 a b e q => ?_⟩
  unfold dEq at e; split at e
  · rename_i p p' e1 e2
    obtain ⟨h, e⟩ := Res.when_eq e
    cases e
    rw [Bool.and_eq_true] at h
    exact ⟨p, p', a.dp e1, b.dp e2, h.1, h.2, q _ W H [] (New.sc x0 .bl)⟩
  · cases e
theorem od_ne (hu : X.A.units + 64 < cLine) : OpD X (compareOp .NotEq) dNe := by
  refine ⟨_, op_neD hu, fun W H x y d1 d2 f1 f2 d Q x0 a b e q => ?_⟩
  unfold dNe at e; split at e
  · rename_i p p' e1 e2
    obtain ⟨h, e⟩ := Res.when_eq e
    cases e
    rw [Bool.and_eq_true] at h
    exact ⟨p, p', a.dp e1, b.dp e2, h.1, h.2, q _ W H [] (New.sc x0 .bl)⟩
  · cases e
theorem isNone_rep {K : PySem.W.Frag} {W : Wd} {H : Hp} {x : V} {d : D} {g : List Addr} (h : RepD K W H x d g) : decide (x = .non) = isNone d := by
  cases h <;> simp [isNone]
theorem od_is : OpD X (compareOp .Is) dIs := by
  refine ⟨_, op_isN, fun W H x y d1 d2 f1 f2 d Q x0 a b e q => ?_⟩
  unfold dIs at e; split at e
  · cases e
    cases b
    refine ⟨rfl, ?_⟩
    rw [isNone_rep a]
    exact q _ W H [] (New.sc x0 .bl)
  · cases e
theorem od_isnot : OpD X (compareOp .IsNot) dIsNot := by
  refine ⟨_, op_notN, fun W H x y d1 d2 f1 f2 d Q x0 a b e q => ?_⟩
  unfold dIsNot at e; split at e
  · cases e
    cases b
    refine ⟨rfl, ?_⟩
    rw [isNone_rep a]
    exact q _ W H [] (New.sc x0 .bl)
  · cases e
end
end E
/-! EngD: expressions over operands, argument lists, displays, calls of defs -/
namespace E
open PySem L2

section
variable (K : PySem.W.Frag) (CT : Nat → Addr)
structure PostB (W : Wd) (H : Hp) (σ : L2.St) (fp : List Addr) (v : V) (d : D) (m' : Mem) (W' : Wd) (H' : Hp) (fp' fd : List Addr) : Prop where
  rel : Rel K CT W' H' σ m' fp'
  rep : RepD K W' H' v d fd
  ext : Ext W H W' H' fp
  sub : ∀ a ∈ fp', a ∈ fp ∨ H a = none
def tB' (e : M D) : TE := fun σ H Q => ∃ W m fp d m', Rel K CT W H σ m fp ∧ e m = .ok (d, m') ∧ ∀ v W' H' fp' fd, PostB K CT W H σ fp v d m' W' H' fp' fd → Q v H'
end
def MEB (X : Cx) (CT : Nat → Addr) (e : Expr) (m : M D) : Prop := PE X e (tB' X.K CT m)
def mB (q : MQ D) : M D := fun m => (q m).bind fun d => .ok (d, m)
section
variable {X : Cx} {CT : Nat → Addr} {e a b : Expr} {pos : Pos}
theorem meb_v {q : M D} (h : ME X CT e q) : MEB X CT e q := pe_weak h fun σ H Q ⟨W, m, fp, d, m', rel, e, k⟩ =>
  ⟨W, m, fp, d, m', rel, e, fun v W' H' fp' fd p => k v W' H' fp' fd ⟨p.rel, p.rep, p.ext, fun a z => p.sub a (List.mem_append_left _ z)⟩⟩
theorem meb_q {q : MQ D} (h : MEQ X CT e q) : MEB X CT e (mB q) := pe_weak h fun σ H Q ⟨W, m, fp, d, m', rel, e, k⟩ => by
  obtain ⟨d1, e1, e2⟩ := Res.bind_eq e
  cases e2
  exact ⟨W, m, fp, d, rel, e1, fun v W' H' fd p => k v W' H' fp fd ⟨p.rel, p.rep, p.ext.sub (fun a z => by cases z), fun a z => .inl z⟩⟩

/-! ### two operands -/
def mOp2 (g : D → D → Res D) (ma mb : M D) : M D := fun m => (ma m).bind fun r1 => (mb r1.2).bind fun r2 => (g r1.1 r2.1).bind fun d => .ok (d, r2.2)
def mOpN (g : D → D → Res D) (i : Nat) (mb : M D) : M D := fun m => (mqVar i m).bind fun _ => (mb m).bind fun r2 => (mqVar i r2.2).bind fun d1 => (g d1 r2.1).bind fun d => .ok (d, r2.2)
def mqOp2 (g : D → D → Res D) (qa qb : MQ D) : MQ D := fun m => (qa m).bind fun d1 => (qb m).bind fun d2 => (g d1 d2).bind fun d => Res.when d.pure (.ok d)
theorem fin2 {K : PySem.W.Frag} {W W1 W2 : Wd} {H H1 H2 : Hp} {fp fp1 fd1 : List Addr} {σ : L2.St} {v : V} {d : D} {m1 : Mem} (p : Post K CT W H σ fp v d m1 W1 H1 fp1 fd1) (e : Ext W1 H1 W2 H2 fp1) : RepD K W2 H2 v d fd1 :=
  p.rep.ext e p.rel.off fun a ma mf => by
    have := p.nd
    rw [List.nodup_append] at this
    exact this.2.2 a mf a ma rfl
theorem subT {H H1 : Hp} {fp fp1 fp2 : List Addr} (s1 : ∀ a ∈ fp1, a ∈ fp ∨ H a = none) (s2 : ∀ a ∈ fp2, a ∈ fp1 ∨ H1 a = none) (t : ∀ a, H1 a = none → H a = none) : ∀ a ∈ fp2, a ∈ fp ∨ H a = none := fun a z => by
  rcases s2 a z with y | y
  · exact s1 a y
  · exact .inr (t a y)
/-- the shape of a rule for two operands -/
theorem pe2 {r : R2} {f : Value → Value → Sem Value} {g : D → D → Res D} {ma mb : M D} {t : TE → TE → Prop}
    (hr : ∀ W H x y d1 d2 f1 f2 d Q, Fix W H → RepD X.K W H x d1 f1 → RepD X.K W H y d2 f2 → g d1 d2 = .ok d → (∀ v W' H' fd, New X.K W H v d W' H' fd → Q v H') → r x y H Q) :
    ∀ σ H Q, tM X.K CT (mOp2 g ma mb) σ H Q → tOp r (tM X.K CT ma) (tB' X.K CT mb) σ H Q := fun σ H Q ⟨W, m, fp, d, m', rel, e, k⟩ => by
  obtain ⟨⟨d1, m1⟩, e1, e⟩ := Res.bind_eq e
  obtain ⟨⟨d2, m2⟩, e2, e⟩ := Res.bind_eq e
  obtain ⟨d3, e3, e⟩ := Res.bind_eq e
  cases e
  refine ⟨W, m, fp, d1, m1, rel, e1, fun v1 W1 H1 fp1 fd1 P1 => ⟨W1, m1, fp1, d2, m2, P1.rel, e2, fun v2 W2 H2 fp2 fd2 P2 => ?_⟩⟩
  have s1 : ∀ a ∈ fp1, a ∈ fp ∨ H a = none := fun a z => P1.sub a (List.mem_append_left _ z)
  exact hr W2 H2 v1 v2 d1 d2 fd1 fd2 d Q P2.rel.fix (fin2 P1 P2.ext) P2.rep e3 fun v W' H' fd n => k v W' H' fp2 fd (n.post P2.rel (P1.ext.trans P2.ext s1) (subT s1 P2.sub P1.ext.there))
theorem peN {r : R2} {g : D → D → Res D} {i : Nat} {mb : M D}
    (hr : ∀ W H x y d1 d2 f1 f2 d Q, Fix W H → RepD X.K W H x d1 f1 → RepD X.K W H y d2 f2 → g d1 d2 = .ok d → (∀ v W' H' fd, New X.K W H v d W' H' fd → Q v H') → r x y H Q) :
    ∀ σ H Q, tM X.K CT (mOpN g i mb) σ H Q → tOp r (tVar i) (tB' X.K CT mb) σ H Q := fun σ H Q ⟨W, m, fp, d, m', rel, e, k⟩ => by
  obtain ⟨d0, e0, e⟩ := Res.bind_eq e
  obtain ⟨⟨d2, m2⟩, e2, e⟩ := Res.bind_eq e
  obtain ⟨d1, e1, e⟩ := Res.bind_eq e
  obtain ⟨d3, e3, e⟩ := Res.bind_eq e
  cases e
  obtain ⟨q1, q2⟩ := mqVar_eq e1
  obtain ⟨q3, q4⟩ := mqVar_eq e0
  obtain ⟨v1, hv⟩ : ∃ v, σ[i]? = some (some v) := by
    obtain ⟨f, g, rfl, h1, h2⟩ := rel.s
    obtain ⟨v, _, _, _, _, s, _⟩ := h1.at q3 q4
    exact ⟨v, s⟩
  refine ⟨v1, hv, W, m, fp, d2, m2, rel, e2, fun v2 W2 H2 fp2 fd2 P2 => ?_⟩
  obtain ⟨f, g', rfl, h1, h2⟩ := P2.rel.s
  obtain ⟨v1', A, f1, B, rfl, s, r1, _⟩ := h1.at q1 q2
  rw [hv] at s
  cases s
  exact hr W2 H2 v1 v2 d1 d2 f1 fd2 d Q P2.rel.fix r1 P2.rep e3 fun v W' H' fd n => k v W' H' _ fd (n.post P2.rel P2.ext P2.sub)
theorem peQ {r : R2} {g : D → D → Res D} {qa qb : MQ D}
    (hr : ∀ W H x y d1 d2 f1 f2 d Q, Fix W H → RepD X.K W H x d1 f1 → RepD X.K W H y d2 f2 → g d1 d2 = .ok d → (∀ v W' H' fd, New X.K W H v d W' H' fd → Q v H') → r x y H Q) :
    ∀ σ H Q, tQ X.K CT (mqOp2 g qa qb) σ H Q → tOp r (tQ X.K CT qa) (tQ X.K CT qb) σ H Q := fun σ H Q ⟨W, m, fp, d, rel, e, k⟩ => by
  obtain ⟨d1, e1, e⟩ := Res.bind_eq e
  obtain ⟨d2, e2, e⟩ := Res.bind_eq e
  obtain ⟨d3, e3, e⟩ := Res.bind_eq e
  obtain ⟨p, e⟩ := Res.when_eq e
  cases e
  refine ⟨W, m, fp, d1, rel, e1, fun v1 W1 H1 fd1 P1 => ⟨W1, m, fp, d2, P1.rel, e2, fun v2 W2 H2 fd2 P2 => ?_⟩⟩
  exact hr W2 H2 v1 v2 d1 d2 fd1 fd2 d Q P2.rel.fix (P1.rep.ext P2.ext off_nil fun a _ z => by cases z) P2.rep e3 fun v W' H' fd n => k v W' H' [] (n.postQ p P2.rel (P1.ext.trans P2.ext fun a z => by cases z))
/-- both looked at, the value may be a new list -/
def mOpQ (g : D → D → Res D) (qa qb : MQ D) : M D := fun m => (qa m).bind fun d1 => (qb m).bind fun d2 => (g d1 d2).bind fun d => .ok (d, m)
theorem peQV {r : R2} {g : D → D → Res D} {qa qb : MQ D}
    (hr : ∀ W H x y d1 d2 f1 f2 d Q, Fix W H → RepD X.K W H x d1 f1 → RepD X.K W H y d2 f2 → g d1 d2 = .ok d → (∀ v W' H' fd, New X.K W H v d W' H' fd → Q v H') → r x y H Q) :
    ∀ σ H Q, tM X.K CT (mOpQ g qa qb) σ H Q → tOp r (tQ X.K CT qa) (tQ X.K CT qb) σ H Q := fun σ H Q ⟨W, m, fp, d, m', rel, e, k⟩ => by
  obtain ⟨d1, e1, e⟩ := Res.bind_eq e
  obtain ⟨d2, e2, e⟩ := Res.bind_eq e
  obtain ⟨d3, e3, e⟩ := Res.bind_eq e
  cases e
  refine ⟨W, m, fp, d1, rel, e1, fun v1 W1 H1 fd1 P1 => ⟨W1, m, fp, d2, P1.rel, e2, fun v2 W2 H2 fd2 P2 => ?_⟩⟩
  exact hr W2 H2 v1 v2 d1 d2 fd1 fd2 d Q P2.rel.fix (P1.rep.ext P2.ext off_nil fun a _ z => by cases z) P2.rep e3 fun v W' H' fd n => k v W' H' _ fd (n.post P2.rel ((P1.ext.trans P2.ext fun a z => by cases z).sub fun a z => by cases z) fun a z => .inl z)

/-! the operators in the text -/
variable {op : Operator} {cop : CmpOp} {g : D → D → Res D} {ma mb : M D} {qa qb : MQ D} {i : Nat}
theorem me_bin (o : OpD X (binaryOp op) g) (ha : ME X CT a ma) (hb : MEB X CT b mb) : ME X CT (.BinOp a op b pos) (mOp2 g ma mb) := by
  obtain ⟨r, h, k⟩ := o
  exact pe_weak (pe_op h ha hb) (pe2 (t := fun _ _ => True) (f := binaryOp op) k)
theorem me_binN (o : OpD X (binaryOp op) g) (ha : PE X a (tVar i)) (hb : MEB X CT b mb) : ME X CT (.BinOp a op b pos) (mOpN g i mb) := by
  obtain ⟨r, h, k⟩ := o
  exact pe_weak (pe_op h ha hb) (peN k)
theorem me_binQ (o : OpD X (binaryOp op) g) (ha : MEQ X CT a qa) (hb : MEQ X CT b qb) : ME X CT (.BinOp a op b pos) (mOpQ g qa qb) := by
  obtain ⟨r, h, k⟩ := o
  exact pe_weak (pe_op h ha hb) (peQV k)
theorem meq_bin (o : OpD X (binaryOp op) g) (ha : MEQ X CT a qa) (hb : MEQ X CT b qb) : MEQ X CT (.BinOp a op b pos) (mqOp2 g qa qb) := by
  obtain ⟨r, h, k⟩ := o
  exact pe_weak (pe_op h ha hb) (peQ k)
theorem me_cmp (o : OpD X (compareOp cop) g) (ha : ME X CT a ma) (hb : MEB X CT b mb) (hm : behindInMarks cop b = false) : ME X CT (.Compare a [cop] [b] pos) (mOp2 g ma mb) := by
  obtain ⟨r, h, k⟩ := o
  exact pe_weak (pe_cmpR h ha hb hm) (pe2 (t := fun _ _ => True) (f := compareOp cop) k)
theorem me_cmpN (o : OpD X (compareOp cop) g) (ha : PE X a (tVar i)) (hb : MEB X CT b mb) (hm : behindInMarks cop b = false) : ME X CT (.Compare a [cop] [b] pos) (mOpN g i mb) := by
  obtain ⟨r, h, k⟩ := o
  exact pe_weak (pe_cmpR h ha hb hm) (peN k)
theorem meq_cmp (o : OpD X (compareOp cop) g) (ha : MEQ X CT a qa) (hb : MEQ X CT b qb) (hm : behindInMarks cop b = false) : MEQ X CT (.Compare a [cop] [b] pos) (mqOp2 g qa qb) := by
  obtain ⟨r, h, k⟩ := o
  exact pe_weak (pe_cmpR h ha hb hm) (peQ k)

/-! ### tests -/
end
section
variable (K : PySem.W.Frag) (CT : Nat → Addr)
/-- a test -/
structure PostT (W : Wd) (H : Hp) (σ : L2.St) (fp : List Addr) (m' : Mem) (W' : Wd) (H' : Hp) (fp' : List Addr) : Prop where
  rel : Rel K CT W' H' σ m' fp'
  ext : Ext W H W' H' fp
  sub : ∀ a ∈ fp', a ∈ fp ∨ H a = none
def tT (e : M Bool) : TT := fun σ H Q => ∃ W m fp b m', Rel K CT W H σ m fp ∧ e m = .ok (b, m') ∧ ∀ W' H' fp', PostT K CT W H σ fp m' W' H' fp' → Q b H'
end
def MT (X : Cx) (CT : Nat → Addr) (e : Expr) (m : M Bool) : Prop := PT X e (tT X.K CT m)
def MW (X : Cx) (CT : Nat → Addr) (e : Expr) (m : M Bool) : Prop := PW X e (tT X.K CT m)
/-- a truth value as such -/
@[simp] def D.isB : D → Res Bool
  | .bl b => .ok b
  | _ => .fail
/-- a thing's truth -/
@[simp] def D.tru : D → Res Bool
  | .non => .ok false
  | .bl b => .ok b
  | .int i => .ok (i != 0)
  | .str y => .when (decide (y.length ≤ sizeLine)) (.ok ((y.length : Int) != 0))
  | .lst _ xs => .ok (!xs.isEmpty)
  | .tup xs => .ok (!xs.isEmpty)
  | _ => .fail
def mtB (e : M D) : M Bool := fun m => (e m).bind fun r => r.1.isB.bind fun b => .ok (b, r.2)
def mtV (e : M D) : M Bool := fun m => (e m).bind fun r => r.1.tru.bind fun b => .ok (b, r.2)
def mtAnd (a b : M Bool) : M Bool := fun m => (a m).bind fun r => if r.1 = true then b r.2 else .ok (false, r.2)
def mtOr (a b : M Bool) : M Bool := fun m => (a m).bind fun r => if r.1 = true then .ok (true, r.2) else b r.2
def mtNot (a : M Bool) : M Bool := fun m => (a m).bind fun r => .ok (!r.1, r.2)
section
variable {X : Cx} {CT : Nat → Addr} {e a b : Expr} {pos : Pos} {op : Operator} {cop : CmpOp} {g : D → D → Res D} {ma mb : M D} {qa qb : MQ D} {i : Nat}
theorem isB_rep {K : PySem.W.Frag} {W : Wd} {H : Hp} {x : V} {d : D} {f : List Addr} {c : Bool} (h : RepD K W H x d f) (e : d.isB = .ok c) : x = .bl c := by
  cases h <;> simp [D.isB] at e
  subst e; rfl
theorem isEmpty_rep {K : PySem.W.Frag} {W : Wd} {H : Hp} {vs : List V} {ds : List D} {f : List Addr} (h : RepL K W H vs ds f) : vs.isEmpty = ds.isEmpty := by
  cases h <;> rfl
theorem tru_rep {K : PySem.W.Frag} {W : Wd} {H : Hp} {x : V} {d : D} {f : List Addr} {c : Bool} (h : RepD K W H x d f) (e : d.tru = .ok c) : TruV K x H c := by
  cases h with
  | non => cases e; rfl
  | bl => cases e; rfl
  | int => cases e; rfl
  | str =>
    obtain ⟨h, e⟩ := Res.when_eq e
    cases e
    exact ⟨of_decide_eq_true h, rfl⟩
  | loc h => cases e
  | ty => cases e
  | tup h l =>
    cases e
    refine .inr (.inl ⟨_, h.sq, ?_⟩)
    rw [isEmpty_rep l]
  | lstF h l =>
    cases e
    refine .inl ⟨_, h.sq, ?_⟩
    rw [isEmpty_rep l]
  | lstO h l =>
    cases e
    refine .inl ⟨_, .inl (.inl h), ?_⟩
    rw [isEmpty_rep l]
  | dkF => cases e
  | dtF => cases e
  | dkO => cases e
  | dtO => cases e
/-- a comparison as a test -/
theorem mt_cmp (o : OpD X (compareOp cop) g) (ha : ME X CT a ma) (hb : MEB X CT b mb) (hm : behindInMarks cop b = false) : MT X CT (.Compare a [cop] [b] pos) (mtB (mOp2 g ma mb)) := by
  obtain ⟨r, h, k⟩ := o
  refine pt_weak (pt_cmpR h ha hb hm) fun σ H Q ⟨W, m, fp, c, m', rel, e, q⟩ => ?_
  obtain ⟨⟨d, m1⟩, e1, e⟩ := Res.bind_eq e
  obtain ⟨c', e2, e⟩ := Res.bind_eq e
  cases e
  refine pe2 (t := fun _ _ => True) (f := compareOp cop) k σ H _ ⟨W, m, fp, d, _, rel, e1, fun v W' H' fp' fd p => ?_⟩
  exact ⟨c, isB_rep p.rep e2, q W' H' fp' ⟨p.rel, p.ext, fun a z => p.sub a (List.mem_append_left _ z)⟩⟩
theorem mt_cmpN (o : OpD X (compareOp cop) g) (ha : PE X a (tVar i)) (hb : MEB X CT b mb) (hm : behindInMarks cop b = false) : MT X CT (.Compare a [cop] [b] pos) (mtB (mOpN g i mb)) := by
  obtain ⟨r, h, k⟩ := o
  refine pt_weak (pt_cmpR h ha hb hm) fun σ H Q ⟨W, m, fp, c, m', rel, e, q⟩ => ?_
  obtain ⟨⟨d, m1⟩, e1, e⟩ := Res.bind_eq e
  obtain ⟨c', e2, e⟩ := Res.bind_eq e
  cases e
  refine peN k σ H _ ⟨W, m, fp, d, _, rel, e1, fun v W' H' fp' fd p => ?_⟩
  exact ⟨c, isB_rep p.rep e2, q W' H' fp' ⟨p.rel, p.ext, fun a z => p.sub a (List.mem_append_left _ z)⟩⟩
theorem mt_cmpQ (o : OpD X (compareOp cop) g) (ha : MEQ X CT a qa) (hb : MEQ X CT b qb) (hm : behindInMarks cop b = false) : MT X CT (.Compare a [cop] [b] pos) (mtB (mOpQ g qa qb)) := by
  obtain ⟨r, h, k⟩ := o
  refine pt_weak (pt_cmpR h ha hb hm) fun σ H Q ⟨W, m, fp, c, m', rel, e, q⟩ => ?_
  obtain ⟨⟨d, m1⟩, e1, e⟩ := Res.bind_eq e
  obtain ⟨c', e2, e⟩ := Res.bind_eq e
  cases e
  refine peQV k σ H _ ⟨W, m, fp, d, _, rel, e1, fun v W' H' fp' fd p => ?_⟩
  exact ⟨c, isB_rep p.rep e2, q W' H' fp' ⟨p.rel, p.ext, fun a z => p.sub a (List.mem_append_left _ z)⟩⟩
/-- any other expression as a test: its truth -/
theorem mt_v (ha : MEB X CT a ma) (he : ∀ whole, isTrue a X.env whole = (do let v ← whole; standAt a.pos; holding [v] (truthy v)) := by intro _; rfl) : MT X CT a (mtV ma) :=
  pt_weak (pt_truth ha he) fun σ H Q ⟨W, m, fp, c, m', rel, e, q⟩ => by
    obtain ⟨⟨d, m1⟩, e1, e⟩ := Res.bind_eq e
    obtain ⟨c', e2, e⟩ := Res.bind_eq e
    cases e
    exact ⟨W, m, fp, d, _, rel, e1, fun v W' H' fp' fd p => ⟨c, tru_rep p.rep e2, q W' H' fp' ⟨p.rel, p.ext, p.sub⟩⟩⟩
end
end E
/-! EngE: and, or, not, conditional expressions, chains, subscripts, slices -/
namespace E
open PySem L2
section
variable {X : Cx} {CT : Nat → Addr} {e a b c : Expr} {rest : List Expr} {pos : Pos} {op : Operator} {cop : CmpOp} {g : D → D → Res D} {ma mb : M D} {qa qb qc : MQ D} {ta tb : M Bool} {i : Nat}
theorem PostT.trans {K : PySem.W.Frag} {W W1 W2 : Wd} {H H1 H2 : Hp} {fp fp1 fp2 : List Addr} {σ : L2.St} {m1 m2 : Mem} (p : PostT K CT W H σ fp m1 W1 H1 fp1) (q : PostT K CT W1 H1 σ fp1 m2 W2 H2 fp2) : PostT K CT W H σ fp m2 W2 H2 fp2 :=
  ⟨q.rel, p.ext.trans q.ext p.sub, subT p.sub q.sub p.ext.there⟩
theorem PostT.post {K : PySem.W.Frag} {W W1 W2 : Wd} {H H1 H2 : Hp} {fp fp1 fp2 fd : List Addr} {σ : L2.St} {m1 m2 : Mem} {v : V} {d : D} (p : PostT K CT W H σ fp m1 W1 H1 fp1) (q : Post K CT W1 H1 σ fp1 v d m2 W2 H2 fp2 fd) : Post K CT W H σ fp v d m2 W2 H2 fp2 fd :=
  ⟨q.rel, q.rep, q.nd, q.own, p.ext.trans q.ext p.sub, subT p.sub q.sub p.ext.there⟩
theorem Post.t {K : PySem.W.Frag} {W W1 : Wd} {H H1 : Hp} {fp fp1 fd : List Addr} {σ : L2.St} {m1 : Mem} {v : V} {d : D} (p : Post K CT W H σ fp v d m1 W1 H1 fp1 fd) : PostT K CT W H σ fp m1 W1 H1 fp1 :=
  ⟨p.rel, p.ext, fun a z => p.sub a (List.mem_append_left _ z)⟩
theorem PostT.postB {K : PySem.W.Frag} {W W1 W2 : Wd} {H H1 H2 : Hp} {fp fp1 fp2 fd : List Addr} {σ : L2.St} {m1 m2 : Mem} {v : V} {d : D} (p : PostT K CT W H σ fp m1 W1 H1 fp1) (q : PostB K CT W1 H1 σ fp1 v d m2 W2 H2 fp2 fd) : PostB K CT W H σ fp v d m2 W2 H2 fp2 fd :=
  ⟨q.rel, q.rep, p.ext.trans q.ext p.sub, subT p.sub q.sub p.ext.there⟩
theorem mw_and1 (h : MT X CT a ta) : MW X CT (.BoolOp .And [a] pos) ta := pw_and1 h
theorem mw_or1 (h : MT X CT a ta) : MW X CT (.BoolOp .Or [a] pos) ta := pw_or1 h
theorem mw_and (ha : MT X CT a ta) (hb : MW X CT (.BoolOp .And (b :: rest) pos) tb) : MW X CT (.BoolOp .And (a :: b :: rest) pos) (mtAnd ta tb) :=
  pw_weak (pw_and ha hb) fun σ H Q ⟨W, m, fp, c, m', rel, e, q⟩ => by
    obtain ⟨⟨c1, m1⟩, e1, e⟩ := Res.bind_eq e
    refine ⟨W, m, fp, c1, m1, rel, e1, fun W1 H1 fp1 p => ?_⟩
    cases c1 with
    | true =>
      refine iteT ⟨W1, m1, fp1, c, m', p.rel, e, fun W2 H2 fp2 p2 => q W2 H2 fp2 (p.trans p2)⟩
    | false =>
      cases e
      exact iteF (q W1 H1 fp1 p)
theorem mw_or (ha : MT X CT a ta) (hb : MW X CT (.BoolOp .Or (b :: rest) pos) tb) : MW X CT (.BoolOp .Or (a :: b :: rest) pos) (mtOr ta tb) :=
  pw_weak (pw_or ha hb) fun σ H Q ⟨W, m, fp, c, m', rel, e, q⟩ => by
    obtain ⟨⟨c1, m1⟩, e1, e⟩ := Res.bind_eq e
    refine ⟨W, m, fp, c1, m1, rel, e1, fun W1 H1 fp1 p => ?_⟩
    cases c1 with
    | false =>
      refine iteF ⟨W1, m1, fp1, c, m', p.rel, e, fun W2 H2 fp2 p2 => q W2 H2 fp2 (p.trans p2)⟩
    | true =>
      cases e
      exact iteT (q W1 H1 fp1 p)
theorem mt_w (h : MW X CT a ta) : MT X CT a ta := h.pt
theorem mt_not (h : MT X CT a ta) : MT X CT (.UnaryOp .Not a pos) (mtNot ta) :=
  pt_weak (pt_not h) fun σ H Q ⟨W, m, fp, c, m', rel, e, q⟩ => by
    obtain ⟨⟨c1, m1⟩, e1, e⟩ := Res.bind_eq e
    cases e
    exact ⟨W, m, fp, c1, m1, rel, e1, fun W1 H1 fp1 p => q W1 H1 fp1 p⟩

/-! values -/
def mAnd (a b : M D) : M D := fun m => (a m).bind fun r => r.1.isB.bind fun c => if c = true then b r.2 else .ok (.bl false, r.2)
def mOr (a b : M D) : M D := fun m => (a m).bind fun r => r.1.isB.bind fun c => if c = true then .ok (.bl true, r.2) else b r.2
def mNot (a : M D) : M D := fun m => (a m).bind fun r => r.1.isB.bind fun c => .ok (.bl (!c), r.2)
def mIf (t : M Bool) (a b : M D) : M D := fun m => (t m).bind fun r => if r.1 = true then a r.2 else b r.2
theorem Post.bl {K : PySem.W.Frag} {W W1 : Wd} {H H1 : Hp} {fp fp1 fd : List Addr} {σ : L2.St} {m1 : Mem} {v : V} {d : D} (p : Post K CT W H σ fp v d m1 W1 H1 fp1 fd) {v' : V} {d' : D} (r : RepD K W1 H1 v' d' []) : Post K CT W H σ fp v' d' m1 W1 H1 fp1 [] :=
  p.t.post (Post.mk0 p.rel r)
theorem me_one {op} (h : ME X CT a ma) : ME X CT (.BoolOp op [a] pos) ma := pe_one h
theorem me_and (ha : ME X CT a ma) (hb : ME X CT (.BoolOp .And (b :: rest) pos) mb) : ME X CT (.BoolOp .And (a :: b :: rest) pos) (mAnd ma mb) :=
  pe_weak (pe_and ha hb) fun σ H Q ⟨W, m, fp, d, m', rel, e, q⟩ => by
    obtain ⟨⟨d1, m1⟩, e1, e⟩ := Res.bind_eq e
    obtain ⟨c, e2, e⟩ := Res.bind_eq e
    refine ⟨W, m, fp, d1, m1, rel, e1, fun v1 W1 H1 fp1 fd1 p => ⟨c, isB_rep p.rep e2, ?_⟩⟩
    cases c with
    | true => exact iteT ⟨W1, m1, fp1, d, m', p.rel, e, fun v2 W2 H2 fp2 fd2 p2 => q v2 W2 H2 fp2 fd2 (p.t.post p2)⟩
    | false =>
      cases e
      exact iteF (q _ W1 H1 fp1 [] (p.bl .bl))
theorem me_or (ha : ME X CT a ma) (hb : ME X CT (.BoolOp .Or (b :: rest) pos) mb) : ME X CT (.BoolOp .Or (a :: b :: rest) pos) (mOr ma mb) :=
  pe_weak (pe_or ha hb) fun σ H Q ⟨W, m, fp, d, m', rel, e, q⟩ => by
    obtain ⟨⟨d1, m1⟩, e1, e⟩ := Res.bind_eq e
    obtain ⟨c, e2, e⟩ := Res.bind_eq e
    refine ⟨W, m, fp, d1, m1, rel, e1, fun v1 W1 H1 fp1 fd1 p => ⟨c, isB_rep p.rep e2, ?_⟩⟩
    cases c with
    | false => exact iteF ⟨W1, m1, fp1, d, m', p.rel, e, fun v2 W2 H2 fp2 fd2 p2 => q v2 W2 H2 fp2 fd2 (p.t.post p2)⟩
    | true =>
      cases e
      exact iteT (q _ W1 H1 fp1 [] (p.bl .bl))
theorem me_not (ha : ME X CT a ma) : ME X CT (.UnaryOp .Not a pos) (mNot ma) :=
  pe_weak (pe_not ha) fun σ H Q ⟨W, m, fp, d, m', rel, e, q⟩ => by
    obtain ⟨⟨d1, m1⟩, e1, e⟩ := Res.bind_eq e
    obtain ⟨c, e2, e⟩ := Res.bind_eq e
    cases e
    exact ⟨W, m, fp, d1, m1, rel, e1, fun v1 W1 H1 fp1 fd1 p => ⟨c, isB_rep p.rep e2, q _ W1 H1 fp1 [] (p.bl .bl)⟩⟩
theorem me_if (hc : MT X CT c ta) (ha : ME X CT a ma) (hb : ME X CT b mb) : ME X CT (.IfExp c a b pos) (mIf ta ma mb) :=
  pe_weak (pe_ifExp hc ha hb) fun σ H Q ⟨W, m, fp, d, m', rel, e, q⟩ => by
    obtain ⟨⟨c1, m1⟩, e1, e⟩ := Res.bind_eq e
    refine ⟨W, m, fp, c1, m1, rel, e1, fun W1 H1 fp1 p => ?_⟩
    cases c1 with
    | true => exact iteT ⟨W1, m1, fp1, d, m', p.rel, e, fun v2 W2 H2 fp2 fd2 p2 => q v2 W2 H2 fp2 fd2 (p.post p2)⟩
    | false => exact iteF ⟨W1, m1, fp1, d, m', p.rel, e, fun v2 W2 H2 fp2 fd2 p2 => q v2 W2 H2 fp2 fd2 (p.post p2)⟩

/-! ### one operand -/
def UnD (X : Cx) (f : Value → Sem Value) (g : D → Res D) : Prop :=
  ∃ r : V → Hp → VK → Prop, UnR X f r ∧ ∀ W H x d1 f1 d Q, Fix W H → RepD X.K W H x d1 f1 → g d1 = .ok d → (∀ v W' H' fd, New X.K W H v d W' H' fd → Q v H') → r x H Q
def mOp1 (g : D → Res D) (ma : M D) : M D := fun m => (ma m).bind fun r => (g r.1).bind fun d => .ok (d, r.2)
def mqOp1 (g : D → Res D) (qa : MQ D) : MQ D := fun m => (qa m).bind fun d1 => (g d1).bind fun d => Res.when d.pure (.ok d)
@[simp] def dNeg : D → Res D
  | .int i => .ok (.int (-i))
  | _ => .fail
theorem ud_neg : UnD X (unaryOp .USub) dNeg := ⟨_, un_neg, fun W H x d1 f1 d Q x0 a e k => by
  cases a <;> simp [dNeg] at e
  subst e
  exact ⟨_, rfl, k _ W H [] (New.sc x0 .int)⟩⟩
theorem me_un {op : UnaryOp} {g : D → Res D} (o : UnD X (unaryOp op) g) (ha : MEB X CT a ma) : ME X CT (.UnaryOp op a pos) (mOp1 g ma) := by
  obtain ⟨r, h, k⟩ := o
  refine pe_weak (pe_un h ha) fun σ H Q ⟨W, m, fp, d, m', rel, e, q⟩ => ?_
  obtain ⟨⟨d1, m1⟩, e1, e⟩ := Res.bind_eq e
  obtain ⟨d2, e2, e⟩ := Res.bind_eq e
  cases e
  exact ⟨W, m, fp, d1, _, rel, e1, fun v1 W1 H1 fp1 fd1 p => k W1 H1 v1 d1 fd1 d _ p.rel.fix p.rep e2 fun v W' H' fd n => q v W' H' fp1 fd (n.post p.rel p.ext p.sub)⟩
theorem meq_un {op : UnaryOp} {g : D → Res D} (o : UnD X (unaryOp op) g) (ha : MEQ X CT a qa) : MEQ X CT (.UnaryOp op a pos) (mqOp1 g qa) := by
  obtain ⟨r, h, k⟩ := o
  refine pe_weak (pe_un h ha) fun σ H Q ⟨W, m, fp, d, rel, e, q⟩ => ?_
  obtain ⟨d1, e1, e⟩ := Res.bind_eq e
  obtain ⟨d2, e2, e⟩ := Res.bind_eq e
  obtain ⟨p0, e⟩ := Res.when_eq e
  cases e
  exact ⟨W, m, fp, d1, rel, e1, fun v1 W1 H1 fd1 p => k W1 H1 v1 d1 fd1 d _ p.rel.fix p.rep e2 fun v W' H' fd n => q v W' H' [] (n.postQ p0 p.rel p.ext)⟩

/-! ### subscripts: an item of what is looked at -/
@[simp] def dIx : D → D → Res D
  | .lst _ xs, .int i => Res.of (atI xs i)
  | .tup xs, .int i => Res.of (atI xs i)
  | _, _ => .fail
theorem atI_rep {K : PySem.W.Frag} {W : Wd} {H : Hp} {vs : List V} {ds : List D} {g : List Addr} (l : RepL K W H vs ds g) {i : Int} {d : D} (e : atI ds i = some d) : ∃ v f, atI vs i = some v ∧ RepD K W H v d f ∧ ∀ a ∈ f, a ∈ g := by
  unfold atI at e ⊢
  rw [l.length]
  cases h : ixN ds.length i with
  | none => rw [h] at e; cases e
  | some j =>
    rw [h] at e
    obtain ⟨v, f, h1, h2, h3⟩ := l.get e
    exact ⟨v, f, h1, h2, h3⟩
theorem ix_rep {W : Wd} {H : Hp} {x y : V} {d1 d2 d : D} {f1 f2 : List Addr} {Q : VK} (a : RepD X.K W H x d1 f1) (b : RepD X.K W H y d2 f2) (e : dIx d1 d2 = .ok d) (k : ∀ v f, RepD X.K W H v d f → (∀ a ∈ f, a ∈ f1) → Q v H) : rIxL X.K x y H Q ∨ rIxT X.K x y H Q := by
  unfold dIx at e; split at e
  · have e := Res.of_eq e
    cases b
    obtain ⟨p, vs, g', rfl, s, l, sb⟩ := a.lst
    obtain ⟨v, f, h1, h2, h3⟩ := atI_rep l e
    exact .inl ⟨p, vs, _, v, rfl, rfl, s, h1, k v f h2 fun a m => sb a (h3 a m)⟩
  · have e := Res.of_eq e
    cases b
    obtain ⟨p, vs, rfl, s, z, l⟩ := a.tupl
    obtain ⟨v, f, h1, h2, h3⟩ := atI_rep l e
    exact .inr ⟨p, vs, _, v, rfl, rfl, s, h1, k v f h2 h3⟩
  · cases e
def mqIx (qa qb : MQ D) : MQ D := fun m => (qa m).bind fun d1 => (qb m).bind fun d2 => dIx d1 d2
theorem meq_ix (ha : MEQ X CT a qa) (hb : MEQ X CT b qb) (hs : PlainIx b) : MEQ X CT (.Subscript a b pos) (mqIx qa qb) :=
  pe_weak (pe_ix (ix_list.or ix_tup) ha hb hs) fun σ H Q ⟨W, m, fp, d, rel, e, q⟩ => by
    obtain ⟨d1, e1, e⟩ := Res.bind_eq e
    obtain ⟨d2, e2, e⟩ := Res.bind_eq e
    refine ⟨W, m, fp, d1, rel, e1, fun v1 W1 H1 fd1 P1 => ⟨W1, m, fp, d2, P1.rel, e2, fun v2 W2 H2 fd2 P2 => ?_⟩⟩
    exact ix_rep (P1.rep.ext P2.ext off_nil fun a _ z => by cases z) P2.rep e fun v f r s => q v W2 H2 f ⟨P2.rel, r, P1.ext.trans P2.ext (fun a z => by cases z), fun a z => P1.sub a (s a z)⟩
/-- an item (pure) of a new thing, of a name by an index with effects -/
def mIx (ma mb : M D) : M D := fun m => (ma m).bind fun r1 => (mb r1.2).bind fun r2 => (dIx r1.1 r2.1).bind fun d => Res.when d.pure (.ok (d, r2.2))
def mIxN (i : Nat) (mb : M D) : M D := fun m => (mqVar i m).bind fun _ => (mb m).bind fun r2 => (mqVar i r2.2).bind fun d1 => (dIx d1 r2.1).bind fun d => Res.when d.pure (.ok (d, r2.2))
theorem postB_val {K : PySem.W.Frag} {W W1 : Wd} {H H1 : Hp} {fp fp1 fd f : List Addr} {σ : L2.St} {m1 : Mem} {v v' : V} {d d' : D} (p : PostB K CT W H σ fp v d m1 W1 H1 fp1 fd) (r : RepD K W1 H1 v' d' f) (h : d'.pure = true) : Post K CT W H σ fp v' d' m1 W1 H1 fp1 [] := by
  obtain rfl := r.pure h
  exact PostT.post ⟨p.rel, p.ext, p.sub⟩ (Post.mk0 p.rel r)
theorem me_ix (ha : ME X CT a ma) (hb : MEB X CT b mb) (hs : PlainIx b) : ME X CT (.Subscript a b pos) (mIx ma mb) :=
  pe_weak (pe_ix (ix_list.or ix_tup) ha hb hs) fun σ H Q ⟨W, m, fp, d, m', rel, e, q⟩ => by
    obtain ⟨⟨d1, m1⟩, e1, e⟩ := Res.bind_eq e
    obtain ⟨⟨d2, m2⟩, e2, e⟩ := Res.bind_eq e
    obtain ⟨d3, e3, e⟩ := Res.bind_eq e
    obtain ⟨p0, e⟩ := Res.when_eq e
    cases e
    refine ⟨W, m, fp, d1, m1, rel, e1, fun v1 W1 H1 fp1 fd1 P1 => ⟨W1, m1, fp1, d2, _, P1.rel, e2, fun v2 W2 H2 fp2 fd2 P2 => ?_⟩⟩
    exact ix_rep (fin2 P1 P2.ext) P2.rep e3 fun v f r s => q v W2 H2 fp2 [] (postB_val (P1.t.postB P2) r p0)
theorem me_ixN (ha : PE X a (tVar i)) (hb : MEB X CT b mb) (hs : PlainIx b) : ME X CT (.Subscript a b pos) (mIxN i mb) :=
  pe_weak (pe_ix (ix_list.or ix_tup) ha hb hs) fun σ H Q ⟨W, m, fp, d, m', rel, e, q⟩ => by
    obtain ⟨d0, e0, e⟩ := Res.bind_eq e
    obtain ⟨⟨d2, m2⟩, e2, e⟩ := Res.bind_eq e
    obtain ⟨d1, e1, e⟩ := Res.bind_eq e
    obtain ⟨d3, e3, e⟩ := Res.bind_eq e
    obtain ⟨p0, e⟩ := Res.when_eq e
    cases e
    obtain ⟨q1, q2⟩ := mqVar_eq e1
    obtain ⟨q3, q4⟩ := mqVar_eq e0
    obtain ⟨v1, hv⟩ : ∃ v, σ[i]? = some (some v) := by
      obtain ⟨f, g, rfl, h1, h2⟩ := rel.s
      obtain ⟨v, _, _, _, _, s, _⟩ := h1.at q3 q4
      exact ⟨v, s⟩
    refine ⟨v1, hv, W, m, fp, d2, _, rel, e2, fun v2 W2 H2 fp2 fd2 P2 => ?_⟩
    obtain ⟨f, g', rfl, h1, h2⟩ := P2.rel.s
    obtain ⟨v1', A, f1, B, rfl, s, r1, _⟩ := h1.at q1 q2
    rw [hv] at s
    cases s
    exact ix_rep r1 P2.rep e3 fun v f r s => q v W2 H2 _ [] (postB_val P2 r p0)

/-! ### slices -/
def MO (X : Cx) (CT : Nat → Addr) (o : Option Expr) (q : MQ (Option Int)) : Prop := PO X o fun σ H Q => ∃ W m fp i, Rel X.K CT W H σ m fp ∧ q m = .ok i ∧ ∀ W' H', Ext W H W' H' [] → Rel X.K CT W' H' σ m fp → Q i H'
def mqNone : MQ (Option Int) := fun _ => .ok none
def mqSome (q : MQ D) : MQ (Option Int) := fun m => (q m).bind fun d => match d with
  | .int i => .ok (some i)
  | _ => .fail
theorem po_weak {o : Option Expr} {t t' : TO} (h : PO X o t) (k : ∀ σ H Q, t' σ H Q → t σ H Q) : PO X o t' := ⟨fun pins s σ H Q I q => h.run pins s σ H Q I (k σ H Q q)⟩
theorem mo_none : MO X CT none mqNone := po_weak po_none fun σ H Q ⟨W, m, fp, i, rel, e, q⟩ => by
  cases e
  exact q W H (Ext.refl _ _ _) rel
theorem mo_some (h : MEQ X CT a qa) : MO X CT (some a) (mqSome qa) := po_weak (po_some h) fun σ H Q ⟨W, m, fp, i, rel, e, q⟩ => by
  obtain ⟨d, e1, e⟩ := Res.bind_eq e
  refine ⟨W, m, fp, d, rel, e1, fun v W' H' fd p => ?_⟩
  have r := p.rep
  split at e
  · cases e
    cases r
    exact ⟨_, rfl, q W' H' p.ext p.rel⟩
  · cases e
def cutD (xs : List D) (lo hi : Option Int) : List D := (xs.drop (HT.sIx xs.length 0 lo)).take (HT.sIx xs.length xs.length hi - HT.sIx xs.length 0 lo)
@[simp] def dSl (d : D) (lo hi : Option Int) : Res D := match d with
  | .lst _ xs => Res.when (pureL xs) (.ok (.lst true (cutD xs lo hi)))
  | .tup xs => Res.when (pureL xs && !(decide (HT.sIx xs.length 0 lo = 0) && decide (HT.sIx xs.length xs.length hi = xs.length))) (.ok (.tup (cutD xs lo hi)))
  | _ => .fail
def mSl (ma : M D) (lo hi : MQ (Option Int)) : M D := fun m => (ma m).bind fun r => (lo r.2).bind fun l => (hi r.2).bind fun h => (dSl r.1 l h).bind fun d => .ok (d, r.2)
theorem sl_rep {W : Wd} {H : Hp} {x : V} {d1 d : D} {f1 : List Addr} {lo hi : Option Int} {Q : VK} (x0 : Fix W H) (a : RepD X.K W H x d1 f1) (e : dSl d1 lo hi = .ok d) (k : ∀ v W' H' fd, New X.K W H v d W' H' fd → Q v H') : rSlL X.K x lo hi H Q ∨ rSlT X.K x lo hi H Q := by
  unfold dSl at e; split at e
  · obtain ⟨h, e⟩ := Res.when_eq e
    cases e
    obtain ⟨p, vs, g', rfl, s, l, sb⟩ := a.lst
    obtain rfl := l.pure h
    refine .inl ⟨p, vs, rfl, s, fun p' hp => k _ _ _ _ (New.lst x0 hp ?_)⟩
    unfold cutV cutD
    rw [l.length]
    exact l.pick _ _
  · obtain ⟨h, e⟩ := Res.when_eq e
    cases e
    rw [Bool.and_eq_true] at h
    obtain ⟨p, vs, rfl, s, z, l⟩ := a.tupl
    obtain rfl := l.pure h.1
    refine .inr ⟨p, vs, rfl, s, fun y => ?_, fun p' hp => k _ _ _ _ (New.tup x0 hp ?_)⟩
    · rw [l.length] at y
      have h2 := h.2
      rw [decide_eq_true y.1, decide_eq_true y.2] at h2
      cases h2
    · unfold cutV cutD
      rw [l.length]
      exact l.pick _ _
  · cases e
theorem me_sl {lo hi : Option Expr} {p2 : Pos} {ql qh : MQ (Option Int)} (ha : MEB X CT a ma) (hl : MO X CT lo ql) (hh : MO X CT hi qh) : ME X CT (.Subscript a (.Slice lo hi none p2) pos) (mSl ma ql qh) :=
  pe_weak (pe_slice (sl_list.or sl_tup) ha hl hh) fun σ H Q ⟨W, m, fp, d, m', rel, e, q⟩ => by
    obtain ⟨⟨d1, m1⟩, e1, e⟩ := Res.bind_eq e
    obtain ⟨l, e2, e⟩ := Res.bind_eq e
    obtain ⟨h, e3, e⟩ := Res.bind_eq e
    obtain ⟨d3, e4, e⟩ := Res.bind_eq e
    cases e
    refine ⟨W, m, fp, d1, _, rel, e1, fun v1 W1 H1 fp1 fd1 P1 => ⟨W1, m1, fp1, l, P1.rel, e2, fun W2 H2 x2 r2 => ⟨W2, m1, fp1, h, r2, e3, fun W3 H3 x3 r3 => ?_⟩⟩⟩
    have x13 : Ext W1 H1 W3 H3 [] := x2.trans x3 fun a z => by cases z
    exact sl_rep r3.fix (P1.rep.ext x13 off_nil fun a _ z => by cases z) e4 fun v W' H' fd n => q v W' H' fp1 fd (n.post r3 (P1.ext.trans (x13.sub (fq := fp1) fun a z => by cases z) fun a z => P1.sub a z) P1.sub)
end
end E
/-! EngF: argument lists, displays, calls -/
namespace E
open PySem L2

/-- an argument: a value; a name whose thing is lent; a part of the state that is looked at -/
inductive Arg where
  | val (d : D)
  | nam (i : Nat)
  | bor (d : D)
inductive RepA (K : PySem.W.Frag) (W : Wd) (H : Hp) (σ : L2.St) (fp : List Addr) : List V → List Arg → List Addr → Prop
  | nil : RepA K W H σ fp [] [] []
  | val {v d f vs as g} : RepD K W H v d f → RepA K W H σ fp vs as g → RepA K W H σ fp (v :: vs) (.val d :: as) (f ++ g)
  | nam {v i vs as g} : σ[i]? = some (some v) → RepA K W H σ fp vs as g → RepA K W H σ fp (v :: vs) (.nam i :: as) g
  | bor {v d f vs as g} : RepD K W H v d f → (∀ a ∈ f, a ∈ fp) → RepA K W H σ fp vs as g → RepA K W H σ fp (v :: vs) (.bor d :: as) g
section
variable (K : PySem.W.Frag) (CT : Nat → Addr)
structure PostA (W : Wd) (H : Hp) (σ : L2.St) (fp : List Addr) (vs : List V) (as : List Arg) (m' : Mem) (W' : Wd) (H' : Hp) (fp' fd : List Addr) : Prop where
  rel : Rel K CT W' H' σ m' fp'
  rep : RepA K W' H' σ fp' vs as fd
  nd : (fp' ++ fd).Nodup
  own : Own W' H' fd
  ext : Ext W H W' H' fp
  sub : ∀ a ∈ fp' ++ fd, a ∈ fp ∨ H a = none
def tA (e : M (List Arg)) : TA := fun σ H Q => ∃ W m fp as m', Rel K CT W H σ m fp ∧ e m = .ok (as, m') ∧ ∀ vs W' H' fp' fd, PostA K CT W H σ fp vs as m' W' H' fp' fd → Q vs H'
/-- arguments that are looked at -/
structure PostAQ (W : Wd) (H : Hp) (σ : L2.St) (m : Mem) (fp : List Addr) (vs : List V) (as : List D) (W' : Wd) (H' : Hp) (fd : List Addr) : Prop where
  rel : Rel K CT W' H' σ m fp
  rep : RepL K W' H' vs as fd
  ext : Ext W H W' H' []
  sub : ∀ a ∈ fd, a ∈ fp
def tAQ (e : MQ (List D)) : TA := fun σ H Q => ∃ W m fp ds, Rel K CT W H σ m fp ∧ e m = .ok ds ∧ ∀ vs W' H' fd, PostAQ K CT W H σ m fp vs ds W' H' fd → Q vs H'
end
def MA (X : Cx) (CT : Nat → Addr) (es : List Expr) (m : M (List Arg)) : Prop := PA X es (tA X.K CT m)
def MAQ (X : Cx) (CT : Nat → Addr) (es : List Expr) (m : MQ (List D)) : Prop := PA X es (tAQ X.K CT m)

def maNil : M (List Arg) := fun m => .ok ([], m)
def maV (a : M D) (r : M (List Arg)) : M (List Arg) := fun m => (a m).bind fun x => (r x.2).bind fun y => .ok (.val x.1 :: y.1, y.2)
def maN (i : Nat) (r : M (List Arg)) : M (List Arg) := fun m => (mqVar i m).bind fun _ => (r m).bind fun y => .ok (.nam i :: y.1, y.2)
def maQ (q : MQ (List D)) : M (List Arg) := fun m => (q m).bind fun ds => .ok (ds.map .bor, m)
def mqNil : MQ (List D) := fun _ => .ok []
def mqCons (a : MQ D) (r : MQ (List D)) : MQ (List D) := fun m => (a m).bind fun x => (r m).bind fun y => .ok (x :: y)

section
variable {K : PySem.W.Frag} {CT : Nat → Addr} {W W' W1 W2 : Wd} {H H' H1 H2 : Hp} {σ : L2.St} {m m' m1 m2 : Mem} {fp fp' fd fp1 fp2 fd1 fd2 g : List Addr} {v v1 v2 : V} {d d1 d2 : D}
theorem RepL.nils {vs : List V} {as : List D} : RepL K W H vs as fd → (∀ a ∈ fd, a ∈ fp) → RepA K W H σ fp vs (as.map .bor) [] := by
  intro h
  induction vs generalizing as fd with
  | nil => cases h; intro _; exact .nil
  | cons v vs ih => cases h with
    | cons r l =>
      intro s
      exact .bor r (fun a z => s a (List.mem_append_left _ z)) (ih l fun a z => s a (List.mem_append_right _ z))
end
section
variable {X : Cx} {CT : Nat → Addr} {e a b c : Expr} {es rest : List Expr} {pos : Pos} {ma mb : M D} {qa qb qc : MQ D} {i : Nat} {ml : M (List Arg)} {ql : MQ (List D)}
theorem maq_nil : MAQ X CT [] mqNil := pa_weak pa_nil fun σ H Q ⟨W, m, fp, ds, rel, e, q⟩ => by
  cases e
  exact q [] W H [] ⟨rel, .nil, Ext.refl _ _ _, fun a z => by cases z⟩
theorem maq_cons (h : MEQ X CT e qa) (hr : MAQ X CT es ql) (hst : starEach (e :: es) X.env = (false, eval e X.env) :: starEach es X.env := by rfl) : MAQ X CT (e :: es) (mqCons qa ql) := pa_weak (pa_cons h hr hst) fun σ H Q ⟨W, m, fp, ds, rel, e, q⟩ => by
  obtain ⟨d, e1, e⟩ := Res.bind_eq e
  obtain ⟨ds', e2, e⟩ := Res.bind_eq e
  cases e
  refine ⟨W, m, fp, d, rel, e1, fun v W1 H1 fd p => ⟨W1, m, fp, ds', p.rel, e2, fun vs W2 H2 fd2 p2 => q (v :: vs) W2 H2 (fd ++ fd2) ⟨p2.rel, .cons (p.rep.ext p2.ext off_nil fun a _ z => by cases z) p2.rep, p.ext.trans p2.ext (fun a z => by cases z), fun a z => ?_⟩⟩⟩
  rcases List.mem_append.mp z with z | z
  · exact p.sub a z
  · exact p2.sub a z
theorem ma_q (h : MAQ X CT es ql) : MA X CT es (maQ ql) := pa_weak h fun σ H Q ⟨W, m, fp, as, m', rel, e, q⟩ => by
  obtain ⟨ds, e1, e⟩ := Res.bind_eq e
  cases e
  exact ⟨W, _, fp, ds, rel, e1, fun vs W' H' fd p => q vs W' H' fp [] ⟨p.rel, p.rep.nils p.sub, by rw [List.append_nil]; exact p.rel.nd, Own.nil, p.ext.sub (fun a z => by cases z), fun a z => .inl (by simpa using z)⟩⟩
theorem ma_nil : MA X CT [] maNil := pa_weak pa_nil fun σ H Q ⟨W, m, fp, as, m', rel, e, q⟩ => by
  cases e
  exact q [] W H fp [] ⟨rel, .nil, by rw [List.append_nil]; exact rel.nd, Own.nil, Ext.refl _ _ _, fun a z => .inl (by simpa using z)⟩
theorem ma_n (h : PE X e (tVar i)) (hr : MA X CT es ml) (hst : starEach (e :: es) X.env = (false, eval e X.env) :: starEach es X.env := by rfl) : MA X CT (e :: es) (maN i ml) := pa_weak (pa_cons h hr hst) fun σ H Q ⟨W, m, fp, as, m', rel, e, q⟩ => by
  obtain ⟨d0, e0, e⟩ := Res.bind_eq e
  obtain ⟨⟨as', m1⟩, e1, e⟩ := Res.bind_eq e
  cases e
  obtain ⟨q3, q4⟩ := mqVar_eq e0
  obtain ⟨v1, hv⟩ : ∃ v, σ[i]? = some (some v) := by
    obtain ⟨f, g, rfl, h1, h2⟩ := rel.s
    obtain ⟨v, _, _, _, _, s, _⟩ := h1.at q3 q4
    exact ⟨v, s⟩
  exact ⟨v1, hv, W, m, fp, as', _, rel, e1, fun vs W' H' fp' fd p => q (v1 :: vs) W' H' fp' fd ⟨p.rel, .nam hv p.rep, p.nd, p.own, p.ext, p.sub⟩⟩
theorem ma_v (h : ME X CT e ma) (hr : MA X CT es ml) (hst : starEach (e :: es) X.env = (false, eval e X.env) :: starEach es X.env := by rfl) : MA X CT (e :: es) (maV ma ml) := pa_weak (pa_cons h hr hst) fun σ H Q ⟨W, m, fp, as, m', rel, e, q⟩ => by
  obtain ⟨⟨d, m1⟩, e1, e⟩ := Res.bind_eq e
  obtain ⟨⟨as', m2⟩, e2, e⟩ := Res.bind_eq e
  cases e
  refine ⟨W, m, fp, d, m1, rel, e1, fun v W1 H1 fp1 fd1 p => ⟨W1, m1, fp1, as', _, p.rel, e2, fun vs W2 H2 fp2 fd2 p2 => q (v :: vs) W2 H2 fp2 (fd1 ++ fd2) ?_⟩⟩
  have d1 : ∀ a ∈ fd1, a ∉ fp1 := fun a ma mf => by
    have := p.nd
    rw [List.nodup_append] at this
    exact this.2.2 a mf a ma rfl
  have nz : ∀ a ∈ fd1, H1 a ≠ none := fun a z => (p.own a z).2
  have nd2 := p2.nd
  have nd1 := p.nd
  rw [List.nodup_append] at nd1 nd2
  have far : ∀ a ∈ fd1, ∀ b ∈ fp2 ++ fd2, a ≠ b := fun a z b y e => by
    subst e
    rcases p2.sub a y with y | y
    · exact d1 a z y
    · exact nz a z y
  refine ⟨p2.rel, .val (p.rep.ext p2.ext p.rel.off d1) p2.rep, ?_, ?_, p.ext.trans p2.ext (fun a z => p.sub a (List.mem_append_left _ z)), fun a z => ?_⟩
  · rw [List.nodup_append, List.nodup_append]
    refine ⟨nd2.1, ⟨nd1.2.1, nd2.2.1, fun a z b y => far a z b (List.mem_append_right _ y)⟩, fun a z b y => ?_⟩
    rcases List.mem_append.mp y with y | y
    · exact (far b y a (List.mem_append_left _ z)).symm
    · exact nd2.2.2 a z b y
  · rw [Own.app]
    exact ⟨p.own.ext p2.ext d1, p2.own⟩
  · have s12 : ∀ a ∈ fp2 ++ fd2, a ∈ fp ∨ H a = none := fun a z => by
      rcases p2.sub a z with y | y
      · exact p.sub a (List.mem_append_left _ y)
      · exact .inr (p.ext.there a y)
    rcases List.mem_append.mp z with z | z
    · exact s12 a (List.mem_append_left _ z)
    · rcases List.mem_append.mp z with z | z
      · exact p.sub a (List.mem_append_right _ z)
      · exact s12 a (List.mem_append_right _ z)

/-! ### displays: values alone -/
@[simp] def vals : List Arg → Res (List D)
  | [] => .ok []
  | .val d :: r => (vals r).bind fun ds => .ok (d :: ds)
  | .bor d :: r => Res.when d.pure ((vals r).bind fun ds => .ok (d :: ds))
  | .nam _ :: _ => .fail
theorem vals_rep {K : PySem.W.Frag} {W : Wd} {H : Hp} {σ : L2.St} {fp : List Addr} {vs : List V} {as : List Arg} {g : List Addr} (h : RepA K W H σ fp vs as g) : ∀ {ds : List D}, vals as = .ok ds → RepL K W H vs ds g := by
  induction h with
  | nil => intro ds e; cases e; exact .nil
  | val r _ ih =>
    intro ds e
    obtain ⟨ds', e1, e⟩ := Res.bind_eq e
    cases e
    exact .cons r (ih e1)
  | nam _ _ _ => intro ds e; cases e
  | bor r s _ ih =>
    intro ds e
    obtain ⟨p, e⟩ := Res.when_eq e
    obtain ⟨ds', e1, e⟩ := Res.bind_eq e
    cases e
    obtain rfl := r.pure p
    exact RepL.cons (f := []) r (ih e1)
def mTup (a : M (List Arg)) : M D := fun m => (a m).bind fun r => (vals r.1).bind fun ds => Res.when (decide (ds.length ≤ sizeLine)) (.ok (.tup ds, r.2))
def mLst (a : M (List Arg)) : M D := fun m => (a m).bind fun r => (vals r.1).bind fun ds => Res.when (decide (ds.length ≤ sizeLine)) (.ok (.lst true ds, r.2))
/-- a tuple of pure things, as a thing to look at -/
def mqTup (a : MQ (List D)) : MQ D := fun m => (a m).bind fun ds => Res.when (pureL ds && decide (ds.length ≤ sizeLine)) (.ok (.tup ds))
theorem me_tup (h : MA X CT es ml) {x1} : ME X CT (.Tuple es x1 pos) (mTup ml) := pe_weak (pe_tup h) fun σ H Q ⟨W, m, fp, d, m', rel, e, q⟩ => by
  obtain ⟨⟨as, m1⟩, e1, e⟩ := Res.bind_eq e
  obtain ⟨ds, e2, e⟩ := Res.bind_eq e
  obtain ⟨hl, e⟩ := Res.when_eq e
  cases e
  refine ⟨W, m, fp, as, _, rel, e1, fun vs W1 H1 fp1 fd p => ?_⟩
  have l := vals_rep p.rep e2
  refine ⟨by rw [l.length]; exact of_decide_eq_true hl, fun t ht => ?_⟩
  have x := ext_updF (W := W1) (o := .tup vs) ht
  refine q (.ref t) (W1.fixed [t]) _ fp1 fd ⟨p.rel.ext x off_nil (fun a _ z => by cases z) rfl (fix_updF p.rel.fix), .tup (.inl ⟨.inr (by simp), .inl upd_same⟩) (l.ext x off_nil fun a _ z => by cases z), p.nd, p.own.ext x (fun a _ z => by cases z), p.ext.trans x (fun a z => by cases z), p.sub⟩
theorem me_lst (h : MA X CT es ml) : ME X CT (.List es pos) (mLst ml) := pe_weak (pe_lst h) fun σ H Q ⟨W, m, fp, d, m', rel, e, q⟩ => by
  obtain ⟨⟨as, m1⟩, e1, e⟩ := Res.bind_eq e
  obtain ⟨ds, e2, e⟩ := Res.bind_eq e
  obtain ⟨hl, e⟩ := Res.when_eq e
  cases e
  refine ⟨W, m, fp, as, _, rel, e1, fun vs W1 H1 fp1 fd p => ?_⟩
  have l := vals_rep p.rep e2
  refine ⟨by rw [l.length]; exact of_decide_eq_true hl, fun t ht => ?_⟩
  have x := ext_upd (W := W1) (o := .lst vs) ht
  have tn : ∀ a ∈ fp1 ++ fd, a ≠ t := fun a z y => by
    subst y
    rcases List.mem_append.mp z with z | z
    · exact (p.rel.own a z).2 ht
    · exact (p.own a z).2 ht
  have ndp := p.nd
  rw [List.nodup_append] at ndp
  refine q (.ref t) W1 _ fp1 (t :: fd) ⟨p.rel.ext x off_nil (fun a _ z => by cases z) rfl (fix_upd p.rel.fix), .lstO upd_same (l.ext x off_nil fun a _ z => by cases z), ?_, ?_, p.ext.trans x (fun a z => by cases z), fun a z => ?_⟩
  · rw [List.nodup_append, List.nodup_cons]
    refine ⟨ndp.1, ⟨fun z => tn t (List.mem_append_right _ z) rfl, ndp.2.1⟩, fun a z b y e => ?_⟩
    subst e
    rcases List.mem_cons.mp y with y | y
    · exact tn a (List.mem_append_left _ z) y
    · exact ndp.2.2 a z a y rfl
  · intro a z
    rcases List.mem_cons.mp z with z | z
    · subst z
      exact ⟨fun y => p.rel.fix a y ht, by rw [upd_same]; exact fun z => by cases z⟩
    · exact (p.own.ext x fun a _ z => by cases z) a z
  · rcases List.mem_append.mp z with z | z
    · exact p.sub a (List.mem_append_left _ z)
    · rcases List.mem_cons.mp z with z | z
      · subst z
        exact .inr (p.ext.there a ht)
      · exact p.sub a (List.mem_append_right _ z)
theorem meq_tup (h : MAQ X CT es ql) {x1} : MEQ X CT (.Tuple es x1 pos) (mqTup ql) := pe_weak (pe_tup h) fun σ H Q ⟨W, m, fp, d, rel, e, q⟩ => by
  obtain ⟨ds, e1, e⟩ := Res.bind_eq e
  obtain ⟨hl, e⟩ := Res.when_eq e
  cases e
  rw [Bool.and_eq_true] at hl
  refine ⟨W, m, fp, ds, rel, e1, fun vs W1 H1 fd p => ?_⟩
  have l := p.rep
  obtain rfl := l.pure hl.1
  refine ⟨by rw [l.length]; exact of_decide_eq_true hl.2, fun t ht => ?_⟩
  exact q _ _ _ _ ((New.tup p.rel.fix ht l).postQ (by simpa [D.pure] using hl.1) p.rel p.ext)

/-! ### calls of builtins -/
def CallD (X : Cx) (f : Value) (g : List D → Res D) : Prop :=
  ∃ r : List V → Hp → VK → Prop, CallR X f r ∧ ∀ W H xs ds fs d Q, Fix W H → RepL X.K W H xs ds fs → g ds = .ok d → (∀ v W' H' fd, New X.K W H v d W' H' fd → Q v H') → r xs H Q
theorem CallD.or {f : Value} {g1 g2 : List D → Res D} (h1 : CallD X f g1) (h2 : CallD X f g2) : CallD X f (fun ds => match g1 ds with
    | .ok d => .ok d
    | _ => g2 ds) := by
  obtain ⟨r1, o1, k1⟩ := h1
  obtain ⟨r2, o2, k2⟩ := h2
  refine ⟨fun xs H Q => r1 xs H Q ∨ r2 xs H Q, fun pins s σ H xs us Q I r h => h.elim (o1 pins s σ H xs us Q I r) (o2 pins s σ H xs us Q I r), fun W H xs ds fs d Q x0 a e k => ?_⟩
  dsimp only at e
  split at e
  · rename_i d' e1
    cases e
    exact .inl (k1 W H xs ds fs d Q x0 a e1 k)
  · exact .inr (k2 W H xs ds fs d Q x0 a e k)
/-- what the arguments are -/
@[simp] def conts (env : List D) : List Arg → Res (List D)
  | [] => .ok []
  | .val d :: r => (conts env r).bind fun ds => .ok (d :: ds)
  | .bor d :: r => (conts env r).bind fun ds => .ok (d :: ds)
  | .nam i :: r => match env[i]? with
    | some .und => .fail
    | some d => (conts env r).bind fun ds => .ok (d :: ds)
    | none => .fail
theorem conts_rep {K : PySem.W.Frag} {W : Wd} {H : Hp} {σ : L2.St} {fp fs : List Addr} {env : List D} {vs : List V} {as : List Arg} {g : List Addr} (hs : RepS K W H σ env fs) (h : RepA K W H σ fp vs as g) : ∀ {ds : List D}, conts env as = .ok ds → ∃ g', RepL K W H vs ds g' := by
  induction h with
  | nil => intro ds e; cases e; exact ⟨_, .nil⟩
  | val r _ ih =>
    intro ds e
    obtain ⟨ds', e1, e⟩ := Res.bind_eq e
    cases e
    obtain ⟨g', l⟩ := ih e1
    exact ⟨_, .cons r l⟩
  | nam s _ ih =>
    intro ds e
    unfold conts at e
    split at e
    · cases e
    · rename_i d nd ed
      obtain ⟨ds', e1, e⟩ := Res.bind_eq e
      cases e
      obtain ⟨g', l⟩ := ih e1
      obtain ⟨v, A, f, B, _, s', r, _⟩ := hs.at ed nd
      rw [s] at s'
      cases s'
      exact ⟨_, .cons r l⟩
    · cases e
  | bor r _ _ ih =>
    intro ds e
    obtain ⟨ds', e1, e⟩ := Res.bind_eq e
    cases e
    obtain ⟨g', l⟩ := ih e1
    exact ⟨_, .cons r l⟩
def mCB (g : List D → Res D) (a : M (List Arg)) : M D := fun m => (a m).bind fun r => (conts r.2.env r.1).bind fun ds => (g ds).bind fun d => .ok (d, r.2)
def mqCB (g : List D → Res D) (a : MQ (List D)) : MQ D := fun m => (a m).bind fun ds => (g ds).bind fun d => Res.when d.pure (.ok d)
theorem tcb {r : List V → Hp → VK → Prop} {g : List D → Res D} (k : ∀ W H xs ds fs d Q, Fix W H → RepL X.K W H xs ds fs → g ds = .ok d → (∀ v W' H' fd, New X.K W H v d W' H' fd → Q v H') → r xs H Q) :
    ∀ σ H Q, tM X.K CT (mCB g ml) σ H Q → tCB r (tA X.K CT ml) σ H Q := fun σ H Q ⟨W, m, fp, d, m', rel, e, q⟩ => by
  obtain ⟨⟨as, m1⟩, e1, e⟩ := Res.bind_eq e
  obtain ⟨ds, e2, e⟩ := Res.bind_eq e
  obtain ⟨d', e3, e⟩ := Res.bind_eq e
  cases e
  refine ⟨W, m, fp, as, _, rel, e1, fun vs W1 H1 fp1 fd p => ?_⟩
  obtain ⟨f, g', rfl, h1, h2⟩ := p.rel.s
  obtain ⟨g', l⟩ := conts_rep h1 p.rep e2
  exact k W1 H1 vs ds g' d _ p.rel.fix l e3 fun v W' H' fd n => q v W' H' _ fd (n.post p.rel p.ext fun a z => p.sub a (List.mem_append_left _ z))
theorem tcbQ {r : List V → Hp → VK → Prop} {g : List D → Res D} (k : ∀ W H xs ds fs d Q, Fix W H → RepL X.K W H xs ds fs → g ds = .ok d → (∀ v W' H' fd, New X.K W H v d W' H' fd → Q v H') → r xs H Q) :
    ∀ σ H Q, tQ X.K CT (mqCB g ql) σ H Q → tCB r (tAQ X.K CT ql) σ H Q := fun σ H Q ⟨W, m, fp, d, rel, e, q⟩ => by
  obtain ⟨ds, e1, e⟩ := Res.bind_eq e
  obtain ⟨d', e3, e⟩ := Res.bind_eq e
  obtain ⟨p0, e⟩ := Res.when_eq e
  cases e
  refine ⟨W, m, fp, ds, rel, e1, fun vs W1 H1 fd p => ?_⟩
  exact k W1 H1 vs ds fd d _ p.rel.fix p.rep e3 fun v W' H' fd n => q v W' H' [] (n.postQ p0 p.rel p.ext)
variable {x : Str} {p0 : Pos} {id T : String} {g : List D → Res D}
theorem me_cb (o : CallD X (.builtin id) g) (hg : Gl X x) (hm : X.mg x = none) (hv : bootBuiltins x = some (.builtin id)) (ha : MA X CT (e :: es) ml) (hn : x ≠ "__name__" := by decide) (hdb : (x == ("__debug__" : Str)) = false := by decide) 
    (hst : starEach (e :: es) X.env = (false, eval e X.env) :: starEach es X.env := by rfl) (hpl : (backTo pos (starEach es X.env)).any (·.1) = false := by rfl) : ME X CT (.Call (.Name x p0) (e :: es) [] pos) (mCB g ml) := by
  obtain ⟨r, h, k⟩ := o
  exact pe_weak (pe_callB h hg hm hv ha hn hdb hst hpl) (tcb k)
theorem meq_cb (o : CallD X (.builtin id) g) (hg : Gl X x) (hm : X.mg x = none) (hv : bootBuiltins x = some (.builtin id)) (ha : MAQ X CT (e :: es) ql) (hn : x ≠ "__name__" := by decide) (hdb : (x == ("__debug__" : Str)) = false := by decide) 
    (hst : starEach (e :: es) X.env = (false, eval e X.env) :: starEach es X.env := by rfl) (hpl : (backTo pos (starEach es X.env)).any (·.1) = false := by rfl) : MEQ X CT (.Call (.Name x p0) (e :: es) [] pos) (mqCB g ql) := by
  obtain ⟨r, h, k⟩ := o
  exact pe_weak (pe_callB h hg hm hv ha hn hdb hst hpl) (tcbQ k)
theorem me_cty (o : CallD X (.type T) g) (hg : Gl X x) (hm : X.mg x = none) (hv : bootBuiltins x = some (.type T)) (ha : MA X CT (e :: es) ml) (hn : x ≠ "__name__" := by decide) (hdb : (x == ("__debug__" : Str)) = false := by decide) 
    (hst : starEach (e :: es) X.env = (false, eval e X.env) :: starEach es X.env := by rfl) (hpl : (backTo pos (starEach es X.env)).any (·.1) = false := by rfl) : ME X CT (.Call (.Name x p0) (e :: es) [] pos) (mCB g ml) := by
  obtain ⟨r, h, k⟩ := o
  exact pe_weak (pe_callTy h hg hm hv ha hn hdb hst hpl) (tcb k)
theorem meq_cty (o : CallD X (.type T) g) (hg : Gl X x) (hm : X.mg x = none) (hv : bootBuiltins x = some (.type T)) (ha : MAQ X CT (e :: es) ql) (hn : x ≠ "__name__" := by decide) (hdb : (x == ("__debug__" : Str)) = false := by decide) 
    (hst : starEach (e :: es) X.env = (false, eval e X.env) :: starEach es X.env := by rfl) (hpl : (backTo pos (starEach es X.env)).any (·.1) = false := by rfl) : MEQ X CT (.Call (.Name x p0) (e :: es) [] pos) (mqCB g ql) := by
  obtain ⟨r, h, k⟩ := o
  exact pe_weak (pe_callTy h hg hm hv ha hn hdb hst hpl) (tcbQ k)
end
end E
/-! EngG: defs and their calls -/
namespace E
open PySem L2

abbrev CallM := List D → List Ob → Res (D × List D × List Ob)
def grab : List Arg → List D → Res (List D × List (Option Nat) × List D)
  | [], env => .ok ([], [], env)
  | .val d :: as, env => (grab as env).bind fun r => .ok (d :: r.1, none :: r.2.1, r.2.2)
  | .bor d :: as, env => Res.when d.pure ((grab as env).bind fun r => .ok (d :: r.1, none :: r.2.1, r.2.2))
  | .nam i :: as, env => match env[i]? with
    | some .und => .fail
    | some d => if d.pure = true then (grab as env).bind fun r => .ok (d :: r.1, none :: r.2.1, r.2.2)
      else (grab as (env.set i .und)).bind fun r => .ok (d :: r.1, some i :: r.2.1, r.2.2)
    | none => .fail
@[simp] def giveBack : List (Option Nat) → List D → List D → List D
  | some i :: is, d :: ds, env => giveBack is ds (env.set i d)
  | none :: is, _ :: ds, env => giveBack is ds env
  | _, _, env => env
inductive Link (σ : L2.St) : List V → List (Option Nat) → Prop
  | done {vs} : Link σ vs []
  | none {v vs is} : Link σ vs is → Link σ (v :: vs) (none :: is)
  | some {v vs i is} : σ[i]? = some (some v) → Link σ vs is → Link σ (v :: vs) (some i :: is)

section
variable {K : PySem.W.Frag} {CT : Nat → Addr} {W W' W1 W2 : Wd} {H H' H1 H2 : Hp} {σ : L2.St} {m m' m1 m2 : Mem} {fp fp' fd fp1 fp2 fd1 fd2 g : List Addr} {v v1 v2 : V} {d d1 d2 : D}
theorem RepS.take {env : List D} {f : List Addr} (h : RepS K W H σ env f) : ∀ {i : Nat} {d : D}, env[i]? = some d → d ≠ .und → ∃ v f1 f', f.Perm (f1 ++ f') ∧ σ[i]? = some (some v) ∧ RepD K W H v d f1 ∧ RepS K W H σ (env.set i .und) f' := by
  induction h with
  | nil => intro i d e; simp at e
  | @und x σ env g hs ih =>
    intro i d e nd
    cases i with
    | zero => simp at e; exact absurd e.symm nd
    | succ i =>
      obtain ⟨v, f1, f', p, s, r, k⟩ := ih (by simpa using e) nd
      exact ⟨v, f1, f', p, by simpa using s, r, .und k⟩
  | @cons v σ d0 env f g r hs ih =>
    intro i d e nd
    cases i with
    | zero =>
      obtain rfl : d0 = d := by simpa using e
      exact ⟨v, f, g, .refl _, rfl, r, .und hs⟩
    | succ i =>
      obtain ⟨v', f1, f', p, s, r', k⟩ := ih (by simpa using e) nd
      refine ⟨v', f1, f ++ f', ?_, by simpa using s, r', .cons r k⟩
      exact (List.Perm.append_left f p).trans (by
        rw [← List.append_assoc, ← List.append_assoc]
        exact List.Perm.append_right f' List.perm_append_comm)
theorem set_same {i : Nat} {v : V} (s : σ[i]? = some (some v)) : σ.set i (some v) = σ := by
  apply List.ext_getElem?
  intro j
  rw [List.getElem?_set]
  split
  · rename_i ej; subst ej
    have : i < σ.length := (List.getElem?_eq_some_iff.mp s).1
    rw [if_pos this, s]
  · rfl
theorem grab_rep {vs : List V} {as : List Arg} {ga : List Addr} (h : RepA K W H σ fp vs as ga) : ∀ {env : List D} {fs : List Addr} {ds : List D} {is : List (Option Nat)} {env' : List D}, RepS K W H σ env fs → grab as env = .ok (ds, is, env') →
    ∃ fd fs', RepL K W H vs ds fd ∧ RepS K W H σ env' fs' ∧ (ga ++ fs).Perm (fd ++ fs') ∧ Link σ vs is := by
  induction h with
  | nil => intro env fs ds is env' hs e; cases e; exact ⟨[], fs, .nil, hs, .refl _, .done⟩
  | @val v d f vs as g r _ ih =>
    intro env fs ds is env' hs e
    obtain ⟨⟨ds1, is1, env1⟩, e1, e⟩ := Res.bind_eq e
    cases e
    obtain ⟨fd, fs', l, k, p, lk⟩ := ih hs e1
    refine ⟨f ++ fd, fs', .cons r l, k, ?_, .none lk⟩
    rw [List.append_assoc, List.append_assoc]
    exact List.Perm.append_left f p
  | @nam v i vs as g s _ ih =>
    intro env fs ds is env' hs e
    unfold grab at e
    split at e
    · cases e
    · rename_i d nd ed
      split at e
      · rename_i pd
        obtain ⟨⟨ds1, is1, env1⟩, e1, e⟩ := Res.bind_eq e
        cases e
        obtain ⟨fd, fs', l, k, p, lk⟩ := ih hs e1
        obtain ⟨v', f1, f', p', s', r, _⟩ := hs.take ed nd
        rw [s] at s'
        cases s'
        obtain rfl := r.pure pd
        exact ⟨fd, fs', RepL.cons (f := []) r l, k, p, .none lk⟩
      · obtain ⟨⟨ds1, is1, env1⟩, e1, e⟩ := Res.bind_eq e
        cases e
        obtain ⟨v', f1, f', p', s', r, k'⟩ := hs.take ed nd
        rw [s] at s'
        cases s'
        obtain ⟨fd, fs', l, k, p, lk⟩ := ih k' e1
        refine ⟨f1 ++ fd, fs', .cons r l, k, ?_, .some s lk⟩
        refine (List.Perm.append_left g p').trans ?_
        rw [List.append_assoc]
        refine List.Perm.trans ?_ (List.Perm.append_left f1 p)
        rw [← List.append_assoc, ← List.append_assoc]
        exact List.Perm.append_right f' List.perm_append_comm
    · cases e
  | @bor v d f vs as g r _ _ ih =>
    intro env fs ds is env' hs e
    obtain ⟨pd, e⟩ := Res.when_eq e
    obtain ⟨⟨ds1, is1, env1⟩, e1, e⟩ := Res.bind_eq e
    cases e
    obtain ⟨fd, fs', l, k, p, lk⟩ := ih hs e1
    obtain rfl := r.pure pd
    exact ⟨fd, fs', RepL.cons (f := []) r l, k, p, .none lk⟩
theorem give_rep {vs : List V} {is : List (Option Nat)} (lk : Link σ vs is) : ∀ {ds : List D} {fd : List Addr} {env : List D} {fs : List Addr}, RepL K W H vs ds fd → RepS K W H σ env fs → ∃ fs' rest, RepS K W H σ (giveBack is ds env) fs' ∧ (fs' ++ rest).Perm (fd ++ fs) := by
  induction lk with
  | done =>
    intro ds fd env fs l h
    exact ⟨fs, fd, by unfold giveBack; exact h, List.perm_append_comm⟩
  | none _ ih =>
    intro ds fd env fs l h
    cases l with
    | @cons v d f vs ds g r l =>
      obtain ⟨fs', rest, k, p⟩ := ih l h
      refine ⟨fs', f ++ rest, k, ?_⟩
      rw [List.append_assoc]
      refine List.Perm.trans ?_ (List.Perm.append_left f p)
      rw [← List.append_assoc, ← List.append_assoc]
      exact List.Perm.append_right rest List.perm_append_comm
  | @some v vs i is s _ ih =>
    intro ds fd env fs l h
    cases l with
    | @cons _ d f _ ds g r l =>
      have hi : i < env.length := by
        rw [← h.length]
        exact (List.getElem?_eq_some_iff.mp s).1
      obtain ⟨A, f0, B, rfl, k0⟩ := h.put hi
      have k1 := k0 r
      rw [set_same s] at k1
      obtain ⟨fs', rest, k, p⟩ := ih l k1
      refine ⟨fs', f0 ++ rest, k, ?_⟩
      have e1 : (fs' ++ (f0 ++ rest)).Perm (f0 ++ (fs' ++ rest)) := by
        rw [← List.append_assoc, ← List.append_assoc]
        exact List.Perm.append_right rest List.perm_append_comm
      refine e1.trans ((List.Perm.append_left f0 p).trans ?_)
      rw [List.perm_iff_count]
      intro a
      simp only [List.count_append]
      omega
end

theorem Link.app {σ : L2.St} {vs ws : List V} {is : List (Option Nat)} (lk : Link σ vs is) : Link σ (vs ++ ws) is := by
  induction lk with
  | done => exact .done
  | none _ ih => exact .none ih
  | some s _ ih => exact .some s ih
/-! ### a def's promise: what its mirror gives -/
def spM (K : PySem.W.Frag) (CT : Nat → Addr) (n : Nat) (f : CallM) : Sp := fun vs H Q _ => ∃ W ds hs fd fh r ds' hs', ds.length = n ∧ RepL K W H vs ds fd ∧ RepH K CT W H W.ι hs fh ∧ (fd ++ fh).Nodup ∧ Own W H (fd ++ fh) ∧ Fix W H ∧ f ds hs = .ok (r, ds', hs') ∧
  ∀ v W' H' fd' fh' fr, RepL K W' H' vs ds' fd' → RepH K CT W' H' W'.ι hs' fh' → RepD K W' H' v r fr → ((fd' ++ fh') ++ fr).Nodup → Own W' H' ((fd' ++ fh') ++ fr) → Fix W' H' → Ext W H W' H' (fd ++ fh) → (∀ a ∈ (fd' ++ fh') ++ fr, a ∈ fd ++ fh ∨ H a = none) → Q v H'
theorem spM_len {K : PySem.W.Frag} {CT : Nat → Addr} {n : Nat} {f : CallM} {vs : List V} {H : Hp} {Q : VK} {E : XK} (h : spM K CT n f vs H Q E) : vs.length = n := by
  obtain ⟨W, ds, hs, fd, fh, r, ds', hs', e, l, _⟩ := h
  rw [l.length, e]

/-- a call: dd the defaults -/
def mCall (f : CallM) (dd : List D) (a : M (List Arg)) : M D := fun m => (a m).bind fun r => (grab r.1 r.2.env).bind fun q => (f (q.1 ++ dd) r.2.hs).bind fun o => .ok (o.1, ⟨giveBack q.2.1 o.2.1 q.2.2, o.2.2⟩)
def Consts (K : PySem.W.Frag) (vs : List V) (ds : List D) : Prop := ∀ W H, RepL K W H vs ds []
section
variable {X : Cx} {CT : Nat → Addr} {wx : XK}
theorem sp_call {σ : L2.St} {f : CallM} {dd : List D} {dvs : List V} {n : Nat} {W W1 : Wd} {H H1 : Hp} {fp fp1 fa : List Addr} {vs : List V} {as : List Arg} {m1 m' : Mem} {d : D} {Q : VK} (hd : Consts X.K dvs dd) (hn : ∀ ds hs o, f ds hs = .ok o → ds.length = n)
    (p : PostA X.K CT W H σ fp vs as m1 W1 H1 fp1 fa) (e : ((grab as m1.env).bind fun q => (f (q.1 ++ dd) m1.hs).bind fun o => Res.ok (o.1, (⟨giveBack q.2.1 o.2.1 q.2.2, o.2.2⟩ : Mem))) = .ok (d, m'))
    (q : ∀ v W' H' fp' fd, Post X.K CT W H σ fp v d m' W' H' fp' fd → Q v H') : spM X.K CT n f (vs ++ dvs) H1 Q wx := by
  obtain ⟨⟨ds, is, env1⟩, e1, e⟩ := Res.bind_eq e
  obtain ⟨⟨r, ds', hs'⟩, e2, e⟩ := Res.bind_eq e
  cases e
  obtain ⟨fs, fh, rfl, h1, h2⟩ := p.rel.s
  obtain ⟨fd, fs', l, k, pm, lk⟩ := grab_rep p.rep h1 e1
  have nd0 := p.nd
  have hc : ∀ a, (fs ++ fh ++ fa).count a = (fd ++ fs' ++ fh).count a := fun a => by
    have := pm.count_eq a
    simp only [List.count_append] at this ⊢
    omega
  have pm2 : (fs ++ fh ++ fa).Perm (fd ++ fs' ++ fh) := List.perm_iff_count.mpr hc
  have ndA : (fd ++ fs' ++ fh).Nodup := pm2.nodup_iff.mp nd0
  have ownA : Own W1 H1 (fd ++ fs' ++ fh) := fun a z => by
    rcases List.mem_append.mp (pm2.mem_iff.mpr z) with z | z
    · exact p.rel.own a z
    · exact p.own a z
  have ndB : (fd ++ fh).Nodup := by
    simp only [List.nodup_append] at ndA ⊢
    exact ⟨ndA.1.1, ndA.2.1, fun a z b y => ndA.2.2 a (List.mem_append_left _ z) b y⟩
  have ownB : Own W1 H1 (fd ++ fh) := fun a z => ownA a (by simp only [List.mem_append] at z ⊢; exact z.elim (fun z => .inl (.inl z)) .inr)
  have far : ∀ a ∈ fs', a ∉ fd ++ fh := fun a z y => by
    simp only [List.nodup_append] at ndA
    rcases List.mem_append.mp y with y | y
    · exact ndA.1.2.2 a y a z rfl
    · exact ndA.2.2 a (List.mem_append_right _ z) a y rfl
  have offB : Off W1 (fd ++ fh) := fun a z => (ownB a z).1
  refine ⟨W1, ds ++ dd, m1.hs, fd, fh, r, ds', hs', hn _ _ _ e2, ?_, h2, ndB, ownB, p.rel.fix, e2, fun v W2 H2 fd2 fh2 fr l2 k2 rr nd2 own2 fix2 x2 sub2 => ?_⟩
  · have := l.app (hd W1 H1)
    rw [List.append_nil] at this
    exact this
  have ks := k.ext x2 offB far
  have lkk : Link σ (vs ++ dvs) is := lk.app
  obtain ⟨fs3, rest, k3, pm3⟩ := give_rep lkk l2 ks
  -- the owned ones now
  have far2 : ∀ a ∈ fs', a ∉ (fd2 ++ fh2) ++ fr := fun a z y => by
    rcases sub2 a y with y | y
    · exact far a z y
    · exact (ownA a (by simp [z])).2 y
  have ownfs : Own W2 H2 fs' := Own.ext (fun a z => ownA a (by simp [z])) x2 far
  have ndT : ((fd2 ++ fs') ++ fh2 ++ fr).Nodup := by
    have c : ((fd2 ++ fs') ++ fh2 ++ fr).Perm (fs' ++ ((fd2 ++ fh2) ++ fr)) := by
      rw [List.perm_iff_count]
      intro a
      simp only [List.count_append]
      omega
    rw [c.nodup_iff, List.nodup_append]
    refine ⟨?_, nd2, fun a z b y e => ?_⟩
    · simp only [List.nodup_append] at ndA
      exact ndA.1.2.1
    · subst e
      exact far2 a z y
  have pmT : ((fs3 ++ fh2 ++ fr) ++ rest).Perm ((fd2 ++ fs') ++ fh2 ++ fr) := by
    rw [List.perm_iff_count]
    intro a
    have := pm3.count_eq a
    simp only [List.count_append] at this ⊢
    omega
  have ndF : (fs3 ++ fh2 ++ fr).Nodup := by
    have := pmT.nodup_iff.mpr ndT
    rw [List.nodup_append] at this
    exact this.1
  have memF : ∀ a ∈ fs3 ++ fh2 ++ fr, a ∈ fs' ∨ a ∈ (fd2 ++ fh2) ++ fr := fun a z => by
    have := pmT.mem_iff.mp (List.mem_append_left rest z)
    simp only [List.mem_append] at this ⊢
    rcases this with ((h | h) | h) | h
    · exact .inr (.inl (.inl h))
    · exact .inl h
    · exact .inr (.inl (.inr h))
    · exact .inr (.inr h)
  have ownF : Own W2 H2 (fs3 ++ fh2 ++ fr) := fun a z => by
    rcases memF a z with h | h
    · exact ownfs a h
    · exact own2 a h
  have mem0 : ∀ a, a ∈ fd ++ fs' ++ fh → a ∈ fp ∨ H a = none := fun a z => p.sub a (pm2.mem_iff.mpr z)
  rw [List.nodup_append] at ndF
  refine q v W2 H2 (fs3 ++ fh2) fr ⟨⟨⟨fs3, fh2, rfl, k3, k2⟩, ndF.1, (Own.app.mp ownF).1, fix2⟩, rr, by rw [List.nodup_append]; exact ndF, (Own.app.mp ownF).2, p.ext.trans x2 (fun a z => mem0 a (by simp only [List.mem_append] at z ⊢; exact z.elim (fun z => .inl (.inl z)) .inr)), fun a z => ?_⟩
  rcases memF a z with h | h
  · exact mem0 a (by simp [h])
  · rcases sub2 a h with h | h
    · exact mem0 a (by simp only [List.mem_append] at h ⊢; exact h.elim (fun z => .inl (.inl z)) .inr)
    · exact .inr (p.ext.there a h)
variable {CX : CXT} {k n : Nat} {f : Addr} {fd : FuncData} {ps : List Str} {dvs : List V} {ds : List Value} {dd : List D} {x : Str} {p pos : Pos} {e : Expr} {es : List Expr} {ml : M (List Arg)} {g : CallM}
theorem me_call (F : FnOk X.prog X.w X.K X.mg X.base CX k f fd ps (spM X.K CT n g)) (hn : ∀ ds hs o, g ds hs = .ok o → ds.length = n) (hr : Room k X.A) (hg : Gl X x) (hm : X.mg x = some (.ref f)) (hk : PySem.W.keepIn X.K (.ref f) = true) (hb : Binds X.K fd ps ds) (hd : Vals dvs ds) (hdd : Consts X.K dvs dd) (hx : Passes CX X wx)
    (ha : MA X CT (e :: es) ml) (hdb : (x == ("__debug__" : Str)) = false := by decide) (he : starEach (e :: es) X.env = (false, eval e X.env) :: starEach es X.env := by rfl) (hpl : (backTo pos (starEach es X.env)).any (·.1) = false := by rfl) :
    ME X CT (.Call (.Name x p) (e :: es) [] pos) (mCall g dd ml) := pe_weak (pe_call F hr hg hm hk hb hd hx ha hdb he hpl) fun σ H Q ⟨W, m, fp, d, m', rel, e, q⟩ => by
  obtain ⟨⟨as, m1⟩, e1, e⟩ := Res.bind_eq e
  exact ⟨W, m, fp, as, m1, rel, e1, fun vs W1 H1 fp1 fa pa => sp_call hdd hn pa e q⟩
theorem me_call0 (F : FnOk X.prog X.w X.K X.mg X.base CX k f fd ps (spM X.K CT n g)) (hn : ∀ ds hs o, g ds hs = .ok o → ds.length = n) (hr : Room k X.A) (hg : Gl X x) (hm : X.mg x = some (.ref f)) (hk : PySem.W.keepIn X.K (.ref f) = true) (hb : Binds X.K fd ps ds) (hd : Vals dvs ds) (hdd : Consts X.K dvs dd) (hx : Passes CX X wx)
    (hdb : (x == ("__debug__" : Str)) = false := by decide) :
    ME X CT (.Call (.Name x p) [] [] pos) (mCall g dd maNil) := pe_weak (pe_call0 F hr hg hm hk hb hd hx hdb) fun σ H Q ⟨W, m, fp, d, m', rel, e, q⟩ => by
  obtain ⟨⟨as, m1⟩, e1, e⟩ := Res.bind_eq e
  cases e1
  show spM X.K CT n g ([] ++ dvs) H Q wx
  exact sp_call (as := []) (vs := []) (fp1 := fp) (fa := []) hdd hn ⟨rel, .nil, by rw [List.append_nil]; exact rel.nd, Own.nil, Ext.refl _ _ _, fun a z => .inl (by simpa using z)⟩ e q
end
end E
/-! EngH: statements, targets, while -/
namespace E
open PySem L2

inductive Fl where
  | nx | bk | ct
  | rt (d : D)
abbrev MS := Mem → Res (Fl × Mem)
section
variable (K : PySem.W.Frag) (CT : Nat → Addr)
structure PostS (pin : List Nat) (W : Wd) (H : Hp) (σ : L2.St) (fp : List Addr) (m' : Mem) (σ' : L2.St) (W' : Wd) (H' : Hp) (fp' : List Addr) : Prop where
  rel : Rel K CT W' H' σ' m' fp'
  ext : Ext W H W' H' fp
  sub : ∀ a ∈ fp', a ∈ fp ∨ H a = none
  pin : ∀ i ∈ pin, σ'[i]? = σ[i]?
  len : σ'.length = σ.length
structure PostR (pin : List Nat) (W : Wd) (H : Hp) (σ : L2.St) (fp : List Addr) (v : V) (d : D) (m' : Mem) (σ' : L2.St) (W' : Wd) (H' : Hp) (fp' fd : List Addr) : Prop where
  rel : Rel K CT W' H' σ' m' fp'
  rep : RepD K W' H' v d fd
  nd : (fp' ++ fd).Nodup
  own : Own W' H' fd
  ext : Ext W H W' H' fp
  sub : ∀ a ∈ fp' ++ fd, a ∈ fp ∨ H a = none
  pin : ∀ i ∈ pin, σ'[i]? = σ[i]?
def Then (pin : List Nat) (W : Wd) (H : Hp) (σ : L2.St) (fp : List Addr) (m' : Mem) (D : Ends) : Fl → Prop
  | .nx => ∀ σ' W' H' fp', PostS K CT pin W H σ fp m' σ' W' H' fp' → D.nx σ' H'
  | .bk => ∀ σ' W' H' fp', PostS K CT pin W H σ fp m' σ' W' H' fp' → D.bk σ' H'
  | .ct => ∀ σ' W' H' fp', PostS K CT pin W H σ fp m' σ' W' H' fp' → D.ct σ' H'
  | .rt d => ∀ v σ' W' H' fp' fd, PostR K CT pin W H σ fp v d m' σ' W' H' fp' fd → D.rt v H'
def tS (pin : List Nat) (s : MS) : TS := fun D σ H => ∃ W m fp fl m', Rel K CT W H σ m fp ∧ s m = .ok (fl, m') ∧ Then K CT pin W H σ fp m' D fl
/-- targets -/
def tG (pin : List Nat) (b : D → Mem → Res Mem) : TG := fun v σ H Q => ∃ W m fp d fd m', Rel K CT W H σ m fp ∧ RepD K W H v d fd ∧ (fp ++ fd).Nodup ∧ Own W H fd ∧ b d m = .ok m' ∧
  ∀ σ' W' H' fp', PostS K CT pin W H σ (fp ++ fd) m' σ' W' H' fp' → Q σ' H'
def tGs (pin : List Nat) (b : List D → Mem → Res Mem) : TGs := fun vs σ H Q => ∃ W m fp ds fd m', Rel K CT W H σ m fp ∧ RepL K W H vs ds fd ∧ (fp ++ fd).Nodup ∧ Own W H fd ∧ b ds m = .ok m' ∧
  ∀ σ' W' H' fp', PostS K CT pin W H σ (fp ++ fd) m' σ' W' H' fp' → Q σ' H'
end
def MSt (X : Cx) (CT : Nat → Addr) (pin : List Nat) (st : Stmt) (s : MS) : Prop := PS X st (tS X.K CT pin s)
def MSs (X : Cx) (CT : Nat → Addr) (pin : List Nat) (st : List Stmt) (s : MS) : Prop := PSs X st (tS X.K CT pin s)
def MG (X : Cx) (CT : Nat → Addr) (pin : List Nat) (e : Expr) (b : D → Mem → Res Mem) : Prop := PG X e (tG X.K CT pin b)
def MGs (X : Cx) (CT : Nat → Addr) (pin : List Nat) (es : List Expr) (b : List D → Mem → Res Mem) : Prop := PGs X es (tGs X.K CT pin b)

section
variable {K : PySem.W.Frag} {CT : Nat → Addr} {pin : List Nat} {W W' W1 W2 : Wd} {H H' H1 H2 : Hp} {σ σ1 σ2 : L2.St} {m m' m1 m2 : Mem} {fp fp' fd fp1 fp2 fd1 fd2 g : List Addr} {v v1 v2 : V} {d d1 d2 : D}
theorem PostS.refl (r : Rel K CT W H σ m fp) : PostS K CT pin W H σ fp m σ W H fp := ⟨r, Ext.refl _ _ _, fun a z => .inl z, fun _ _ => rfl, rfl⟩
theorem PostS.trans (p : PostS K CT pin W H σ fp m1 σ1 W1 H1 fp1) (q : PostS K CT pin W1 H1 σ1 fp1 m2 σ2 W2 H2 fp2) : PostS K CT pin W H σ fp m2 σ2 W2 H2 fp2 :=
  ⟨q.rel, p.ext.trans q.ext p.sub, subT p.sub q.sub p.ext.there, fun i h => (q.pin i h).trans (p.pin i h), q.len.trans p.len⟩
theorem PostS.transR (p : PostS K CT pin W H σ fp m1 σ1 W1 H1 fp1) (q : PostR K CT pin W1 H1 σ1 fp1 v d m2 σ2 W2 H2 fp2 fd) : PostR K CT pin W H σ fp v d m2 σ2 W2 H2 fp2 fd :=
  ⟨q.rel, q.rep, q.nd, q.own, p.ext.trans q.ext p.sub, subT p.sub q.sub p.ext.there, fun i h => (q.pin i h).trans (p.pin i h)⟩
theorem PostT.s (p : PostT K CT W H σ fp m1 W1 H1 fp1) : PostS K CT pin W H σ fp m1 σ W1 H1 fp1 := ⟨p.rel, p.ext, p.sub, fun _ _ => rfl, rfl⟩
theorem Post.r (p : Post K CT W H σ fp v d m1 W1 H1 fp1 fd) : PostR K CT pin W H σ fp v d m1 σ W1 H1 fp1 fd := ⟨p.rel, p.rep, p.nd, p.own, p.ext, p.sub, fun _ _ => rfl⟩
theorem PostS.r0 (p : PostS K CT pin W H σ fp m1 σ1 W1 H1 fp1) (r : RepD K W1 H1 v d []) : PostR K CT pin W H σ fp v d m1 σ1 W1 H1 fp1 [] :=
  ⟨p.rel, r, by rw [List.append_nil]; exact p.rel.nd, Own.nil, p.ext, fun a z => p.sub a (by simpa using z), p.pin⟩
/-- a statement in a state that was reached -/
theorem tS.from {s : MS} {D : Ends} {fl : Fl} (p : PostS K CT pin W H σ fp m1 σ1 W1 H1 fp1) (e : s m1 = .ok (fl, m2))
    (k : Then K CT pin W H σ fp m2 D fl) : tS K CT pin s D σ1 H1 := by
  refine ⟨W1, m1, fp1, fl, m2, p.rel, e, ?_⟩
  cases fl with
  | nx => exact fun σ' W' H' fp' q => k σ' W' H' fp' (p.trans q)
  | bk => exact fun σ' W' H' fp' q => k σ' W' H' fp' (p.trans q)
  | ct => exact fun σ' W' H' fp' q => k σ' W' H' fp' (p.trans q)
  | rt d => exact fun v σ' W' H' fp' fd q => k v σ' W' H' fp' fd (p.transR q)
end

def sPass : MS := fun m => .ok (.nx, m)
def sBk : MS := fun m => .ok (.bk, m)
def sCt : MS := fun m => .ok (.ct, m)
def sNever : MS := fun _ => .fail
def sSeq (a b : MS) : MS := fun m => (a m).bind fun r => match r.1 with
  | .nx => b r.2
  | .bk => .ok (.bk, r.2)
  | .ct => .ok (.ct, r.2)
  | .rt d => .ok (.rt d, r.2)
def sEx (e : M D) : MS := fun m => (e m).bind fun r => .ok (.nx, r.2)
def sRt (e : M D) : MS := fun m => (e m).bind fun r => .ok (.rt r.1, r.2)
def sRtN : MS := fun m => .ok (.rt .non, m)
def sIf (t : M Bool) (a b : MS) : MS := fun m => (t m).bind fun r => if r.1 = true then a r.2 else b r.2
def sAsg (e : M D) (b : D → Mem → Res Mem) : MS := fun m => (e m).bind fun r => (b r.1 r.2).bind fun m' => .ok (.nx, m')
def bName (i : Nat) : D → Mem → Res Mem := fun d m => Res.when (decide (i < m.env.length)) (.ok { m with env := m.env.set i d })
def bNil : List D → Mem → Res Mem
  | [], m => .ok m
  | _ :: _, _ => .fail
def bCons (b : D → Mem → Res Mem) (bs : List D → Mem → Res Mem) : List D → Mem → Res Mem
  | d :: ds, m => (b d m).bind (bs ds)
  | [], _ => .fail
def bTup (n : Nat) (bs : List D → Mem → Res Mem) : D → Mem → Res Mem
  | .tup ds, m => Res.when (decide (ds.length = n)) (bs ds m)
  | _, _ => .fail
/-- the targets of a list's items (or a tuple's) -/
def bLst (n : Nat) (bs : List D → Mem → Res Mem) : D → Mem → Res Mem
  | .lst _ ds, m => Res.when (decide (ds.length = n) && pureL ds) (bs ds m)
  | _, _ => .fail
def whileM (t : M Bool) (b : MS) : Nat → MS
  | 0 => fun _ => .fail
  | n + 1 => fun m => (t m).bind fun r => if r.1 = true then (b r.2).bind fun o => match o.1 with
      | .nx => whileM t b n o.2
      | .ct => whileM t b n o.2
      | .bk => .ok (.nx, o.2)
      | .rt d => .ok (.rt d, o.2)
    else .ok (.nx, r.2)

section
variable {X : Cx} {CT : Nat → Addr} {pin : List Nat} {e a b c : Expr} {st : Stmt} {rest body : List Stmt} {pos : Pos} {me : M D} {tt : M Bool} {s1 s2 : MS} {i : Nat} {bb : D → Mem → Res Mem} {bs : List D → Mem → Res Mem}
theorem mst_pass : MSt X CT pin (.Pass pos) sPass := ps_weak ps_pass fun D σ H ⟨W, m, fp, fl, m', rel, e, k⟩ => by
  cases e
  exact k σ W H fp (.refl rel)
theorem mst_bk : MSt X CT pin (.Break pos) sBk := ps_weak ps_break fun D σ H ⟨W, m, fp, fl, m', rel, e, k⟩ => by
  cases e
  exact k σ W H fp (.refl rel)
theorem mst_ct : MSt X CT pin (.Continue pos) sCt := ps_weak ps_continue fun D σ H ⟨W, m, fp, fl, m', rel, e, k⟩ => by
  cases e
  exact k σ W H fp (.refl rel)
theorem mst_never : MSt X CT pin st sNever := ⟨fun _ _ _ _ _ _ ⟨_, _, _, _, _, _, e, _⟩ => by cases e⟩
theorem mst_doc {x j pos'} : MSt X CT pin (.Expr (.Constant (.str x) j pos) pos') sPass := ps_weak ps_doc fun D σ H ⟨W, m, fp, fl, m', rel, e, k⟩ => by
  cases e
  exact k σ W H fp (.refl rel)
theorem mss_nil : MSs X CT pin [] sPass := pss_weak pss_nil fun D σ H ⟨W, m, fp, fl, m', rel, e, k⟩ => by
  cases e
  exact k σ W H fp (.refl rel)
theorem mss_one (h : MSt X CT pin st s1) : MSs X CT pin [st] s1 := pss_one h
theorem mss_cons (h1 : MSt X CT pin st s1) (h2 : MSs X CT pin rest s2) : MSs X CT pin (st :: rest) (sSeq s1 s2) := pss_weak (pss_cons h1 h2) fun D σ H ⟨W, m, fp, fl, m', rel, e, k⟩ => by
  obtain ⟨⟨f1, m1⟩, e1, e⟩ := Res.bind_eq e
  refine ⟨W, m, fp, f1, m1, rel, e1, ?_⟩
  cases f1 with
  | nx => exact fun σ1 W1 H1 fp1 p => tS.from p e k
  | bk => cases e; exact k
  | ct => cases e; exact k
  | rt d => cases e; exact k
theorem mst_ex (h : ME X CT e me) (hs : swapsWith e none pos.line X.env = pure false := by rfl) : MSt X CT pin (.Expr e pos) (sEx me) := ps_weak (ps_expr h hs) fun D σ H ⟨W, m, fp, fl, m', rel, e, k⟩ => by
  obtain ⟨⟨d, m1⟩, e1, e⟩ := Res.bind_eq e
  cases e
  exact ⟨W, m, fp, d, _, rel, e1, fun v W' H' fp' fd p => k σ W' H' fp' p.t.s⟩
theorem mst_rt (h : ME X CT e me) : MSt X CT pin (.Return (some e) pos) (sRt me) := ps_weak (ps_ret h) fun D σ H ⟨W, m, fp, fl, m', rel, e, k⟩ => by
  obtain ⟨⟨d, m1⟩, e1, e⟩ := Res.bind_eq e
  cases e
  exact ⟨W, m, fp, d, _, rel, e1, fun v W' H' fp' fd p => k v σ W' H' fp' fd p.r⟩
theorem mst_rtN : MSt X CT pin (.Return none pos) sRtN := ps_weak ps_retN fun D σ H ⟨W, m, fp, fl, m', rel, e, k⟩ => by
  cases e
  exact k .non σ W H fp [] ((PostS.refl rel).r0 .non)
theorem mst_if (hc : MT X CT c tt) (h1 : MSs X CT pin body s1) (h2 : MSs X CT pin rest s2) : MSt X CT pin (.If c body rest pos) (sIf tt s1 s2) := ps_weak (ps_if hc h1 h2) fun D σ H ⟨W, m, fp, fl, m', rel, e, k⟩ => by
  obtain ⟨⟨c1, m1⟩, e1, e⟩ := Res.bind_eq e
  refine ⟨W, m, fp, c1, m1, rel, e1, fun W1 H1 fp1 p => ?_⟩
  cases c1 with
  | true => exact iteT (tS.from (p.s (σ := σ)) e k)
  | false => exact iteF (tS.from (p.s (σ := σ)) e k)

/-! ### targets -/
theorem bName_rep {K : PySem.W.Frag} {W : Wd} {H : Hp} {σ : L2.St} {fp fd : List Addr} {m m' : Mem} {v : V} {d : D} {Q : L2.St → Hp → Prop} (hp : i ∉ pin) (rel : Rel K CT W H σ m fp) (rp : RepD K W H v d fd) (nd : (fp ++ fd).Nodup) (own : Own W H fd) (e : bName i d m = .ok m')
    (k : ∀ σ' W' H' fp', PostS K CT pin W H σ (fp ++ fd) m' σ' W' H' fp' → Q σ' H') : Q (σ.set i (some v)) H := by
  obtain ⟨hl, e⟩ := Res.when_eq e
  cases e
  obtain ⟨f, g, rfl, h1, h2⟩ := rel.s
  obtain ⟨A, f0, B, rfl, k0⟩ := h1.put (of_decide_eq_true hl)
  have pm : ((A ++ fd ++ B) ++ g ++ f0).Perm (A ++ f0 ++ B ++ g ++ fd) := by
    rw [List.perm_iff_count]; intro a; simp only [List.count_append]; omega
  have nd2 := pm.nodup_iff.mpr nd
  have mem : ∀ a ∈ (A ++ fd ++ B) ++ g, a ∈ A ++ f0 ++ B ++ g ++ fd := fun a z => pm.mem_iff.mp (List.mem_append_left _ z)
  refine k _ W H ((A ++ fd ++ B) ++ g) ⟨⟨⟨_, g, rfl, k0 rp, h2⟩, ?_, fun a z => ?_, rel.fix⟩, Ext.refl _ _ _, fun a z => .inl (mem a z), fun j hj => ?_, ?_⟩
  · rw [List.nodup_append] at nd2
    exact nd2.1
  · rcases List.mem_append.mp (mem a z) with z | z
    · exact rel.own a z
    · exact own a z
  · rw [List.getElem?_set_ne (fun z => hp (by rw [z]; exact hj))]
  · rw [List.length_set]
theorem mg_name {x : Str} (hN : X.N.Nodup) (hi : X.N[i]? = some x) (hx : Loc X.env.scope x) (hp : i ∉ pin) (hf : X.fn x = true ∨ X.env.scope.names.lookup x = some .local := by first | exact .inl rfl | exact .inr rfl | assumption) : MG X CT pin (.Name x pos) (bName i) := by
  refine ⟨fun pins s σ H v u Q I r h => (pg_name (pos := pos) hN hi hx hf).run pins s σ H v u Q I r ?_⟩
  obtain ⟨W, m, fp, d, fd, m', rel, rp, nd, own, e, k⟩ := h
  exact bName_rep hp rel rp nd own e k
theorem mgs_nil : MGs X CT pin [] bNil := by
  refine ⟨fun pins s σ H vs us Q I r h => pgs_nil.run pins s σ H vs us Q I r ?_⟩
  obtain ⟨W, m, fp, ds, fd, m', rel, rp, nd, own, e, k⟩ := h
  cases rp with
  | nil =>
    cases e
    refine ⟨rfl, ?_⟩
    rw [List.append_nil] at k
    exact k σ W H fp (.refl rel)
  | cons _ _ => cases e
theorem mgs_cons {es : List Expr} (h1 : MG X CT pin e bb) (h2 : MGs X CT pin es bs) (hs : (assignEach (e :: es) X.env).map (·.2) = assign e X.env :: (assignEach es X.env).map (·.2) := by rfl) : MGs X CT pin (e :: es) (bCons bb bs) := by
  refine ⟨fun pins s σ H vs us Q I r h => (pgs_cons h1 h2 hs).run pins s σ H vs us Q I r ?_⟩
  obtain ⟨W, m, fp, ds, fd, m', rel, rp, nd, own, e, k⟩ := h
  cases rp with
  | nil => cases e
  | @cons v d f vs ds g rd rl =>
    obtain ⟨m1, e1, e⟩ := Res.bind_eq e
    have nd' := nd
    rw [← List.append_assoc, List.nodup_append] at nd'
    obtain ⟨own1, own2⟩ := Own.app.mp own
    refine ⟨v, vs, rfl, W, m, fp, d, f, m1, rel, rd, nd'.1, own1, e1, fun σ1 W1 H1 fp1 p => ?_⟩
    have far : ∀ a ∈ g, a ∉ fp ++ f := fun a z y => nd'.2.2 a y a z rfl
    have offA : Off W (fp ++ f) := fun a z => by
      rcases List.mem_append.mp z with z | z
      · exact (rel.own a z).1
      · exact (own1 a z).1
    refine ⟨W1, m1, fp1, ds, g, m', p.rel, rl.ext p.ext offA far, ?_, own2.ext p.ext far, e, fun σ2 W2 H2 fp2 q => k σ2 W2 H2 fp2 ?_⟩
    · rw [List.nodup_append]
      refine ⟨p.rel.nd, nd'.2.1, fun a z b y e => ?_⟩
      subst e
      rcases p.sub a z with z | z
      · exact far a y z
      · exact (own2 a y).2 z
    · have s1 : ∀ a ∈ fp1 ++ g, a ∈ fp ++ (f ++ g) ∨ H a = none := fun a z => by
        rcases List.mem_append.mp z with z | z
        · rcases p.sub a z with z | z
          · exact .inl (by rw [← List.append_assoc]; exact List.mem_append_left _ z)
          · exact .inr z
        · exact .inl (by simp [z])
      exact ⟨q.rel, Ext.trans (p.ext.sub fun a z => by rw [← List.append_assoc]; exact List.mem_append_left _ z) q.ext s1, subT s1 q.sub p.ext.there, fun i h => (q.pin i h).trans (p.pin i h), q.len.trans p.len⟩
theorem mg_tup {es : List Expr} {k n : Nat} (hc : X.calm = true) (h : MGs X CT pin es bs) (hn : (assignEach es X.env).length = n := by rfl) (hst : (assignEach es X.env).findIdx? (·.1) = none := by rfl) : MG X CT pin (.Tuple es k pos) (bTup n bs) := by
  refine ⟨fun pins s σ H v u Q I r h0 => (pg_tup hc h hn hst).run pins s σ H v u Q I r ?_⟩
  obtain ⟨W, m, fp, d, fd, m', rel, rp, nd, own, e, k⟩ := h0
  unfold bTup at e
  split at e
  · obtain ⟨hl, e⟩ := Res.when_eq e
    obtain ⟨a, vs, rfl, sq, _, l⟩ := rp.tupl
    exact ⟨a, vs, rfl, sq, by rw [l.length]; exact of_decide_eq_true hl, W, m, fp, _, fd, m', rel, l, nd, own, e, k⟩
  · cases e
theorem mg_lst {es : List Expr} {k n : Nat} (hc : X.calm = true) (h : MGs X CT pin es bs) (hn : (assignEach es X.env).length = n := by rfl) (hst : (assignEach es X.env).findIdx? (·.1) = none := by rfl) : MG X CT pin (.Tuple es k pos) (bLst n bs) := by
  refine ⟨fun pins s σ H v u Q I r h0 => (pg_unl hc h hn hst).run pins s σ H v u Q I r ?_⟩
  obtain ⟨W, m, fp, d, fd, m', rel, rp, nd, own, e, k⟩ := h0
  unfold bLst at e
  split at e
  · obtain ⟨hl, e⟩ := Res.when_eq e
    rw [Bool.and_eq_true] at hl
    obtain ⟨a, vs, g, rfl, sq, l, sb⟩ := rp.lst
    obtain rfl := l.pure hl.2
    refine ⟨a, vs, rfl, sq, by rw [l.length]; exact of_decide_eq_true hl.1, W, m, fp, _, [], m', rel, l, by rw [List.append_nil]; exact rel.nd, Own.nil, e, fun σ' W' H' fp' p => k σ' W' H' fp' ⟨p.rel, p.ext.sub fun a z => ?_, fun a z => ?_, p.pin, p.len⟩⟩
    · rw [List.append_nil] at z
      exact List.mem_append_left _ z
    · rcases p.sub a z with z | z
      · rw [List.append_nil] at z
        exact .inl (List.mem_append_left _ z)
      · exact .inr z
  · cases e
theorem mst_asg {tg : Expr} (he : ME X CT e me) (hg : MG X CT pin tg bb) (hs : swapsWithSole [tg] e pos.line X.env = pure false := by rfl) (hw : swappedStores [tg] e X.env = pure none := by rfl)
    (h1 : (assignEach [tg] X.env).map (·.2) = [assign tg X.env] := by rfl) : MSt X CT pin (.Assign [tg] e pos) (sAsg me bb) := ps_weak (ps_asg he hg hs hw h1) fun D σ H ⟨W, m, fp, fl, m', rel, e, k⟩ => by
  obtain ⟨⟨d, m1⟩, e1, e⟩ := Res.bind_eq e
  obtain ⟨m2, e2, e⟩ := Res.bind_eq e
  cases e
  refine ⟨W, m, fp, d, m1, rel, e1, fun v W1 H1 fp1 fd p => ⟨W1, m1, fp1, d, fd, _, p.rel, p.rep, p.nd, p.own, e2, fun σ' W' H' fp' q => k σ' W' H' fp' ⟨q.rel, p.ext.trans q.ext p.sub, subT p.sub q.sub p.ext.there, q.pin, q.len⟩⟩⟩

/-! ### while -/
theorem mst_while (n : Nat) (hp : PassesOwn (model X.prog X.w) X.A X.env X.xe) (hc : MT X CT c tt) (hb : MSs X CT pin body s1) : MSt X CT pin (.While c body [] pos) (whileM tt s1 n) := ps_weak (ps_while hp hc hb) fun D σ H h => by
  refine ⟨fun k σ H => tS X.K CT pin (whileM tt s1 k) D σ H, ⟨n, h⟩, fun k σ H ⟨W, m, fp, fl, m', rel, e, kk⟩ => ?_⟩
  cases k with
  | zero => cases e
  | succ k =>
    obtain ⟨⟨c1, m1⟩, e1, e⟩ := Res.bind_eq e
    refine ⟨W, m, fp, c1, m1, rel, e1, fun W1 H1 fp1 p => ?_⟩
    cases c1 with
    | false =>
      cases e
      exact iteF (kk σ W1 H1 fp1 p.s)
    | true =>
      refine iteT ⟨fun σ' H' => tS X.K CT pin (whileM tt s1 k) D σ' H', fun σ' H' h => ⟨k, Nat.lt_succ_self k, h⟩, ?_⟩
      obtain ⟨⟨f1, m2⟩, e2, e⟩ := Res.bind_eq e
      refine tS.from (p.s (σ := σ)) e2 ?_
      cases f1 with
      | nx => exact fun σ2 W2 H2 fp2 q => tS.from q e kk
      | ct => exact fun σ2 W2 H2 fp2 q => tS.from q e kk
      | bk => cases e; exact kk
      | rt d => cases e; exact kk
end
end E
/-! EngI: for, comprehensions -/
namespace E
open PySem L2

/-- what is walked: its items, and what must stay so -/
abbrev It := List D × (Mem → Prop)
section
variable (K : PySem.W.Frag) (CT : Nat → Addr)
def Runs (pi : List Nat) (J : L2.It) (W : Wd) (H : Hp) (σ : L2.St) (fp : List Addr) (xs : List D) (ok : Mem → Prop) : Prop :=
  ∀ m2 σ2 W2 H2 fp2, PostS K CT pi W H σ fp m2 σ2 W2 H2 fp2 → ok m2 → ∀ i,
    (∀ d, xs[i]? = some d → J.go i H2 ∧ ∀ x H3, J.yld i H2 x H3 → ∃ W3, RepD K W3 H3 x d [] ∧ Ext W2 H2 W3 H3 [] ∧ W3.ι = W2.ι ∧ Fix W3 H3) ∧ (xs.length ≤ i → J.stop i H2)
def tI (pi : List Nat) (e : M It) : TI := fun σ H R => ∃ W m fp it m', Rel K CT W H σ m fp ∧ e m = .ok (it, m') ∧
  ∀ J W' H' fp', PostT K CT W H σ fp m' W' H' fp' → Runs K CT pi J W' H' σ fp' it.1 it.2 → R J H'
end
def MI (X : Cx) (CT : Nat → Addr) (pi : List Nat) (tg e : Expr) (it : M It) : Prop := PI X tg e (tI X.K CT pi it)
theorem pi_weak {X : Cx} {tg e : Expr} {t t' : TI} (h : PI X tg e t) (k : ∀ σ H R, t' σ H R → t σ H R) : PI X tg e t' := ⟨fun pins s σ H R I q => h.run pins s σ H R I (k σ H R q)⟩
theorem pi_or {X : Cx} {tg e : Expr} {t t' : TI} (h : PI X tg e t) (h' : PI X tg e t') : PI X tg e (fun σ H R => t σ H R ∨ t' σ H R) := ⟨fun pins s σ H R I q => q.elim (h.run pins s σ H R I) (h'.run pins s σ H R I)⟩

@[simp] def itOf (ok : Mem → Prop) : D → Res It
  | .lst _ xs => Res.when (pureL xs) (.ok (xs, ok))
  | .tup xs => Res.when (pureL xs) (.ok (xs, fun (_ : Mem) => True))
  | _ => .fail
def miV (e : M D) : M It := fun m => (e m).bind fun r => (itOf (fun (_ : Mem) => True) r.1).bind fun it => .ok (it, r.2)
def miN (i : Nat) : M It := fun m => (mqVar i m).bind fun d => (itOf (fun m' => m'.env[i]? = some d) d).bind fun it => .ok (it, m)
def rangeD (lo : Int) (n : Nat) : List D := (List.range n).map fun (k : Nat) => D.int (lo + (k : Int))
noncomputable def b62 (i : Int) : Bool := cdec (-4611686018427387904 ≤ i ∧ i < 4611686018427387904)
noncomputable def miR1 (a : M (List Arg)) : M It := fun m => (a m).bind fun r => (conts r.2.env r.1).bind fun ds => match ds with
  | [.int j] => Res.when (b62 j) (.ok ((rangeD 0 j.toNat, fun (_ : Mem) => True), r.2))
  | _ => .fail
noncomputable def miR2 (a : M (List Arg)) : M It := fun m => (a m).bind fun r => (conts r.2.env r.1).bind fun ds => match ds with
  | [.int i, .int j] => Res.when (b62 i && b62 j) (.ok ((rangeD i (j - i).toNat, fun (_ : Mem) => True), r.2))
  | _ => .fail
section
variable {K : PySem.W.Frag} {CT : Nat → Addr} {pi : List Nat} {W W2 : Wd} {H H2 : Hp} {σ σ2 : L2.St} {m2 : Mem} {fp fp2 : List Addr}
theorem RepL.item {vs : List V} {ds : List D} (l : RepL K W H vs ds []) {i : Nat} {d : D} (e : ds[i]? = some d) : ∃ v, vs[i]? = some v ∧ RepD K W H v d [] := by
  obtain ⟨v, f, h1, h2, h3⟩ := l.get e
  have : f = [] := List.eq_nil_iff_forall_not_mem.mpr fun a z => by cases h3 a z
  subst this
  exact ⟨v, h1, h2⟩
theorem RepD.lstQ {v : V} {o : Bool} {ds : List D} {g : List Addr} (h : RepD K W H v (.lst o ds) g) (p : pureL ds = true) : ∃ a vs, v = .ref a ∧ SqL K H a vs ∧ RepL K W H vs ds [] ∧
    ∀ {W' H' fq}, Ext W H W' H' fq → Off W fq → (∀ b ∈ g, b ∉ fq) → SqL K H' a vs := by
  cases h with
  | lstF h l => exact ⟨_, _, rfl, h.sq, l, fun x o _ => (h.ext x o).sq⟩
  | lstO h l =>
    obtain rfl := l.pure p
    exact ⟨_, _, rfl, .inl (.inl h), l, fun x o n => .inl (.inl (x.keep _ _ h (n _ (List.mem_cons_self ..))))⟩
theorem runs_l {a : Addr} {xs : List D} {ok : Mem → Prop} (h : ∀ m2 σ2 W2 H2 fp2, PostS K CT pi W H σ fp m2 σ2 W2 H2 fp2 → ok m2 → ∃ vs, SqL K H2 a vs ∧ RepL K W2 H2 vs xs []) : Runs K CT pi (Itl K a) W H σ fp xs ok := by
  intro m2 σ2 W2 H2 fp2 p o i
  obtain ⟨vs, s, l⟩ := h m2 σ2 W2 H2 fp2 p o
  refine ⟨fun d e => ?_, fun hl => ⟨vs, s, by rw [l.length]; exact hl⟩⟩
  obtain ⟨v, h1, h2⟩ := l.item e
  refine ⟨⟨vs, v, s, h1⟩, fun x H3 y => ?_⟩
  obtain ⟨rfl, y⟩ := y
  have := y vs s
  rw [h1] at this
  cases this
  exact ⟨W2, h2, Ext.refl _ _ _, rfl, p.rel.fix⟩
theorem runs_t {a : Addr} {xs : List D} {ok : Mem → Prop} (h : ∀ m2 σ2 W2 H2 fp2, PostS K CT pi W H σ fp m2 σ2 W2 H2 fp2 → ok m2 → ∃ vs, SqT K H2 a vs ∧ RepL K W2 H2 vs xs []) : Runs K CT pi (Itt K a) W H σ fp xs ok := by
  intro m2 σ2 W2 H2 fp2 p o i
  obtain ⟨vs, s, l⟩ := h m2 σ2 W2 H2 fp2 p o
  refine ⟨fun d e => ?_, fun hl => ⟨vs, s, by rw [l.length]; exact hl⟩⟩
  obtain ⟨v, h1, h2⟩ := l.item e
  refine ⟨⟨vs, v, s, h1⟩, fun x H3 y => ?_⟩
  obtain ⟨rfl, y⟩ := y
  have := y vs s
  rw [h1] at this
  cases this
  exact ⟨W2, h2, Ext.refl _ _ _, rfl, p.rel.fix⟩
theorem runs_r {lo : Int} {n : Nat} {ok : Mem → Prop} : Runs K CT pi (Itr lo n) W H σ fp (rangeD lo n) ok := by
  intro m2 σ2 W2 H2 fp2 p o i
  unfold rangeD
  refine ⟨fun d e => ?_, fun hl => by
    have hl : n ≤ i := by simpa using hl
    exact hl⟩
  have hi : i < n := by
    have := (List.getElem?_eq_some_iff.mp e).1
    simpa using this
  rw [List.getElem?_map, List.getElem?_range hi] at e
  cases e
  refine ⟨hi, fun x H3 y => ?_⟩
  obtain ⟨rfl, rfl⟩ := y
  exact ⟨W2, .int, Ext.refl _ _ _, rfl, p.rel.fix⟩
end
section
variable {X : Cx} {CT : Nat → Addr} {pi pin : List Nat} {e tg : Expr} {es : List Expr} {body : List Stmt} {pos p0 : Pos} {me : M D} {i : Nat} {ml : M (List Arg)} {it : M It} {bb : D → Mem → Res Mem} {s1 : MS}
theorem mi_v (h : ME X CT e me) : MI X CT pi tg e (miV me) := pi_weak (pi_or (pi_list h) (pi_tup h)) fun σ H R ⟨W, m, fp, it, m', rel, e, k⟩ => by
  obtain ⟨⟨d, m1⟩, e1, e⟩ := Res.bind_eq e
  obtain ⟨it1, e2, e⟩ := Res.bind_eq e
  cases e
  dsimp only at e2
  unfold itOf at e2
  split at e2
  · obtain ⟨p0, e2⟩ := Res.when_eq e2
    cases e2
    refine .inl ⟨W, m, fp, _, _, rel, e1, fun v W1 H1 fp1 fd p => ?_⟩
    obtain ⟨a, vs, rfl, s, l, st⟩ := p.rep.lstQ p0
    have nd := p.nd
    rw [List.nodup_append] at nd
    exact ⟨a, rfl, ⟨vs, s⟩, k _ W1 H1 fp1 p.t (runs_l fun m2 σ2 W2 H2 fp2 q _ => ⟨vs, st q.ext p.rel.off (fun b z y => nd.2.2 b y b z rfl), l.ext q.ext p.rel.off fun a z => by cases z⟩)⟩
  · obtain ⟨p0, e2⟩ := Res.when_eq e2
    cases e2
    refine .inr ⟨W, m, fp, _, _, rel, e1, fun v W1 H1 fp1 fd p => ?_⟩
    obtain ⟨a, vs, rfl, s, z, l⟩ := p.rep.tupl
    obtain rfl := l.pure p0
    exact ⟨a, rfl, ⟨vs, s⟩, k _ W1 H1 fp1 p.t (runs_t fun m2 σ2 W2 H2 fp2 q _ => ⟨vs, (z.ext q.ext p.rel.off).sq, l.ext q.ext p.rel.off fun a z => by cases z⟩)⟩
  · cases e2
theorem mi_n (h : PE X e (tVar i)) : MI X CT [i] tg e (miN i) := pi_weak (pi_or (pi_list h) (pi_tup h)) fun σ H R ⟨W, m, fp, it, m', rel, e, k⟩ => by
  obtain ⟨d, e1, e⟩ := Res.bind_eq e
  obtain ⟨it1, e2, e⟩ := Res.bind_eq e
  cases e
  obtain ⟨q1, q2⟩ := mqVar_eq e1
  obtain ⟨v, s, f1, rp⟩ : ∃ v, σ[i]? = some (some v) ∧ ∃ f1, RepD X.K W H v d f1 := by
    obtain ⟨f, g, rfl, h1, h2⟩ := rel.s
    obtain ⟨v, _, f1, _, _, s, r, _⟩ := h1.at q1 q2
    exact ⟨v, s, f1, r⟩
  have post : PostT X.K CT W H σ fp m W H fp := ⟨rel, Ext.refl _ _ _, fun a z => .inl z⟩
  have again : ∀ m2 σ2 W2 H2 fp2, PostS X.K CT [i] W H σ fp m2 σ2 W2 H2 fp2 → m2.env[i]? = some d → ∃ f, RepD X.K W2 H2 v d f := fun m2 σ2 W2 H2 fp2 p o => by
    obtain ⟨f, g, rfl, h1, h2⟩ := p.rel.s
    obtain ⟨v', _, f1, _, _, s', r, _⟩ := h1.at o q2
    rw [p.pin i (List.mem_cons_self ..), s] at s'
    cases s'
    exact ⟨f1, r⟩
  unfold itOf at e2
  split at e2
  · obtain ⟨p0, e2⟩ := Res.when_eq e2
    cases e2
    obtain ⟨a, vs, g, rfl, sq, l, sb⟩ := rp.lst
    refine .inl ⟨_, s, a, rfl, ⟨vs, sq⟩, k _ W H fp post (runs_l fun m2 σ2 W2 H2 fp2 q o => ?_)⟩
    obtain ⟨f, r⟩ := again m2 σ2 W2 H2 fp2 q o
    obtain ⟨a', vs', g', e', sq', l', _⟩ := r.lst
    cases e'
    obtain rfl := l'.pure p0
    exact ⟨vs', sq', l'⟩
  · obtain ⟨p0, e2⟩ := Res.when_eq e2
    cases e2
    obtain ⟨a, vs, rfl, sq, z, l⟩ := rp.tupl
    obtain rfl := l.pure p0
    refine .inr ⟨_, s, a, rfl, ⟨vs, sq⟩, k _ W H fp post (runs_t fun m2 σ2 W2 H2 fp2 q o => ⟨vs, (z.ext q.ext rel.off).sq, l.ext q.ext rel.off fun a z => by cases z⟩)⟩
  · cases e2
theorem b62_eq {i : Int} (h : b62 i = true) : -(2 ^ 62) ≤ i ∧ i < 2 ^ 62 := of_cdec h
theorem mi_r1 {a : Expr} (hg : Gl X "range") (hm : X.mg "range" = none) (h : MA X CT [a] ml) (hs : starEach [a] X.env = [(false, eval a X.env)] := by rfl) :
    MI X CT pi tg (.Call (.Name "range" p0) [a] [] pos) (miR1 ml) := pi_weak (pi_range1 hg hm h hs) fun σ H R ⟨W, m, fp, it, m', rel, e, k⟩ => by
  obtain ⟨⟨as, m1⟩, e1, e⟩ := Res.bind_eq e
  obtain ⟨ds, e2, e⟩ := Res.bind_eq e
  dsimp only at e2 e
  split at e
  · obtain ⟨p0, e⟩ := Res.when_eq e
    cases e
    refine ⟨W, m, fp, as, _, rel, e1, fun vs W1 H1 fp1 fd p => ?_⟩
    obtain ⟨f, g, rfl, h1, h2⟩ := p.rel.s
    obtain ⟨g', l⟩ := conts_rep h1 p.rep e2
    cases l with
    | cons r l =>
      cases l
      cases r
      exact ⟨_, rfl, (b62_eq p0).1, (b62_eq p0).2, k _ W1 H1 _ ⟨p.rel, p.ext, fun a z => p.sub a (List.mem_append_left _ z)⟩ runs_r⟩
  · cases e
theorem mi_r2 {a b : Expr} (hg : Gl X "range") (hm : X.mg "range" = none) (h : MA X CT [a, b] ml) (hs : starEach [a, b] X.env = [(false, eval a X.env), (false, eval b X.env)] := by rfl) (hs2 : starEach [b] X.env = [(false, eval b X.env)] := by rfl) :
    MI X CT pi tg (.Call (.Name "range" p0) [a, b] [] pos) (miR2 ml) := pi_weak (pi_range2 hg hm h hs hs2) fun σ H R ⟨W, m, fp, it, m', rel, e, k⟩ => by
  obtain ⟨⟨as, m1⟩, e1, e⟩ := Res.bind_eq e
  obtain ⟨ds, e2, e⟩ := Res.bind_eq e
  dsimp only at e2 e
  split at e
  · obtain ⟨p0, e⟩ := Res.when_eq e
    cases e
    rw [Bool.and_eq_true] at p0
    refine ⟨W, m, fp, as, _, rel, e1, fun vs W1 H1 fp1 fd p => ?_⟩
    obtain ⟨f, g, rfl, h1, h2⟩ := p.rel.s
    obtain ⟨g', l⟩ := conts_rep h1 p.rep e2
    cases l with
    | cons r l =>
      cases l with
      | cons r' l =>
        cases l
        cases r
        cases r'
        exact ⟨_, _, rfl, ⟨(b62_eq p0.1).1, (b62_eq p0.1).2, (b62_eq p0.2).1, (b62_eq p0.2).2⟩, k _ W1 H1 _ ⟨p.rel, p.ext, fun a z => p.sub a (List.mem_append_left _ z)⟩ runs_r⟩
  · cases e

/-! ### for -/
open Classical in
noncomputable def Res.ifP {α : Type} (p : Prop) (r : Res α) : Res α := if p then r else .fail
theorem Res.ifP_congr {α : Type} {b b' : Prop} {r : Res α} (h : b = b') : Res.ifP b r = Res.ifP b' r := by rw [h]
theorem Res.ifP_eq {α : Type} {p : Prop} {r : Res α} {a : α} (h : Res.ifP p r = .ok a) : p ∧ r = .ok a := by
  unfold Res.ifP at h
  split at h
  · rename_i hp; exact ⟨hp, h⟩
  · cases h
theorem Res.ifP_true {α : Type} {p : Prop} {r : Res α} (h : p) : Res.ifP p r = r := if_pos h
noncomputable def forM (ok : Mem → Prop) (b : D → Mem → Res Mem) (body : MS) : List D → MS
  | [] => fun m => Res.ifP (ok m) (.ok (.nx, m))
  | x :: xs => fun m => Res.ifP (ok m) ((b x m).bind fun m1 => (body m1).bind fun o => match o.1 with
      | .nx => forM ok b body xs o.2
      | .ct => forM ok b body xs o.2
      | .bk => .ok (.nx, o.2)
      | .rt d => .ok (.rt d, o.2))
noncomputable def sFor (it : M It) (b : D → Mem → Res Mem) (body : MS) : MS := fun m => (it m).bind fun r => forM r.1.2 b body r.1.1 r.2
theorem PostS.weak {K : PySem.W.Frag} {p q : List Nat} {W W' : Wd} {H H' : Hp} {σ σ' : L2.St} {m' : Mem} {fp fp' : List Addr} (h : PostS K CT q W H σ fp m' σ' W' H' fp') (s : ∀ i ∈ p, i ∈ q) : PostS K CT p W H σ fp m' σ' W' H' fp' :=
  ⟨h.rel, h.ext, h.sub, fun i z => h.pin i (s i z), h.len⟩
theorem PostR.weak {K : PySem.W.Frag} {p q : List Nat} {W W' : Wd} {H H' : Hp} {σ σ' : L2.St} {m' : Mem} {fp fp' fd : List Addr} {v : V} {d : D} (h : PostR K CT q W H σ fp v d m' σ' W' H' fp' fd) (s : ∀ i ∈ p, i ∈ q) : PostR K CT p W H σ fp v d m' σ' W' H' fp' fd :=
  ⟨h.rel, h.rep, h.nd, h.own, h.ext, h.sub, fun i z => h.pin i (s i z)⟩
theorem mst_for (hp : PassesOwn (model X.prog X.w) X.A X.env X.xe) (hc : X.calm = true) (hi : MI X CT pi tg e it) (hg : MG X CT (pi ++ pin) tg bb) (hb : MSs X CT (pi ++ pin) body s1) (hs : ∀ x, foldedSetIterable e X.env x = pure x := by intro _; rfl) : MSt X CT pin (.For tg e body [] pos) (sFor it bb s1) := ps_weak (ps_for hp hc hi hg hb hs) fun D σ H ⟨W, m, fp, fl, m', rel, e, k⟩ => by
  obtain ⟨⟨⟨xs, ok⟩, m1⟩, e1, e⟩ := Res.bind_eq e
  refine ⟨W, m, fp, (xs, ok), m1, rel, e1, fun J W1 H1 fp1 p1 run => ?_⟩
  dsimp only at run e
  refine ⟨fun i n σ2 H2 => n = xs.length - i ∧ ∃ W2 m2 fp2, PostS X.K CT (pi ++ pin) W1 H1 σ fp1 m2 σ2 W2 H2 fp2 ∧ forM ok bb s1 (xs.drop i) m2 = .ok (fl, m'), ⟨xs.length, rfl, W1, m1, fp1, .refl p1.rel, e⟩, fun i n σ2 H2 ⟨hn, W2, m2, fp2, p2, e2⟩ => ?_⟩
  have all : ∀ {m3 σ3 W3 H3 fp3}, PostS X.K CT (pi ++ pin) W1 H1 σ fp1 m3 σ3 W3 H3 fp3 → PostS X.K CT pin W H σ fp m3 σ3 W3 H3 fp3 := fun q => (p1.s (σ := σ)).trans (q.weak fun i z => List.mem_append_right _ z)
  cases hx : xs[i]? with
  | none =>
    have hl : xs.length ≤ i := by simpa using hx
    rw [List.drop_of_length_le hl] at e2
    obtain ⟨o, e2⟩ := Res.ifP_eq e2
    cases e2
    exact .inl ⟨(run m' σ2 W2 H2 fp2 (p2.weak fun i z => List.mem_append_left _ z) o i).2 hl, k σ2 W2 H2 fp2 (all p2)⟩
  | some x =>
    obtain ⟨hl, hx'⟩ := List.getElem?_eq_some_iff.mp hx
    rw [List.drop_eq_getElem_cons hl, hx'] at e2
    obtain ⟨o, e2⟩ := Res.ifP_eq e2
    obtain ⟨m3, e3, e2⟩ := Res.bind_eq e2
    obtain ⟨⟨f1, m4⟩, e4, e2⟩ := Res.bind_eq e2
    obtain ⟨g, y⟩ := (run m2 σ2 W2 H2 fp2 (p2.weak fun i z => List.mem_append_left _ z) o i).1 x hx
    refine .inr ⟨g, fun σ' H' => ∃ W4 m4 fp4, PostS X.K CT (pi ++ pin) W1 H1 σ fp1 m4 σ' W4 H' fp4 ∧ forM ok bb s1 (xs.drop (i + 1)) m4 = .ok (fl, m'), fun σ' H' ⟨W4, m4, fp4, p4, e5⟩ => ⟨n - 1, by omega, by omega, W4, m4, fp4, p4, e5⟩, fun v H3 hy => ?_⟩
    obtain ⟨W3, rv, x3, i3, fx3⟩ := y v H3 hy
    have r3 : Rel X.K CT W3 H3 σ2 m2 fp2 := p2.rel.ext x3 off_nil (fun a _ z => by cases z) i3 fx3
    have p3 : PostS X.K CT (pi ++ pin) W1 H1 σ fp1 m2 σ2 W3 H3 fp2 := p2.trans ⟨r3, x3.sub (fun a z => by cases z), fun a z => .inl z, fun _ _ => rfl, rfl⟩
    refine ⟨W3, m2, fp2, x, [], m3, r3, rv, by rw [List.append_nil]; exact p2.rel.nd, Own.nil, e3, fun σ3 W4 H4 fp4 p4 => ?_⟩
    rw [List.append_nil] at p4
    have p5 := p3.trans p4
    refine ⟨W4, m3, fp4, f1, m4, p5.rel, e4, ?_⟩
    cases f1 with
    | nx => exact fun σ5 W5 H5 fp5 q => ⟨W5, m4, fp5, p5.trans q, e2⟩
    | ct => exact fun σ5 W5 H5 fp5 q => ⟨W5, m4, fp5, p5.trans q, e2⟩
    | bk =>
      cases e2
      exact fun σ5 W5 H5 fp5 q => k σ5 W5 H5 fp5 (all (p5.trans q))
    | rt d =>
      cases e2
      exact fun v σ5 W5 H5 fp5 fd q => k v σ5 W5 H5 fp5 fd (((p1.s (σ := σ)).trans (p5.weak fun i z => List.mem_append_right _ z)).transR (q.weak fun i z => List.mem_append_right _ z))
end
end E
/-! EngJ: list comprehensions -/
namespace E
open PySem L2

def undL : List Nat → List D → List D
  | [], env => env
  | v :: vs, env => (undL vs env).set v .und
def restore (env0 : List D) : List Nat → List D → List D
  | [], env => env
  | v :: vs, env => restore env0 vs (env.set v (env0.getD v .und))
@[simp] def D.hid : D → Bool
  | .und => true
  | d => d.pure
noncomputable def lcM (ok : Mem → Prop) (vs : List Nat) (b : D → Mem → Res Mem) (tt : M Bool) (el : M D) : List D → List D → M (List D)
  | [], acc => fun m => Res.ifP (ok m) (.ok (acc, m))
  | x :: xs, acc => fun m => Res.ifP (ok m) ((b x m).bind fun m1 => (tt m1).bind fun c => if c.1 = true then
      (el c.2).bind fun r => Res.when (decide (acc.length < sizeLine)) (lcM ok vs b tt el xs (acc ++ [r.1]) ⟨undL vs r.2.env, r.2.hs⟩)
      else lcM ok vs b tt el xs acc ⟨undL vs c.2.env, c.2.hs⟩)
noncomputable def mLc (it : M E.It) (vs : List Nat) (b : D → Mem → Res Mem) (tt : M Bool) (el : M D) : M D := fun m => (it m).bind fun r =>
  Res.when (vs.all fun v => decide (v < r.2.env.length) && (r.2.env.getD v .und).hid) ((lcM r.1.2 vs b tt el r.1.1 [] ⟨undL vs r.2.env, r.2.hs⟩).bind fun o => .ok (.lst true o.1, ⟨restore r.2.env vs o.2.env, o.2.hs⟩))
def mtYes : M Bool := fun m => .ok (true, m)

section
variable {K : PySem.W.Frag} {CT : Nat → Addr} {W W' W2 : Wd} {H H' H2 : Hp} {σ σ2 : L2.St} {fp fp2 : List Addr}
theorem RepS.drop1 {env : List D} {f : List Addr} (h : RepS K W H σ env f) : ∀ (i : Nat), ∃ f' r, (f' ++ r).Perm f ∧ RepS K W H (σ.set i none) (env.set i .und) f' := by
  induction h with
  | nil => intro i; exact ⟨[], [], .refl _, .nil⟩
  | @und x σ env g hs ih =>
    intro i
    cases i with
    | zero => exact ⟨g, [], by simp, .und hs⟩
    | succ i =>
      obtain ⟨f', r, p, k⟩ := ih i
      exact ⟨f', r, p, .und k⟩
  | @cons v σ d0 env f g r hs ih =>
    intro i
    cases i with
    | zero => exact ⟨g, f, List.perm_append_comm, .und hs⟩
    | succ i =>
      obtain ⟨f', r', p, k⟩ := ih i
      refine ⟨f ++ f', r', ?_, .cons r k⟩
      rw [List.append_assoc]
      exact List.Perm.append_left f p
theorem RepS.wipe {env : List D} {f : List Addr} (h : RepS K W H σ env f) : ∀ vs : List Nat, ∃ f' r, (f' ++ r).Perm f ∧ RepS K W H (L2.wipe σ vs) (undL vs env) f'
  | [] => ⟨f, [], by simp, h⟩
  | v :: vs => by
    obtain ⟨f1, r1, p1, k1⟩ := RepS.wipe h vs
    obtain ⟨f2, r2, p2, k2⟩ := k1.drop1 v
    refine ⟨f2, r2 ++ r1, ?_, k2⟩
    rw [← List.append_assoc]
    exact (List.Perm.append_right r1 p2).trans p1
/-- a slot set to a thing that owns nothing, or to nothing -/
theorem RepS.set0 {env : List D} {f : List Addr} (h : RepS K W H σ env f) : ∀ {i : Nat} {x : Option V} {d : D}, env[i]? = some .und → (d = .und ∨ ∃ v, x = some v ∧ RepD K W H v d []) → RepS K W H (σ.set i x) (env.set i d) f := by
  induction h with
  | nil => intro i x d e; simp at e
  | @und x0 σ env g hs ih =>
    intro i x d e hd
    cases i with
    | zero =>
      rcases hd with rfl | ⟨v, rfl, r⟩
      · exact .und hs
      · exact RepS.cons (f := []) r hs
    | succ i => exact .und (ih (by simpa using e) hd)
  | @cons v σ d0 env f g r hs ih =>
    intro i x d e hd
    cases i with
    | zero =>
      have : d0 = .und := by simpa using e
      subst this
      exact r.nund.elim
    | succ i => exact .cons r (ih (by simpa using e) hd)
theorem undL_length (env : List D) : ∀ vs, (undL vs env).length = env.length
  | [] => rfl
  | v :: vs => by rw [undL, List.length_set, undL_length env vs]
theorem undL_get (env : List D) (v : Nat) (h : v < env.length) : ∀ vs, v ∈ vs → (undL vs env)[v]? = some .und
  | w :: vs, m => by
    rw [undL, List.getElem?_set]
    split
    · rename_i e; subst e
      rw [undL_length, if_pos h]
    · rename_i e
      rcases List.mem_cons.mp m with z | z
      · exact absurd z.symm e
      · exact undL_get env v h vs z
theorem wipe_out {i : Nat} : ∀ {vs : List Nat}, i ∉ vs → (L2.wipe σ vs)[i]? = σ[i]?
  | [], _ => rfl
  | v :: vs, h => by
    rw [L2.wipe, List.getElem?_set_ne (fun e => h (by rw [e]; exact List.mem_cons_self ..)), wipe_out fun z => h (List.mem_cons_of_mem _ z)]
theorem wipe_eq (hl : σ2.length = σ.length) {vs : List Nat} (h : ∀ i, i ∉ vs → σ2[i]? = σ[i]?) : L2.wipe σ2 vs = L2.wipe σ vs := by
  apply List.ext_getElem?
  intro i
  have key : ∀ ws : List Nat, (∀ i ∉ vs, σ2[i]? = σ[i]?) → ∀ i, (i ∉ vs ∨ i ∈ ws) → (L2.wipe σ2 ws)[i]? = (L2.wipe σ ws)[i]? := by
    intro ws h
    induction ws with
    | nil =>
      intro i hi
      rcases hi with hi | hi
      · exact h i hi
      · cases hi
    | cons w ws ih =>
      intro i hi
      rw [L2.wipe, L2.wipe, List.getElem?_set, List.getElem?_set, L2.wipe_length, L2.wipe_length, hl]
      split
      · rfl
      · rename_i e
        exact ih i (hi.imp id fun z => (List.mem_cons.mp z).resolve_left fun q => e q.symm)
  exact key vs h i (by
    by_cases hi : i ∈ vs
    · exact .inr hi
    · exact .inl hi)
/-- behind a comprehension: the hidden slots are seen again -/
theorem RepS.unwipe {env0 : List D} : ∀ {vs : List Nat} {env : List D} {f : List Addr}, vs.Nodup → RepS K W H (L2.wipe σ vs) env f → (∀ v ∈ vs, env[v]? = some .und) → (∀ v ∈ vs, env0.getD v .und = .und ∨ ∃ x, σ[v]? = some (some x) ∧ RepD K W H x (env0.getD v .und) []) → RepS K W H σ (restore env0 vs env) f
  | [], env, f, _, h, _, _ => h
  | v :: vs, env, f, nd, h, u, o => by
    rw [List.nodup_cons] at nd
    unfold restore
    have hv := u v (List.mem_cons_self ..)
    have h1 : RepS K W H (L2.wipe σ vs) (env.set v (env0.getD v .und)) f := by
      cases hs : σ[v]? with
      | none =>
        have e : (L2.wipe σ (v :: vs)).set v none = L2.wipe σ vs := by
          rw [L2.wipe, List.set_set, List.set_eq_of_length_le]
          rw [L2.wipe_length]
          simpa using hs
        rw [← e]
        refine h.set0 hv ?_
        rcases o v (List.mem_cons_self ..) with z | ⟨x, z, _⟩
        · exact .inl z
        · rw [hs] at z; cases z
      | some x =>
        have e : (L2.wipe σ (v :: vs)).set v x = L2.wipe σ vs := by
          rw [L2.wipe, List.set_set]
          apply List.ext_getElem?
          intro i
          rw [List.getElem?_set]
          split
          · rename_i e; subst e
            have hl := (List.getElem?_eq_some_iff.mp hs).1
            rw [L2.wipe_length, if_pos hl, wipe_out nd.1, hs]
          · rfl
        rw [← e]
        refine h.set0 hv ?_
        rcases o v (List.mem_cons_self ..) with z | ⟨y, z, r⟩
        · exact .inl z
        · rw [hs] at z
          cases z
          exact .inr ⟨y, rfl, r⟩
    refine RepS.unwipe nd.2 h1 (fun w m => ?_) fun w m => o w (List.mem_cons_of_mem _ m)
    rw [List.getElem?_set_ne (fun e => nd.1 (by rw [e]; exact m))]
    exact u w (List.mem_cons_of_mem _ m)
end
def MTs (X : Cx) (CT : Nat → Addr) (es : List Expr) (m : M Bool) : Prop := PTs X es (tT X.K CT m)
theorem pts_weak {X : Cx} {es : List Expr} {t t' : TT} (h : PTs X es t) (k : ∀ σ H Q, t' σ H Q → t σ H Q) : PTs X es t' := ⟨fun pins s σ H Q I q => h.run pins s σ H Q I (k σ H Q q)⟩
theorem mts_nil {X : Cx} {CT : Nat → Addr} : MTs X CT [] mtYes := pts_weak pts_nil fun σ H Q ⟨W, m, fp, b, m', rel, e, k⟩ => by
  cases e
  exact k W H fp ⟨rel, Ext.refl _ _ _, fun a z => .inl z⟩
theorem mts_one {X : Cx} {CT : Nat → Addr} {c : Expr} {t : M Bool} (h : MT X CT c t) : MTs X CT [c] t := pts_one h

section
variable {X : Cx} {CT : Nat → Addr} {pi pin : List Nat} {elt tg iter : Expr} {ifs : List Expr} {scope : Scope} {own : List (Str × Nat)} {pos spos : Pos} {it : M E.It} {b : D → Mem → Res Mem} {tt : M Bool} {el : M D}
theorem tlc {vs : List Nat} (hvs : vs.Nodup) (hpi : ∀ i ∈ pi, i ∉ vs) (hpin : ∀ i, i < X.N.length → i ∉ vs → i ∈ pin) :
    ∀ σ H Q, σ.length = X.N.length → tM X.K CT (mLc it vs b tt el) σ H Q → tLc (tI X.K CT pi it) (tG X.K CT pin b) (tT X.K CT tt) (tM X.K CT el) vs σ H Q := fun σ H Q hσ ⟨W, m, fp, d, m', rel, e, k⟩ => by
  obtain ⟨⟨⟨xs, ok⟩, m1⟩, e1, e⟩ := Res.bind_eq e
  obtain ⟨hid, e⟩ := Res.when_eq e
  obtain ⟨⟨res, mE⟩, e2, e⟩ := Res.bind_eq e
  cases e
  dsimp only at hid e2
  refine ⟨W, m, fp, (xs, ok), m1, rel, e1, fun J W1 H1 fp1 p1 run D hD => ?_⟩
  dsimp only at run
  have lenEnv : m1.env.length = σ.length := by
    obtain ⟨f, g, _, h1, _⟩ := p1.rel.s
    exact h1.length.symm
  -- what is hidden
  have hidR : ∀ v ∈ vs, m1.env.getD v .und = .und ∨ ∃ x, σ[v]? = some (some x) ∧ RepD X.K W1 H1 x (m1.env.getD v .und) [] := fun v mv => by
    have hh := (Bool.and_eq_true_iff.mp ((List.all_eq_true.mp hid) v mv)).2
    cases he : m1.env[v]? with
    | none => exact .inl (by rw [List.getD_eq_getElem?_getD, he]; rfl)
    | some dv =>
      have eg : m1.env.getD v .und = dv := by rw [List.getD_eq_getElem?_getD, he]; rfl
      rw [eg] at hh ⊢
      by_cases hu : dv = .und
      · exact .inl hu
      · obtain ⟨f, g, _, h1, _⟩ := p1.rel.s
        obtain ⟨x, A, f1, B, _, s, r, _⟩ := h1.at he hu
        have pd : dv.pure = true := by
          cases dv <;> first | exact hh | exact absurd rfl hu
        obtain rfl := r.pure pd
        exact .inr ⟨x, s, r⟩
  -- a wiped state
  have wiped : ∀ {W2 H2 σ2 m2 fp2}, Rel X.K CT W2 H2 σ2 m2 fp2 → L2.wipe σ2 vs = L2.wipe σ vs → ∃ fp3, Rel X.K CT W2 H2 (L2.wipe σ vs) ⟨undL vs m2.env, m2.hs⟩ fp3 ∧ (∀ a ∈ fp3, a ∈ fp2) := fun {W2 H2 σ2 m2 fp2} r ew => by
    obtain ⟨f, g, rfl, h1, h2⟩ := r.s
    obtain ⟨f', rr, pm, k1⟩ := h1.wipe vs
    rw [ew] at k1
    have pm2 : ((f' ++ g) ++ rr).Perm (f ++ g) := by
      rw [List.perm_iff_count]; intro a
      have := pm.count_eq a
      simp only [List.count_append] at this ⊢; omega
    have nd := pm2.nodup_iff.mpr r.nd
    rw [List.nodup_append] at nd
    refine ⟨f' ++ g, ⟨⟨f', g, rfl, k1, h2⟩, nd.1, fun a z => r.own a (pm2.mem_iff.mp (List.mem_append_left _ z)), r.fix⟩, fun a z => pm2.mem_iff.mp (List.mem_append_left _ z)⟩
  have pw : ∀ i ∈ pi, (L2.wipe σ vs)[i]? = σ[i]? := fun i z => wipe_out (hpi i z)
  -- the invariant
  let Inv : Nat → Wd → Hp → Mem → List Addr → List V → List E.D → List Addr → Prop := fun i W2 H2 m2 fp2 ws acc fa =>
    PostS X.K CT pi W1 H1 σ fp1 m2 (L2.wipe σ vs) W2 H2 fp2 ∧ H2 D = some (.lst ws) ∧ RepL X.K W2 H2 ws acc fa ∧ (fp2 ++ (D :: fa)).Nodup ∧ Own W2 H2 (D :: fa) ∧ (∀ a ∈ fa, a ∈ fp1 ∨ H1 a = none) ∧ (∀ v ∈ vs, v < m2.env.length → m2.env[v]? = some .und) ∧ m2.env.length = m1.env.length ∧ lcM ok vs b tt el (xs.drop i) acc m2 = .ok (res, mE)
  refine ⟨fun i n H2 => n = xs.length - i ∧ ∃ W2 m2 fp2 ws acc fa, Inv i W2 H2 m2 fp2 ws acc fa, ⟨xs.length, rfl, ?_⟩, fun i n H2 ⟨hn, W2, m2, fp2, ws, acc, fa, p2, hd, la, nd, ow, sb, un, ln, e3⟩ => ?_⟩
  · obtain ⟨fp3, r3, s3⟩ := wiped p1.rel rfl
    have x := ext_upd (W := W1) (o := .lst []) hD
    have nD : ∀ a ∈ fp3, a ≠ D := fun a z y => (r3.own a z).2 (by rw [y]; exact hD)
    refine ⟨W1, ⟨undL vs m1.env, m1.hs⟩, fp3, [], [], [], ⟨r3.ext x off_nil (fun a _ z => by cases z) rfl (fix_upd r3.fix), x.sub (fun a z => by cases z), fun a z => .inl (s3 a z), pw, by rw [L2.wipe_length]⟩, upd_same, .nil, ?_, ?_, (fun a z => by cases z), fun v mv hl => undL_get _ _ (by rw [undL_length] at hl; exact hl) vs mv, undL_length _ _, e2⟩
    · rw [List.nodup_append]
      refine ⟨r3.nd, by simp, fun a z b y => ?_⟩
      rw [List.mem_singleton.mp y]
      exact nD a z
    · intro a z
      rw [List.mem_singleton.mp z]
      exact ⟨fun y => p1.rel.fix D y hD, by rw [upd_same]; exact fun z => by cases z⟩
  have okrun : ok m2 → _ := fun o => run m2 (L2.wipe σ vs) W2 H2 fp2 p2 o i
  have ndD : D ∉ fp2 := fun z => by
    rw [List.nodup_append] at nd
    exact nd.2.2 D z D (List.mem_cons_self ..) rfl
  cases hx : xs[i]? with
  | none =>
    have hl : xs.length ≤ i := by simpa using hx
    rw [List.drop_of_length_le hl] at e3
    obtain ⟨o, e3⟩ := Res.ifP_eq e3
    cases e3
    refine .inl ⟨(okrun o).2 hl, k _ W2 H2 fp2 (D :: fa) ?_⟩
    obtain ⟨f, g, rfl, h1, h2⟩ := p2.rel.s
    have hidE : ∀ v ∈ vs, m1.env.getD v .und = .und ∨ ∃ x, σ[v]? = some (some x) ∧ RepD X.K W2 H2 x (m1.env.getD v .und) [] := fun v mv => (hidR v mv).imp id fun ⟨x, s, r⟩ => ⟨x, s, r.ext p2.ext p1.rel.off fun a z => by cases z⟩
    have hback : RepS X.K W2 H2 σ (restore m1.env vs mE.env) f := by
      have hin : ∀ v ∈ vs, v < mE.env.length := fun v mv => by
        rw [ln]
        exact of_decide_eq_true (Bool.and_eq_true_iff.mp ((List.all_eq_true.mp hid) v mv)).1
      exact h1.unwipe hvs (fun v mv => un v mv (hin v mv)) hidE
    refine ⟨⟨⟨f, g, rfl, hback, h2⟩, p2.rel.nd, p2.rel.own, p2.rel.fix⟩, .lstO hd la, nd, ow, p1.ext.trans p2.ext p1.sub, fun a z => ?_⟩
    have s12 : ∀ a, a ∈ fp1 ∨ H1 a = none → a ∈ fp ∨ H a = none := fun a z => z.elim (p1.sub a) fun y => .inr (p1.ext.there a y)
    rcases List.mem_append.mp z with z | z
    · exact s12 a (p2.sub a z)
    · rcases List.mem_cons.mp z with z | z
      · subst z
        exact .inr (p1.ext.there a hD)
      · exact s12 a (sb a z)
  | some x =>
    obtain ⟨hl, hx'⟩ := List.getElem?_eq_some_iff.mp hx
    rw [List.drop_eq_getElem_cons hl, hx'] at e3
    obtain ⟨o, e3⟩ := Res.ifP_eq e3
    obtain ⟨m3, e4, e3⟩ := Res.bind_eq e3
    obtain ⟨⟨c, m4⟩, e5, e3⟩ := Res.bind_eq e3
    obtain ⟨g, y⟩ := (okrun o).1 x hx
    refine .inr ⟨g, fun H' => ∃ W2 m2 fp2 ws acc fa, Inv (i + 1) W2 H' m2 fp2 ws acc fa, fun H' q => ⟨n - 1, by omega, by omega, q⟩, fun v H3 hy => ?_⟩
    obtain ⟨W3, rv, x3, i3, fx3⟩ := y v H3 hy
    have r3 : Rel X.K CT W3 H3 (L2.wipe σ vs) m2 fp2 := p2.rel.ext x3 off_nil (fun a _ z => by cases z) i3 fx3
    refine ⟨W3, m2, fp2, x, [], m3, r3, rv, by rw [List.append_nil]; exact p2.rel.nd, Own.nil, e4, fun σ4 W4 H4 fp4 p4 => ?_⟩
    rw [List.append_nil] at p4
    have ew : L2.wipe σ4 vs = L2.wipe σ vs := by
      have := wipe_eq (σ := L2.wipe σ vs) (σ2 := σ4) p4.len (vs := vs) fun j hj => by
        by_cases hjl : j < X.N.length
        · exact p4.pin j (hpin j hjl hj)
        · have l1 : (L2.wipe σ vs).length = X.N.length := by rw [L2.wipe_length]; exact hσ
          rw [List.getElem?_eq_none (by rw [p4.len, l1]; omega), List.getElem?_eq_none (by rw [l1]; omega)]
      rw [this]
      exact wipe_eq (by rw [L2.wipe_length]) fun j hj => wipe_out hj
    refine ⟨ew, W4, m3, fp4, c, m4, p4.rel, e5, fun W5 H5 fp5 p5 => ?_⟩
    -- from H2 to H5
    have x25 : Ext W2 H2 W5 H5 fp2 := ((x3.sub (fq := fp2) fun a z => by cases z).trans p4.ext (fun a z => .inl z)).trans p5.ext fun a z => (p4.sub a z).imp id (x3.there a)
    have s25 : ∀ a ∈ fp5, a ∈ fp2 ∨ H2 a = none := fun a z => by
      rcases p5.sub a z with z | z
      · exact (p4.sub a z).imp id (x3.there a)
      · exact .inr (x3.there a (p4.ext.there a z))
    have off2 := p2.rel.off
    have nd' := nd
    rw [List.nodup_append] at nd'
    have farA : ∀ a ∈ D :: fa, a ∉ fp2 := fun a z y => nd'.2.2 a y a z rfl
    have ow5 := ow.ext x25 farA
    have hd5 : H5 D = some (.lst ws) := x25.keep D _ hd (farA D (List.mem_cons_self ..))
    have la5 := la.ext x25 off2 fun a z => farA a (List.mem_cons_of_mem _ z)
    have far5 : ∀ a ∈ D :: fa, a ∉ fp5 := fun a z y => by
      rcases s25 a y with y | y
      · exact farA a z y
      · exact (ow a z).2 y
    have len4 : ∀ {σ2 W2 H2 m2 fp2}, Rel X.K CT W2 H2 σ2 m2 fp2 → σ2.length = σ.length → m2.env.length = m1.env.length := fun r el => by
      obtain ⟨f, g, _, h1, _⟩ := r.s
      rw [← h1.length, el, lenEnv]
    have lenσ4 : σ4.length = σ.length := by rw [p4.len, L2.wipe_length]
    cases c with
    | false =>
      refine iteF ?_
      rw [if_neg Bool.false_ne_true] at e3
      obtain ⟨fp6, r6, s6⟩ := wiped p5.rel ew
      refine ⟨W5, ⟨undL vs m4.env, m4.hs⟩, fp6, ws, acc, fa, ⟨r6, p2.ext.trans x25 p2.sub, subT p2.sub (fun a z => s25 a (s6 a z)) p2.ext.there, pw, by rw [L2.wipe_length]⟩, hd5, la5, ?_, ow5, sb, fun v mv hl => undL_get _ _ (by rw [undL_length] at hl; exact hl) vs mv, ?_, e3⟩
      · rw [List.nodup_append]
        exact ⟨r6.nd, nd'.2.1, fun a z b y e => far5 b y (by rw [← e]; exact s6 a z)⟩
      · rw [undL_length]
        exact len4 p5.rel lenσ4
    | true =>
      refine iteT ?_
      rw [if_pos rfl] at e3
      obtain ⟨⟨dr, m6⟩, e6, e3⟩ := Res.bind_eq e3
      obtain ⟨hsz, e3⟩ := Res.when_eq e3
      refine ⟨W5, m4, fp5, dr, m6, p5.rel, e6, fun y6 W6 H6 fp6 fd6 p6 => ?_⟩
      have hd6 : H6 D = some (.lst ws) := p6.ext.keep D _ hd5 (far5 D (List.mem_cons_self ..))
      have la6 := la5.ext p6.ext p5.rel.off fun a z => far5 a (List.mem_cons_of_mem _ z)
      have ow6 := ow5.ext p6.ext far5
      have far6 : ∀ a ∈ D :: fa, a ∉ fp6 ++ fd6 := fun a z y => by
        rcases p6.sub a y with y | y
        · exact far5 a z y
        · exact (ow5 a z).2 y
      refine ⟨ws, hd6, by rw [la.length]; exact of_decide_eq_true hsz, ?_⟩
      have xD : Ext W6 H6 W6 (upd H6 D (.lst (ws ++ [y6]))) [D] := ⟨fun _ h => h, fun _ _ h => h, fun a o h n => by rw [upd_ne (fun z => n (by simp [z]))]; exact h, fun _ h => .inl h, fun a h => by
        by_cases e : a = D
        · subst e; rw [upd_same] at h; cases h
        · rw [upd_ne e] at h; exact h⟩
      have offD : Off W6 [D] := fun a z => by
        rw [List.mem_singleton.mp z]
        exact (ow6 D (List.mem_cons_self ..)).1
      have nfa : ∀ a ∈ fa, a ∉ [D] := fun a z y => by
        rw [List.mem_singleton.mp y] at z
        exact (List.nodup_cons.mp nd'.2.1).1 z
      have nf6 : ∀ a ∈ fp6 ++ fd6, a ∉ [D] := fun a z y => by
        rw [List.mem_singleton.mp y] at z
        exact far6 D (List.mem_cons_self ..) z
      have fixD : Fix W6 (upd H6 D (.lst (ws ++ [y6]))) := fix_upd p6.rel.fix
      obtain ⟨fp7, r7, s7⟩ := wiped p6.rel ew
      have r8 := r7.ext xD offD (fun a z => nf6 a (List.mem_append_left _ (s7 a z))) rfl fixD
      have la8 := (la6.app (RepL.cons p6.rep .nil)).ext xD offD fun a z => by
        rw [List.append_nil] at z
        rcases List.mem_append.mp z with z | z
        · exact nfa a z
        · exact nf6 a (List.mem_append_right _ z)
      rw [List.append_nil] at la8
      have x26 : Ext W2 H2 W6 H6 fp2 := x25.trans p6.ext s25
      have x28 : Ext W1 H1 W6 (upd H6 D (.lst (ws ++ [y6]))) fp1 := ⟨fun a h => p2.ext.fm a h |> x26.fm a, fun n a h => x26.im n a (p2.ext.im n a h), fun a o h n => by
          have e : a ≠ D := fun e => by subst e; rw [hD] at h; cases h
          rw [upd_ne e]
          exact (p2.ext.trans x26 p2.sub).keep a o h n, fun a h => (p2.ext.trans x26 p2.sub).fnew a h, fun a h => (p2.ext.trans x26 p2.sub).there a (xD.there a h)⟩
      have s26 : ∀ a ∈ fp6 ++ fd6, a ∈ fp1 ∨ H1 a = none := fun a z => by
        rcases p6.sub a z with z | z
        · rcases s25 a z with z | z
          · exact p2.sub a z
          · exact .inr (p2.ext.there a z)
        · exact .inr (p2.ext.there a (x25.there a z))
      refine ⟨W6, ⟨undL vs m6.env, m6.hs⟩, fp7, ws ++ [y6], acc ++ [dr], fa ++ fd6, ⟨r8, x28, fun a z => s26 a (List.mem_append_left _ (s7 a z)), pw, by rw [L2.wipe_length]⟩, upd_same, la8, ?_, ?_, fun a z => ?_, fun v mv hl => undL_get _ _ (by rw [undL_length] at hl; exact hl) vs mv, ?_, e3⟩
      · have nd6 := p6.nd
        rw [List.nodup_append] at nd6
        rw [List.nodup_append, List.nodup_cons, List.nodup_append]
        refine ⟨r7.nd, ⟨fun z => ?_, (List.nodup_cons.mp nd'.2.1).2, nd6.2.1, fun a z b y e => ?_⟩, fun a z b y e => ?_⟩
        · rcases List.mem_append.mp z with z | z
          · exact (List.nodup_cons.mp nd'.2.1).1 z
          · exact far6 D (List.mem_cons_self ..) (List.mem_append_right _ z)
        · exact far6 a (List.mem_cons_of_mem _ z) (by rw [e]; exact List.mem_append_right _ y)
        · subst e
          rcases List.mem_cons.mp y with y | y
          · exact far6 D (List.mem_cons_self ..) (List.mem_append_left _ (by rw [← y]; exact s7 a z))
          · rcases List.mem_append.mp y with y | y
            · exact far6 a (List.mem_cons_of_mem _ y) (List.mem_append_left _ (s7 a z))
            · exact nd6.2.2 a (s7 a z) a y rfl
      · intro a z
        rcases List.mem_cons.mp z with z | z
        · subst z
          exact ⟨(ow6 a (List.mem_cons_self ..)).1, by rw [upd_same]; exact fun z => by cases z⟩
        · rcases List.mem_append.mp z with z | z
          · exact (Own.ext (fun a z => ow6 a (List.mem_cons_of_mem _ z)) xD nfa) a z
          · exact (p6.own.ext xD fun a z => nf6 a (List.mem_append_right _ z)) a z
      · rcases List.mem_append.mp z with z | z
        · exact sb a z
        · exact s26 a (List.mem_append_right _ z)
      · rw [undL_length]
        exact len4 p6.rel lenσ4
theorem pe_weakN {e : Expr} {t t' : TE} (h : PE X e t) (k : ∀ σ H Q, σ.length = X.N.length → t' σ H Q → t σ H Q) : PE X e t' := ⟨fun pins s σ H Q I q => h.run pins s σ H Q I (k σ H Q I.len q)⟩
theorem ps_weakN {e : Stmt} {t t' : TS} (h : PS X e t) (k : ∀ D σ H, σ.length = X.N.length → t' D σ H → t D σ H) : PS X e t' := ⟨fun pins s σ H D I q => h.run pins s σ H D I (k D σ H I.len q)⟩
theorem me_lc (hc : X.calm = true) (hN : X.N.Nodup) (hi : MI X CT pi tg iter it) (ok : BlkOk X.N X.env.scope scope own)
    (hg : ∀ (s : Shared) (H : Hp) (C : Addr) (cl : List (Str × Addr)) (fp : List Addr), MG (X.blk s H scope (compEnvC scope cl C X.env) fp) CT pin tg b) (ht : ∀ (s : Shared) (H : Hp) (C : Addr) (cl : List (Str × Addr)) (fp : List Addr), MTs (X.blk s H scope (compEnvC scope cl C X.env) fp) CT ifs tt)
    (he : ∀ (s : Shared) (H : Hp) (C : Addr) (cl : List (Str × Addr)) (fp : List Addr), ME (X.blk s H scope (compEnvC scope cl C X.env) fp) CT elt el)
    (hvs : (own.map (·.2)).Nodup) (hpi : ∀ i ∈ pi, i ∉ own.map (·.2)) (hpin : ∀ i, i < X.N.length → i ∉ own.map (·.2) → i ∈ pin) (hs : ∀ x, foldedSetIterable iter X.env x = pure x := by intro _; rfl) :
    ME X CT (.ListComp elt [⟨tg, iter, ifs, 0⟩] scope pos) (mLc it (own.map (·.2)) b tt el) :=
  pe_weakN (pe_lc (g := tG X.K CT pin b) (tt := tT X.K CT tt) (te := tM X.K CT el) hc hN hi ok hg ht he hs) (tlc hvs hpi hpin)
theorem mst_setLc {i : Nat} {y : Str} {py : Pos} {pn : List Nat} (hc : X.calm = true) (hN : X.N.Nodup) (hy : X.N[i]? = some y) (hyl : X.env.scope.names.lookup y = some .local) (hp : i ∉ pn)
    (hsw : swapsWith (.ListComp elt [⟨tg, iter, ifs, 0⟩] scope pos) (some (.Name y py)) spos.line X.env = pure true) (hi : MI X CT pi tg iter it) (ok : BlkOk X.N X.env.scope scope own)
    (hg : ∀ (s : Shared) (H : Hp) (C : Addr) (cl : List (Str × Addr)) (fp : List Addr), MG (X.blk s H scope (compEnvC scope cl C X.env) fp) CT pin tg b) (ht : ∀ (s : Shared) (H : Hp) (C : Addr) (cl : List (Str × Addr)) (fp : List Addr), MTs (X.blk s H scope (compEnvC scope cl C X.env) fp) CT ifs tt)
    (he : ∀ (s : Shared) (H : Hp) (C : Addr) (cl : List (Str × Addr)) (fp : List Addr), ME (X.blk s H scope (compEnvC scope cl C X.env) fp) CT elt el)
    (hvs : (own.map (·.2)).Nodup) (hpi : ∀ i ∈ pi, i ∉ own.map (·.2)) (hpin : ∀ i, i < X.N.length → i ∉ own.map (·.2) → i ∈ pin) (hs : ∀ x, foldedSetIterable iter X.env x = pure x := by intro _; rfl) :
    MSt X CT pn (.Assign [.Name y py] (.ListComp elt [⟨tg, iter, ifs, 0⟩] scope pos) spos) (sAsg (mLc it (own.map (·.2)) b tt el) (bName i)) := ps_weakN (ps_setLc (g := tG X.K CT pin b) (tt := tT X.K CT tt) (te := tM X.K CT el) hc hN hy hyl hsw hi ok hg ht he hs) fun D σ H hσ ⟨W, m, fp, fl, m', rel, e, k⟩ => by
  obtain ⟨⟨d, m1⟩, e1, e⟩ := Res.bind_eq e
  obtain ⟨m2, e2, e⟩ := Res.bind_eq e
  cases e
  refine tlc hvs hpi hpin σ H _ hσ ⟨W, m, fp, d, m1, rel, e1, fun v W1 H1 fp1 fd p => ?_⟩
  exact bName_rep hp p.rel p.rep p.nd p.own e2 fun σ' W' H' fp' q => k σ' W' H' fp' ⟨q.rel, p.ext.trans q.ext p.sub, subT p.sub q.sub p.ext.there, q.pin, q.len⟩
end
end E
/-! EngK: builtins, changes in place, defs -/
namespace E
open PySem L2

section
variable {X : Cx}
@[simp] def dLen : List D → Res D
  | [.lst _ xs] => .ok (.int xs.length)
  | [.tup xs] => .ok (.int xs.length)
  | [.str y] => .when (decide (y.length ≤ sizeLine)) (.ok (.int y.length))
  | _ => .fail
theorem cd_len : CallD X (.builtin "len") dLen := ⟨_, call_len, fun W H xs ds fs d Q x0 l e k => by
  unfold dLen at e; split at e
  · cases e
    cases l with | cons r l => cases l; obtain ⟨a, vs, g, rfl, s, l, _⟩ := r.lst; exact ⟨_, _, rfl, .inl ⟨vs, s, rfl⟩, by rw [l.length]; exact k _ W H [] (New.sc x0 .int)⟩
  · cases e
    cases l with | cons r l => cases l; obtain ⟨a, vs, rfl, s, _, l⟩ := r.tupl; exact ⟨_, _, rfl, .inr ⟨vs, s, rfl⟩, by rw [l.length]; exact k _ W H [] (New.sc x0 .int)⟩
  · obtain ⟨h, e⟩ := Res.when_eq e
    cases e
    cases l with | cons r l => cases l; cases r; exact ⟨_, _, rfl, ⟨of_decide_eq_true h, rfl⟩, k _ W H [] (New.sc x0 .int)⟩
  · cases e⟩
@[simp] def dInt : List D → Res D
  | [.int i] => .ok (.int i)
  | [.bl b] => .ok (.int (if b then 1 else 0))
  | _ => .fail
theorem cd_int : CallD X (.type "int") dInt := ⟨_, call_int1, fun W H xs ds fs d Q x0 l e k => by
  unfold dInt at e; split at e
  · cases e
    cases l with | cons r l => cases l; cases r; exact .inl ⟨_, rfl, k _ W H [] (New.sc x0 .int)⟩
  · cases e
    cases l with | cons r l => cases l; cases r; exact .inr ⟨_, rfl, k _ W H [] (New.sc x0 .int)⟩
  · cases e⟩
@[simp] def dList : List D → Res D
  | [.lst _ xs] => .when (pureL xs) (.ok (.lst true xs))
  | [.tup xs] => .when (pureL xs) (.ok (.lst true xs))
  | _ => .fail
theorem cd_list : CallD X (.type "list") dList := ⟨_, call_list_of, fun W H xs ds fs d Q x0 l e k => by
  unfold dList at e; split at e
  · obtain ⟨h, e⟩ := Res.when_eq e
    cases e
    cases l with | cons r l => cases l; obtain ⟨a, vs, g, rfl, s, l, _⟩ := r.lst; obtain rfl := l.pure h; exact ⟨a, vs, rfl, .inl s, fun p hp => k _ _ _ _ (New.lst x0 hp l)⟩
  · obtain ⟨h, e⟩ := Res.when_eq e
    cases e
    cases l with | cons r l => cases l; obtain ⟨a, vs, rfl, s, _, l⟩ := r.tupl; obtain rfl := l.pure h; exact ⟨a, vs, rfl, .inr s, fun p hp => k _ _ _ _ (New.lst x0 hp l)⟩
  · cases e⟩
@[simp] def dTuple : List D → Res D
  | [.lst _ xs] => .when (pureL xs) (.ok (.tup xs))
  | [.tup xs] => .when (pureL xs) (.ok (.tup xs))
  | _ => .fail
theorem cd_tuple : CallD X (.type "tuple") dTuple := ⟨_, call_tuple_of, fun W H xs ds fs d Q x0 l e k => by
  unfold dTuple at e; split at e
  · obtain ⟨h, e⟩ := Res.when_eq e
    cases e
    cases l with | cons r l => cases l; obtain ⟨a, vs, g, rfl, s, l, _⟩ := r.lst; obtain rfl := l.pure h; exact ⟨a, vs, rfl, .inl ⟨s, fun p hp => k _ _ _ _ (New.tup x0 hp l)⟩⟩
  · obtain ⟨h, e⟩ := Res.when_eq e
    cases e
    cases l with | cons r l => cases l; obtain ⟨a, vs, rfl, s, z, l⟩ := r.tupl; obtain rfl := l.pure h; exact ⟨a, vs, rfl, .inr ⟨s, k _ W H [] (New.sc x0 (.tup z l))⟩⟩
  · cases e⟩
@[simp] def dMax2 : List D → Res D
  | [.int i, .int j] => .ok (.int (if j > i then j else i))
  | _ => .fail
@[simp] def dMin2 : List D → Res D
  | [.int i, .int j] => .ok (.int (if j < i then j else i))
  | _ => .fail
theorem cd_max2 (hc : X.calm = true) : CallD X (.builtin "max") dMax2 := ⟨_, call_max2 hc, fun W H xs ds fs d Q x0 l e k => by
  unfold dMax2 at e; split at e
  · cases e
    cases l with | cons r l => cases l with | cons r' l => cases l; cases r; cases r'; exact ⟨_, _, rfl, k _ W H [] (New.sc x0 .int)⟩
  · cases e⟩
theorem cd_min2 (hc : X.calm = true) : CallD X (.builtin "min") dMin2 := ⟨_, call_min2 hc, fun W H xs ds fs d Q x0 l e k => by
  unfold dMin2 at e; split at e
  · cases e
    cases l with | cons r l => cases l with | cons r' l => cases l; cases r; cases r'; exact ⟨_, _, rfl, k _ W H [] (New.sc x0 .int)⟩
  · cases e⟩
@[simp] def dAbs : List D → Res D
  | [.int i] => .ok (.int (if i < 0 then -i else i))
  | _ => .fail
theorem cd_abs : CallD X (.builtin "abs") dAbs := ⟨_, call_abs, fun W H xs ds fs d Q x0 l e k => by
  unfold dAbs at e; split at e
  · cases e
    cases l with | cons r l => cases l; cases r; exact ⟨_, rfl, k _ W H [] (New.sc x0 .int)⟩
  · cases e⟩
/-! isinstance -/
@[simp] def kindOf : D → Option String
  | .non => some "NoneType"
  | .bl _ => some "bool"
  | .int _ => some "int"
  | .str _ => some "str"
  | .tup _ => some "tuple"
  | .lst _ _ => some "list"
  | .dic _ _ => some "dict"
  | _ => none
/-- is a thing of the kind k one of the type n -/
def kindIs (k n : String) : Option Bool := kitB k n
@[simp] def dIsi : List D → Res D
  | [x, .ty n] => (Res.of ((kindOf x).bind fun k => kindIs k n)).bind fun b => .ok (.bl b)
  | _ => .fail
theorem sq_ty {K : PySem.W.Frag} {H : Hp} {a : Addr} {vs : List V} (h : SqL K H a vs) : TyX K H (.ref a) (.type "list") := by
  rcases h with (h | ⟨o, h⟩) | ⟨o, its, n, h, c, _⟩
  · exact .base (.lst h)
  · exact .base (.frz h)
  · exact .kList h c
theorem st_ty {K : PySem.W.Frag} {H : Hp} {a : Addr} {vs : List V} (h : SqT K H a vs) : TyX K H (.ref a) (.type "tuple") := by
  rcases h with (h | ⟨o, h⟩) | ⟨o, its, n, h, c, _⟩
  · exact .base (.tup h)
  · exact .fTuple h
  · exact .kTuple h c
theorem ty_rep {K : PySem.W.Frag} {W : Wd} {H : Hp} {v : V} {d : D} {g : List Addr} (r : RepD K W H v d g) : ∀ {k : String}, kindOf d = some k → TyX K H v (.type k) := by
  intro k e
  cases r with
  | non => cases e; exact .base .non
  | bl => cases e; exact .base (.bl _)
  | int => cases e; exact .base (.int _)
  | str => cases e; exact .base (.str _)
  | loc => cases e
  | ty => cases e
  | tup h l => cases e; exact st_ty h.sq
  | lstF h l => cases e; exact sq_ty h.sq
  | lstO h l => cases e; exact sq_ty (.inl (.inl h))
  | dkF _ h _ _ => cases e; exact .base (.dK h)
  | dtF _ h _ _ => cases e; exact .base (.dT h)
  | dkO h _ _ => cases e; exact .base (.dK h)
  | dtO h _ _ => cases e; exact .base (.dT h)
theorem cd_isi : CallD X (.builtin "isinstance") dIsi := ⟨_, call_isi, fun W H xs ds fs d Q x0 l e k => by
  unfold dIsi at e; split at e
  · obtain ⟨b, e1, e⟩ := Res.bind_eq e
    cases e
    have e1 := Res.of_eq e1
    rw [Option.bind_eq_some_iff] at e1
    obtain ⟨kk, e2, e1⟩ := e1
    cases l with | cons r l => cases l with | cons r' l =>
      cases l; cases r'
      exact ⟨_, _, _, _, b, rfl, .ty _, ty_rep r e2, kit_ty e1, k _ W H [] (New.sc x0 .bl)⟩
  · cases e⟩

/-! ### sorted: ints -/
def insI (i : Int) : List Int → List Int
  | [] => [i]
  | j :: r => if i ≤ j then i :: j :: r else j :: insI i r
def sortI : List Int → List Int
  | [] => []
  | i :: r => insI i (sortI r)
theorem insI_perm (i : Int) : ∀ r, (insI i r).Perm (i :: r)
  | [] => .refl _
  | j :: r => by
    unfold insI
    split
    · exact .refl _
    · exact (List.Perm.cons j (insI_perm i r)).trans (.swap i j r)
theorem sortI_perm : ∀ r, (sortI r).Perm r
  | [] => .refl _
  | i :: r => (insI_perm i _).trans (.cons i (sortI_perm r))
theorem insI_up (i : Int) : ∀ r : List Int, r.Pairwise (· ≤ ·) → (insI i r).Pairwise (· ≤ ·)
  | [], _ => List.pairwise_singleton _ _
  | j :: r, h => by
    rw [List.pairwise_cons] at h
    unfold insI
    split
    · rename_i q
      rw [List.pairwise_cons, List.pairwise_cons]
      refine ⟨fun a m => ?_, h⟩
      rcases List.mem_cons.mp m with m | m
      · omega
      · have := h.1 a m; omega
    · rename_i q
      rw [List.pairwise_cons]
      refine ⟨fun a m => ?_, insI_up i r h.2⟩
      rcases List.mem_cons.mp ((insI_perm i r).mem_iff.mp m) with m | m
      · omega
      · exact h.1 a m
theorem sortI_up : ∀ r : List Int, (sortI r).Pairwise (· ≤ ·)
  | [] => .nil
  | i :: r => insI_up i _ (sortI_up r)
theorem perm_up : ∀ {a b : List Int}, a.Perm b → a.Pairwise (· ≤ ·) → b.Pairwise (· ≤ ·) → a = b
  | [], b, p, _, _ => (List.Perm.eq_nil p.symm).symm
  | x :: a, [], p, _, _ => by cases (List.Perm.eq_nil p)
  | x :: a, y :: b, p, h, k => by
    rw [List.pairwise_cons] at h k
    have e : x = y := by
      have m1 := p.mem_iff.mp (List.mem_cons_self (a := x) (l := a))
      have m2 := p.mem_iff.mpr (List.mem_cons_self (a := y) (l := b))
      rcases List.mem_cons.mp m1 with m1 | m1
      · exact m1
      · rcases List.mem_cons.mp m2 with m2 | m2
        · exact m2.symm
        · have := h.1 y m2; have := k.1 x m1; omega
    subst e
    rw [perm_up (List.Perm.cons_inv p) h.2 k.2]
def toInts : List D → Option (List Int)
  | [] => some []
  | .int i :: r => (toInts r).map (i :: ·)
  | _ :: _ => none
theorem toInts_eq : ∀ {ds : List D} {ns : List Int}, toInts ds = some ns → ds = ns.map .int
  | [], ns, e => by cases e; rfl
  | .int i :: r, ns, e => by
    simp only [toInts, Option.map_eq_some_iff] at e
    obtain ⟨ms, e1, rfl⟩ := e
    rw [toInts_eq e1]; rfl
theorem repI {K : PySem.W.Frag} {W : Wd} {H : Hp} : ∀ {ns : List Int} {vs : List V} {g : List Addr}, RepL K W H vs (ns.map .int) g → vs = ns.map .int ∧ g = []
  | [], vs, g, l => by cases l; exact ⟨rfl, rfl⟩
  | n :: ns, vs, g, l => by
    cases l with | cons r l =>
      cases r
      obtain ⟨rfl, rfl⟩ := repI l
      exact ⟨rfl, rfl⟩
theorem repIs {K : PySem.W.Frag} {W : Wd} {H : Hp} : ∀ ns : List Int, RepL K W H (ns.map .int) (ns.map .int) []
  | [] => .nil
  | n :: ns => RepL.cons (f := []) .int (repIs ns)
@[simp] def dSortI : List D → Res D
  | [.lst _ xs] => (Res.of (toInts xs)).bind fun ns => .ok (.lst true ((sortI ns).map .int))
  | _ => .fail
theorem cd_sortI : CallD X (.builtin "sorted") dSortI := ⟨_, cr_sortedI, fun W H xs ds fs d Q x0 l e k => by
  unfold dSortI at e; split at e
  · obtain ⟨ns, e1, e⟩ := Res.bind_eq e
    cases e
    have e2 := toInts_eq (Res.of_eq e1)
    cases l with | cons r l =>
      cases l
      obtain ⟨a, vs, g, rfl, s, l, _⟩ := r.lst
      rw [e2] at l
      obtain ⟨rfl, _⟩ := repI l
      refine ⟨a, ns, rfl, s, fun ns' p pm up hp => ?_⟩
      obtain rfl := perm_up (pm.trans (sortI_perm ns).symm) up (sortI_up ns)
      exact k _ _ _ _ (New.lst x0 hp (repIs _))
  · cases e⟩
end
end E
/-! EngL: changes in place, defs, constants -/
namespace E
open PySem L2

section
variable {K : PySem.W.Frag} {CT : Nat → Addr} {W : Wd} {H : Hp} {σ : L2.St} {m : Mem} {fp fd : List Addr}
theorem RepL.set {vs : List V} {ds : List D} {v : V} {d : D} {f : List Addr} (r : RepD K W H v d f) : ∀ {g : List Addr}, RepL K W H vs ds g → ∀ j : Nat, ∃ g' rest, RepL K W H (vs.set j v) (ds.set j d) g' ∧ (g' ++ rest).Perm (g ++ f) := by
  induction vs generalizing ds with
  | nil => intro g l j; cases l; exact ⟨[], f, .nil, by simp⟩
  | cons w vs ih => intro g l j; cases l with
    | @cons _ d0 f0 _ ds g r0 l =>
      cases j with
      | zero =>
        refine ⟨f ++ g, f0, .cons r l, ?_⟩
        rw [List.perm_iff_count]; intro a; simp only [List.count_append]; omega
      | succ j =>
        obtain ⟨g', rest, l', pm⟩ := ih l j
        refine ⟨f0 ++ g', rest, .cons r0 l', ?_⟩
        rw [List.append_assoc, List.append_assoc]
        exact List.Perm.append_left f0 pm
/-- an owned list in a slot is changed -/
theorem slot_mut {i : Nat} {xs : List D} (rel : Rel K CT W H σ m fp) (he : m.env[i]? = some (.lst true xs)) (ndd : (fp ++ fd).Nodup) (ownd : Own W H fd) :
    ∃ a vs fx, σ[i]? = some (some (.ref a)) ∧ H a = some (.lst vs) ∧ RepL K W H vs xs fx ∧ (∀ b ∈ fx, b ∈ fp) ∧
      ∀ vs' xs' fx' rest, RepL K W H vs' xs' fx' → (fx' ++ rest).Perm (fx ++ fd) → ∃ fp', PostT K CT W H σ (fp ++ fd) { m with env := m.env.set i (.lst true xs') } W (upd H a (.lst vs')) fp' ∧ ((fp' ++ rest).Perm (fp ++ fd)) := by
  obtain ⟨f, g, rfl, h1, h2⟩ := rel.s
  obtain ⟨v, A, f1, B, rfl, s, r, k⟩ := h1.at he (fun z => by cases z)
  cases r with
  | @lstO a vs _ fx ha l =>
    refine ⟨a, vs, fx, s, ha, l, fun b z => by simp [z], fun vs' xs' fx' rest l' pm => ?_⟩
    have x : Ext W H W (upd H a (.lst vs')) [a] := ⟨fun _ h => h, fun _ _ h => h, fun b o h n => by rw [upd_ne (fun z => n (by simp [z]))]; exact h, fun _ h => .inl h, fun b h => by
      by_cases e : b = a
      · subst e; rw [upd_same] at h; cases h
      · rw [upd_ne e] at h; exact h⟩
    have ha' : a ∈ A ++ (a :: fx) ++ B ++ g := by simp
    have off : Off W [a] := fun b z => by rw [List.mem_singleton.mp z]; exact (rel.own a ha').1
    have cnt : ∀ b, (A ++ (a :: fx') ++ B ++ g ++ rest).count b = (A ++ (a :: fx) ++ B ++ g ++ fd).count b := fun b => by
      have := pm.count_eq b
      simp only [List.count_append, List.count_cons] at this ⊢
      omega
    have pmT : (A ++ (a :: fx') ++ B ++ g ++ rest).Perm (A ++ (a :: fx) ++ B ++ g ++ fd) := List.perm_iff_count.mpr cnt
    have ndT := pmT.nodup_iff.mpr ndd
    rw [List.nodup_append] at ndT
    have nd2 := ndT.1
    have once : ∀ b ∈ A ++ B ++ g ++ fx', b ∉ [a] := fun b z y => by
      rw [List.mem_singleton.mp y] at z
      have c1 := List.nodup_iff_count.mp nd2 a
      have c2 := List.count_pos_iff.mpr z
      simp only [List.count_append, List.count_cons_self] at c1 c2
      omega
    have rp : RepD K W (upd H a (.lst vs')) (.ref a) (.lst true xs') (a :: fx') := .lstO upd_same (l'.ext x off fun b z => once b (by simp [z]))
    have ks := k (v' := .ref a) x off (fun b z => once b (by simp only [List.mem_append] at z ⊢; exact .inl (.inl z))) rp
    rw [set_same s] at ks
    have memT : ∀ b ∈ A ++ (a :: fx') ++ B ++ g, b ∈ A ++ (a :: fx) ++ B ++ g ++ fd := fun b z => pmT.mem_iff.mp (List.mem_append_left _ z)
    refine ⟨A ++ (a :: fx') ++ B ++ g, ⟨⟨⟨_, g, rfl, ks, h2.ext x off fun b z => once b (by simp [z])⟩, nd2, fun b z => ?_, fix_upd rel.fix⟩, x.sub fun b z => by rw [List.mem_singleton.mp z]; simp, fun b z => .inl (memT b z)⟩, pmT⟩
    have ob : ¬ W.F b ∧ H b ≠ none := by
      rcases List.mem_append.mp (memT b z) with y | y
      · exact rel.own b y
      · exact ownd b y
    refine ⟨ob.1, ?_⟩
    by_cases e : b = a
    · subst e; rw [upd_same]; exact fun z => by cases z
    · rw [upd_ne e]; exact ob.2
end

@[simp] def D.isL : D → Bool
  | .lst _ _ => true
  | _ => false
def mAppN (i : Nat) (a : M D) : M D := fun m => (mqVar i m).bind fun d0 => Res.when d0.isL ((a m).bind fun r => (mqVar i r.2).bind fun d => match d with
  | .lst true xs => Res.when (decide (xs.length < sizeLine)) (.ok (.non, { r.2 with env := r.2.env.set i (.lst true (xs ++ [r.1])) }))
  | _ => .fail)
/-- x[k] = v, the list in a slot -/
def bSub (i : Nat) (q : MQ D) : D → Mem → Res Mem := fun d m => (q m).bind fun k => (mqVar i m).bind fun x => match x, k with
  | .lst true xs, .int k => (Res.of (ixN xs.length k)).bind fun j => .ok { m with env := m.env.set i (.lst true (xs.set j d)) }
  | _, _ => .fail
def sAug (i : Nat) (g : D → D → Res D) (e : M D) : MS := fun m => (mqVar i m).bind fun d0 => Res.when d0.pure ((e m).bind fun r => (g d0 r.1).bind fun d => Res.when (d.pure && decide (i < r.2.env.length)) (.ok (.nx, { r.2 with env := r.2.env.set i d })))
section
variable {X : Cx} {CT : Nat → Addr} {pin : List Nat} {e o : Expr} {es : List Expr} {i : Nat} {me : M D} {pos apos cpos : Pos} {q : MQ D} {g : D → D → Res D} {op : Operator}
theorem var_of {K : PySem.W.Frag} {W : Wd} {H : Hp} {σ : L2.St} {m : Mem} {fp : List Addr} {d : D} (rel : Rel K CT W H σ m fp) (e : mqVar i m = .ok d) : ∃ v f, σ[i]? = some (some v) ∧ RepD K W H v d f ∧ ∀ a ∈ f, a ∈ fp := by
  obtain ⟨q1, q2⟩ := mqVar_eq e
  obtain ⟨f, g, rfl, h1, h2⟩ := rel.s
  obtain ⟨v, A, f1, B, rfl, s, r, _⟩ := h1.at q1 q2
  exact ⟨v, f1, s, r, fun a z => by simp [z]⟩
theorem me_appN (ho : PE X o (tVar i)) (ha : ME X CT e me)
    (hbase : attributeBase o "append" X.env (eval o X.env) = eval o X.env := by rfl)
    (hfew : ((backTo cpos (starEach [e] X.env)).all (fun x => !x.1) && (backToKw cpos (keywordEach [] X.env)).all (fun x => x.1.isSome)
      && decide (([e] : List Expr).length + ([] : List Keyword).length + (if ([] : List Keyword).isEmpty then 0 else 1) < 30)) = true := by rfl)
    (hline : (apos.endLine == cpos.line) = true := by rfl) (hs : starEach [e] X.env = (false, eval e X.env) :: starEach [] X.env := by rfl) (hplain : (backTo cpos (starEach [] X.env)).any (·.1) = false := by rfl) :
    ME X CT (.Call (.Attribute o "append" apos) [e] [] cpos) (mAppN i me) :=
  pe_weak (pe_bm PySem.F.plainAttrs_list PySem.F.slot_list_append PySem.F.type_list_append mt_append ho (pa_cons ha pa_nil hs) hbase hfew hline hs hplain) fun σ H Q ⟨W, m, fp, d, m', rel, e, k⟩ => by
    obtain ⟨d0, e0, e⟩ := Res.bind_eq e
    obtain ⟨hL, e⟩ := Res.when_eq e
    obtain ⟨⟨d1, m1⟩, e1, e⟩ := Res.bind_eq e
    obtain ⟨d2, e2, e⟩ := Res.bind_eq e
    obtain ⟨v, f, s, r, _⟩ := var_of rel e0
    refine ⟨v, s, ?_, W, m, fp, d1, m1, rel, e1, fun y W1 H1 fp1 fd p => ?_⟩
    · cases d0 <;> simp [D.isL] at hL
      obtain ⟨a, vs, g, rfl, sq, _, _⟩ := r.lst
      exact .inl ⟨rfl, vs, sq⟩
    · dsimp only at e2 e
      split at e
      · rename_i xs
        obtain ⟨hl, e⟩ := Res.when_eq e
        cases e
        obtain ⟨a, vs, fx, s', ha, l, sb, kk⟩ := slot_mut p.rel (mqVar_eq e2).1 p.nd p.own
        rw [s] at s'
        cases s'
        obtain ⟨fp', pt, _⟩ := kk (vs ++ [y]) (xs ++ [d1]) (fx ++ fd) [] (by
          have := l.app (RepL.cons p.rep .nil)
          rw [List.append_nil] at this
          exact this) (by rw [List.append_nil])
        refine ⟨a, vs, y, rfl, rfl, ha, by rw [l.length]; exact of_decide_eq_true hl, k .non W1 _ fp' [] ?_⟩
        have s1 : ∀ b ∈ fp1 ++ fd, b ∈ fp ∨ H b = none := p.sub
        exact PostT.post ⟨pt.rel, p.ext.trans pt.ext s1, subT s1 pt.sub p.ext.there⟩ (Post.mk0 pt.rel .non)
      · cases e
theorem mg_sub (ho : PE X o (tVar i)) (hi : MEQ X CT e q) (ha : ∀ v, assign (.Subscript o e pos) X.env v = (do
      let ov ← holding [v] (eval o X.env)
      let iv ← holding [v, ov] (eval e X.env)
      standAt pos
      holding [v, ov, iv] (setItem ov iv v)
      release [v, ov, iv] []) := by intro _; rfl) : MG X CT pin (.Subscript o e pos) (bSub i q) := by
  refine ⟨fun pins s σ H v u Q I r h => (pg_sub ho hi set_list ha).run pins s σ H v u Q I r ?_⟩
  obtain ⟨W, m, fp, d, fd, m', rel, rp, nd, own, e, k⟩ := h
  obtain ⟨kd, e1, e⟩ := Res.bind_eq e
  obtain ⟨xd, e2, e⟩ := Res.bind_eq e
  obtain ⟨v0, f0, s0, r0, _⟩ := var_of rel e2
  refine ⟨v0, s0, W, m, fp, kd, rel, e1, fun kv W1 H1 fk p => ?_⟩
  have rk := p.rep
  split at e
  · obtain ⟨j, e3, e⟩ := Res.bind_eq e
    cases e
    have e3 := Res.of_eq e3
    cases rk
    have rd := rp.ext p.ext off_nil fun a _ z => by cases z
    obtain ⟨a, vs, fx, s', ha, l, sb, kk⟩ := slot_mut p.rel (mqVar_eq e2).1 nd (own.ext p.ext fun a _ z => by cases z)
    rw [s0] at s'
    cases s'
    have hj := (ixN_seq e3).2.1
    obtain ⟨fx', rest, l', pm⟩ := l.set rd j
    obtain ⟨fp', pt, _⟩ := kk _ _ fx' rest l' pm
    refine ⟨a, vs, _, j, rfl, rfl, ha, by rw [l.length]; exact e3, k σ W1 _ fp' ⟨pt.rel, (p.ext.sub fun a z => by cases z).trans pt.ext fun a z => .inl z, fun b z => ?_, fun _ _ => rfl, rfl⟩⟩
    rcases pt.sub b z with y | y
    · exact .inl y
    · exact .inr (p.ext.there b y)
  · cases e
end
end E
/-! EngM: a def by its mirror -/
namespace E
open PySem L2 PySem.Spec PyProof.Rows

def D.defd : D → Bool
  | .und => false
  | _ => true
/-- what the arguments are behind the body: a parameter that the body stores to must have been pure -/
@[simp] def outs (pin : List Nat) : Nat → List D → List D → Res (List D)
  | _, [], _ => .ok []
  | j, d :: ds, e :: es => if pin.contains j = true then Res.when e.defd ((outs pin (j + 1) ds es).bind fun r => .ok (e :: r)) else Res.when d.pure ((outs pin (j + 1) ds es).bind fun r => .ok (d :: r))
  | _, _ :: _, [] => .fail
@[simp] def D.rtv : Fl → Res D
  | .nx => .ok .non
  | .rt d => .ok d
  | _ => .fail
def mDef (n N : Nat) (pin : List Nat) (body : MS) : CallM := fun ds hs => Res.when (decide (ds.length = n)) ((body ⟨ds ++ List.replicate (N - n) .und, hs⟩).bind fun r => (D.rtv r.1).bind fun d => (outs pin 0 ds r.2.env).bind fun ds' => .ok (d, ds', r.2.hs))
theorem mDef_len {n N : Nat} {pin : List Nat} {body : MS} : ∀ ds hs o, mDef n N pin body ds hs = .ok o → ds.length = n := fun ds hs o h => of_decide_eq_true (Res.when_eq h).1
section
variable {K : PySem.W.Frag} {CT : Nat → Addr} {W W' : Wd} {H H' : Hp} {σ : L2.St}
theorem RepS.init : ∀ {vs : List V} {ds : List D} {g : List Addr}, RepL K W H vs ds g → ∀ k : Nat, RepS K W H (vs.map some ++ List.replicate k none) (ds ++ List.replicate k .und) g
  | _, _, _, .nil, k => by
    show RepS K W H (List.replicate k none) (List.replicate k .und) []
    induction k with
    | zero => exact .nil
    | succ k ih => exact .und ih
  | _, _, _, .cons r l, k => .cons r (RepS.init l k)
theorem outs_rep {pin : List Nat} : ∀ {σ : L2.St} {es : List D} {f : List Addr}, RepS K W' H' σ es f → ∀ {vs : List V} {ds : List D} {j : Nat} {ds' : List D}, vs.length = ds.length → outs pin j ds es = .ok ds' →
    (∀ t v, vs[t]? = some v → pin.contains (j + t) = true → σ[t]? = some (some v)) → (∀ t v d, vs[t]? = some v → ds[t]? = some d → pin.contains (j + t) = false → d.pure = true → RepD K W' H' v d []) → ∃ g rest, RepL K W' H' vs ds' g ∧ (g ++ rest).Perm f := by
  intro σ es f h
  induction h with
  | nil =>
    intro vs ds j ds' hl e hp hu
    cases ds with
    | nil =>
      cases vs with
      | nil => cases e; exact ⟨[], [], .nil, .refl _⟩
      | cons v vs => cases hl
    | cons d ds => cases e
  | @und x σ es g hs ih =>
    intro vs ds j ds' hl e hp hu
    cases ds with
    | nil =>
      cases vs with
      | nil => cases e; exact ⟨[], g, .nil, by simp⟩
      | cons v vs => cases hl
    | cons d ds =>
      cases vs with
      | nil => cases hl
      | cons v vs =>
        unfold outs at e
        split at e
        · obtain ⟨z, _⟩ := Res.when_eq e
          cases z
        · rename_i hc
          obtain ⟨pd, e⟩ := Res.when_eq e
          obtain ⟨r, e1, e⟩ := Res.bind_eq e
          cases e
          obtain ⟨g', rest, l, pm⟩ := ih (by simpa using hl) e1 (fun t v h1 h2 => by
            have := hp (t + 1) v (by simpa using h1) (by rw [show j + (t + 1) = j + 1 + t by omega]; exact h2)
            simpa using this) (fun t v d h1 h2 h3 h4 => hu (t + 1) v d (by simpa using h1) (by simpa using h2) (by rw [show j + (t + 1) = j + 1 + t by omega]; exact h3) h4)
          have r0 := hu 0 v d rfl rfl (by simpa using hc) pd
          exact ⟨g', rest, RepL.cons (f := []) r0 l, pm⟩
  | @cons w σ e0 es f0 g r hs ih =>
    intro vs ds j ds' hl e hp hu
    cases ds with
    | nil =>
      cases vs with
      | nil => cases e; exact ⟨[], f0 ++ g, .nil, by simp⟩
      | cons v vs => cases hl
    | cons d ds =>
      cases vs with
      | nil => cases hl
      | cons v vs =>
        unfold outs at e
        split at e
        · rename_i hc
          obtain ⟨_, e⟩ := Res.when_eq e
          obtain ⟨r', e1, e⟩ := Res.bind_eq e
          cases e
          obtain ⟨g', rest, l, pm⟩ := ih (by simpa using hl) e1 (fun t v h1 h2 => by
            have := hp (t + 1) v (by simpa using h1) (by rw [show j + (t + 1) = j + 1 + t by omega]; exact h2)
            simpa using this) (fun t v d h1 h2 h3 h4 => hu (t + 1) v d (by simpa using h1) (by simpa using h2) (by rw [show j + (t + 1) = j + 1 + t by omega]; exact h3) h4)
          have e2 := hp 0 v rfl (by simpa using hc)
          have e3 : w = v := by simpa using e2
          subst e3
          refine ⟨f0 ++ g', rest, .cons r l, ?_⟩
          rw [List.append_assoc]
          exact List.Perm.append_left f0 pm
        · rename_i hc
          obtain ⟨pd, e⟩ := Res.when_eq e
          obtain ⟨r', e1, e⟩ := Res.bind_eq e
          cases e
          obtain ⟨g', rest, l, pm⟩ := ih (by simpa using hl) e1 (fun t v h1 h2 => by
            have := hp (t + 1) v (by simpa using h1) (by rw [show j + (t + 1) = j + 1 + t by omega]; exact h2)
            simpa using this) (fun t v d h1 h2 h3 h4 => hu (t + 1) v d (by simpa using h1) (by simpa using h2) (by rw [show j + (t + 1) = j + 1 + t by omega]; exact h3) h4)
          have r0 := hu 0 v d rfl rfl (by simpa using hc) pd
          refine ⟨g', f0 ++ rest, RepL.cons (f := []) r0 l, ?_⟩
          refine List.Perm.trans ?_ (List.Perm.append_left f0 pm)
          rw [← List.append_assoc, ← List.append_assoc]
          exact List.Perm.append_right rest List.perm_append_comm
end
/-- the body, with no def in sight: from the promise to its reading -/
theorem body_ok {K : PySem.W.Frag} {CT : Nat → Addr} {N : List Str} {n : Nat} {pin : List Nat} {b : MS} {vs : List V} {H : Hp} {Q : VK} {wx : XK} (h : spM K CT n (mDef n N.length pin b) vs H Q wx) :
    tS K CT pin b { nx := fun _ H' => Q .non H', rt := Q } (L2.start N vs) H := by
  obtain ⟨W, ds, hs, fd, fh, r, ds', hs', hn, l, k, nd, own, fix, e, q⟩ := h
  obtain ⟨_, e⟩ := Res.when_eq e
  obtain ⟨⟨fl, m'⟩, e1, e⟩ := Res.bind_eq e
  obtain ⟨d, e2, e⟩ := Res.bind_eq e
  obtain ⟨ds1, e3, e⟩ := Res.bind_eq e
  cases e
  have hvl : vs.length = ds.length := l.length
  have rs := RepS.init l (N.length - n)
  have es : L2.start N vs = vs.map some ++ List.replicate (N.length - n) none := by
    unfold L2.start; rw [hvl, hn]
  rw [es]
  have rel : Rel K CT W H (vs.map some ++ List.replicate (N.length - n) none) ⟨ds ++ List.replicate (N.length - n) .und, hs⟩ (fd ++ fh) := ⟨⟨fd, fh, rfl, rs, k⟩, nd, own, fix⟩
  have fin : ∀ v σ' W' H' fp' fr, PostR K CT pin W H (vs.map some ++ List.replicate (N.length - n) none) (fd ++ fh) v r m' σ' W' H' fp' fr → Q v H' := fun v σ' W' H' fp' fr p => by
    obtain ⟨f, g, rfl, h1, h2⟩ := p.rel.s
    have off := rel.off
    obtain ⟨g1, rest, l1, pm⟩ := outs_rep h1 hvl e3 (fun t v ht hc => by
        have hlt : t < (vs.map some).length := by simpa using (List.getElem?_eq_some_iff.mp ht).1
        rw [Nat.zero_add] at hc
        rw [p.pin t (by simpa using hc), List.getElem?_append_left hlt, List.getElem?_map, ht]
        rfl) (fun t v d ht hd _ pd => by
        obtain ⟨v', f', hv, rd, _⟩ := l.get hd
        rw [ht] at hv
        cases hv
        obtain rfl := rd.pure pd
        exact rd.ext p.ext off fun a z => by cases z)
    have pm2 : ((g1 ++ g) ++ fr ++ rest).Perm ((f ++ g) ++ fr) := by
      rw [List.perm_iff_count]; intro a
      have := pm.count_eq a
      simp only [List.count_append] at this ⊢; omega
    have nd2 := pm2.nodup_iff.mpr p.nd
    rw [List.nodup_append] at nd2
    have mem : ∀ a ∈ (g1 ++ g) ++ fr, a ∈ (f ++ g) ++ fr := fun a z => pm2.mem_iff.mp (List.mem_append_left _ z)
    refine q v W' H' g1 g fr l1 h2 p.rep nd2.1 (fun a z => ?_) p.rel.fix p.ext fun a z => p.sub a (mem a z)
    rcases List.mem_append.mp (mem a z) with y | y
    · exact p.rel.own a y
    · exact p.own a y
  refine ⟨W, _, fd ++ fh, fl, m', rel, e1, ?_⟩
  cases fl with
  | nx =>
    cases e2
    exact fun σ' W' H' fp' p => fin .non σ' W' H' fp' [] (p.r0 .non)
  | rt d =>
    cases e2
    exact fun v σ' W' H' fp' fr p => fin v σ' W' H' fp' fr p
  | bk => cases e2
  | ct => cases e2
section
variable {P : Program} {w : World} {K : PySem.W.Frag} {mg : Str → Option Value} {base : Heap} {CT : Nat → Addr}
theorem fun_ok {x qual : Str} {st : Stmt} {f : Addr} {fd : FuncData} {N ps : List Str} {k : Nat} {pin : List Nat} {b : MS} (F : Fun K x qual st f fd) (S : FnScope N ps (defScope st))
    (hbody : ∀ (cdv : Value) (A : Around) (outer : List Env) (s : Shared) (H : Hp) (wx : XK), Room k (A.deeper (envOfC qual (defScope st) s.heap.objs.size f cdv)) → MSs (cxOf CX0 P w K mg base N qual (defScope st) f cdv A outer s H wx).nox CT pin (defBody st) b) :
    FnOk P w K mg base CX0 (k + 1) f fd ps (spM K CT ps.length (mDef ps.length N.length pin b)) :=
  F.ok S (fun vs H Q E h => spM_len h) fun cdv A outer s H vs Q E hr h => ⟨_, hbody cdv A outer s H E hr, body_ok h⟩
end

/-! ### constants of the module -/
/-- a value that the top has written -/
inductive KD (K : PySem.W.Frag) : Value → D → Prop
  | non : KD K .none .non
  | bl {b} : KD K (.bool b) (.bl b)
  | int {i t} : KD K (.int i t) (.int i)
  | str {x t} : KD K (.str x t) (.str x)
  | ty {n} : KD K (.type n) (.ty n)
theorem kd_rep {K : PySem.W.Frag} {u : Value} {d : D} (h : KD K u d) : ∃ v, RelV v u ∧ ∀ W H, RepD K W H v d [] := by
  cases h with
  | non => exact ⟨.non, rfl, fun _ _ => .non⟩
  | bl => exact ⟨.bl _, rfl, fun _ _ => .bl⟩
  | int => exact ⟨.int _, ⟨_, rfl⟩, fun _ _ => .int⟩
  | str => exact ⟨.str _, ⟨_, rfl⟩, fun _ _ => .str⟩
  | ty => exact ⟨.ty _, rfl, fun _ _ => .ty⟩
section
variable {X : Cx} {CT : Nat → Addr} {pos : Pos}
theorem meq_glob {x : Str} {d : D} {u : Value} (hg : Gl X x) (hm : X.mg x = some u) (h : KD X.K u d) (hd : (x == ("__debug__" : Str)) = false := by decide) : MEQ X CT (.Name x pos) (mqC d) := by
  obtain ⟨v, r, rp⟩ := kd_rep h
  exact meq_c (pe_glob hg hm r hd) rp
theorem meq_ty {x : Str} {n : String} (hg : Gl X x) (hm : X.mg x = none) (hv : bootBuiltins x = some (.type n)) (hn : x ≠ "__name__" := by decide) (hd : (x == ("__debug__" : Str)) = false := by decide) : MEQ X CT (.Name x pos) (mqC (.ty n)) :=
  meq_c (pe_bltn hg hm hv (v := .ty n) rfl hn hd) fun _ _ => .ty
end
end E
/-! EngN: more statements -/
namespace E
open PySem L2 PySem.Spec PyProof.Rows
section
variable {X : Cx} {CT : Nat → Addr} {pin : List Nat} {e o a b : Expr} {es : List Expr} {i j : Nat} {me : M D} {pos apos cpos : Pos} {q : MQ D} {g : D → D → Res D} {op : Operator} {bb : D → Mem → Res Mem} {bs : List D → Mem → Res Mem}
theorem mst_set {x : Str} {pos' : Pos} (hN : X.N.Nodup) (hi : X.N[i]? = some x) (hx : Loc X.env.scope x) (hp : i ∉ pin) (he : ME X CT e me) (hs : swapsWith e (some (.Name x pos')) pos.line X.env = pure false := by rfl) (hf : X.fn x = true ∨ X.env.scope.names.lookup x = some .local := by first | exact .inl rfl | exact .inr rfl | assumption) :
    MSt X CT pin (.Assign [.Name x pos'] e pos) (sAsg me (bName i)) := ps_weak (ps_set hN hi hx he hs hf) fun D σ H ⟨W, m, fp, fl, m', rel, e, k⟩ => by
  obtain ⟨⟨d, m1⟩, e1, e⟩ := Res.bind_eq e
  obtain ⟨m2, e2, e⟩ := Res.bind_eq e
  cases e
  refine ⟨W, m, fp, d, m1, rel, e1, fun v W1 H1 fp1 fd p => ?_⟩
  exact bName_rep hp p.rel p.rep p.nd p.own e2 fun σ' W' H' fp' q => k σ' W' H' fp' ⟨q.rel, p.ext.trans q.ext p.sub, subT p.sub q.sub p.ext.there, q.pin, q.len⟩
/-- a local name's thing, taken out of its slot -/
def mMv (i : Nat) : M D := fun m => (mqVar i m).bind fun d => if d.pure = true then .ok (d, m) else .ok (d, { m with env := m.env.set i .und })
theorem me_mv {i : Nat} (h : PE X e (tVar i)) : ME X CT e (mMv i) := pe_weak h fun σ H Q ⟨W, m, fp, d, m', rel, e, k⟩ => by
  obtain ⟨d1, e1, e2⟩ := Res.bind_eq e
  obtain ⟨e3, nu⟩ := mqVar_eq e1
  obtain ⟨f, g, rfl, h1, h2⟩ := rel.s
  by_cases p : d1.pure = true
  · rw [if_pos p] at e2
    cases e2
    obtain ⟨v, A, f1, B, rfl, s, r, kk⟩ := h1.at e3 nu
    obtain rfl := r.pure p
    exact ⟨v, s, k v W H _ [] (Post.mk0 rel r)⟩
  · rw [if_neg p] at e2
    cases e2
    obtain ⟨v, f1, f', pm, s, r, kk⟩ := h1.take e3 nu
    have pm2 : ((f' ++ g) ++ f1).Perm (f ++ g) := by
      rw [List.perm_iff_count]; intro a
      have := pm.count_eq a
      simp only [List.count_append] at this ⊢; omega
    have nd := pm2.nodup_iff.mpr rel.nd
    have mem : ∀ a ∈ (f' ++ g) ++ f1, a ∈ f ++ g := fun a z => pm2.mem_iff.mp z
    have own : Own W H ((f' ++ g) ++ f1) := fun a z => rel.own a (mem a z)
    have nd' := nd
    rw [List.nodup_append] at nd'
    exact ⟨v, s, k v W H (f' ++ g) f1 ⟨⟨⟨f', g, rfl, kk, h2⟩, nd'.1, (Own.app.mp own).1, rel.fix⟩, r, nd, (Own.app.mp own).2, Ext.refl _ _ _, fun a z => .inl (mem a z)⟩⟩
theorem ipd_add : OpD X (inplaceOp .Add) dAddI := by
  refine ⟨_, ip_add, fun W H x y d1 d2 f1 f2 d Q x0 a b e q => ?_⟩
  unfold dAddI at e; split at e
  · cases e; cases a; cases b
    exact ⟨_, _, rfl, rfl, q _ W H [] (New.sc x0 .int)⟩
  · cases e
theorem ipd_sub : OpD X (inplaceOp .Sub) dSub := by
  refine ⟨_, ip_sub, fun W H x y d1 d2 f1 f2 d Q x0 a b e q => ?_⟩
  unfold dSub at e; split at e
  · cases e; cases a; cases b
    exact ⟨_, _, rfl, rfl, q _ W H [] (New.sc x0 .int)⟩
  · cases e
theorem mst_aug {x : Str} {pos' : Pos} (ho : OpD X (inplaceOp op) g) (hN : X.N.Nodup) (hi : X.N[i]? = some x) (hx : Loc X.env.scope x) (hp : i ∉ pin) (he : ME X CT e me) (hf : X.fn x = true ∨ X.env.scope.names.lookup x = some .local := by first | exact .inl rfl | exact .inr rfl | assumption) :
    MSt X CT pin (.AugAssign (.Name x pos') op e pos) (sAug i g me) := by
  obtain ⟨r, hr, kr⟩ := ho
  refine ps_weak (ps_aug hN hi hx he hr hf) fun D σ H ⟨W, m, fp, fl, m', rel, e, k⟩ => ?_
  obtain ⟨d0, e0, e⟩ := Res.bind_eq e
  obtain ⟨pd, e⟩ := Res.when_eq e
  obtain ⟨⟨d1, m1⟩, e1, e⟩ := Res.bind_eq e
  obtain ⟨d2, e2, e⟩ := Res.bind_eq e
  obtain ⟨hl, e⟩ := Res.when_eq e
  cases e
  rw [Bool.and_eq_true] at hl
  obtain ⟨v, f, s, rv, _⟩ := var_of rel e0
  obtain rfl := rv.pure pd
  refine ⟨v, s, W, m, fp, d1, m1, rel, e1, fun y W1 H1 fp1 fd p => ?_⟩
  refine kr W1 H1 v y d0 d1 [] fd d2 _ p.rel.fix (rv.ext p.ext rel.off fun a z => by cases z) p.rep e2 fun z W2 H2 fz n => ?_
  have := n.rep.pure hl.1
  subst this
  have r2 : Rel X.K CT W2 H2 σ m1 fp1 := p.rel.ext n.ext off_nil (fun a _ z => by cases z) n.ι n.fix
  refine bName_rep (fd := []) hp r2 n.rep (by rw [List.append_nil]; exact r2.nd) Own.nil (by unfold bName; rw [hl.2]; rfl) fun σ' W' H' fp' q => k σ' W' H' fp' ?_
  have q1 := q.ext
  rw [List.append_nil] at q1
  have q2 : ∀ a ∈ fp', a ∈ fp1 ∨ H2 a = none := fun a z => by
    have := q.sub a z
    rw [List.append_nil] at this
    exact this
  have x12 : Ext W H W2 H2 fp := p.ext.trans n.ext fun a z => by cases z
  have s1 : ∀ a ∈ fp1, a ∈ fp ∨ H a = none := fun a z => p.sub a (List.mem_append_left _ z)
  exact ⟨q.rel, x12.trans q1 s1, fun a z => (q2 a z).elim (s1 a) fun y => .inr (x12.there a y), q.pin, q.len⟩
theorem pg_or {tg : Expr} {t t' : TG} (h : PG X tg t) (h' : PG X tg t') : PG X tg (fun v σ H Q => t v σ H Q ∨ t' v σ H Q) := ⟨fun pins s σ H v u Q I r q => q.elim (h.run pins s σ H v u Q I r) (h'.run pins s σ H v u Q I r)⟩
/-- a tuple or a list, unpacked -/
def bTL (n : Nat) (bs : List D → Mem → Res Mem) : D → Mem → Res Mem
  | .tup ds, m => Res.when (decide (ds.length = n)) (bs ds m)
  | .lst _ ds, m => Res.when (decide (ds.length = n) && pureL ds) (bs ds m)
  | _, _ => .fail
theorem mg_tl {k n : Nat} (hc : X.calm = true) (h : MGs X CT pin es bs) (hn : (assignEach es X.env).length = n := by rfl) (hst : (assignEach es X.env).findIdx? (·.1) = none := by rfl) : MG X CT pin (.Tuple es k pos) (bTL n bs) := by
  have h1 : MG X CT pin (.Tuple es k pos) (bTup n bs) := mg_tup hc h hn hst
  have h2 : MG X CT pin (.Tuple es k pos) (bLst n bs) := mg_lst hc h hn hst
  refine ⟨fun pins s σ H v u Q I r h0 => ?_⟩
  obtain ⟨W, m, fp, d, fd, m', rel, rp, nd, own, e, kk⟩ := h0
  cases d with
  | tup ds => exact h1.run pins s σ H v u Q I r ⟨W, m, fp, _, fd, m', rel, rp, nd, own, e, kk⟩
  | lst o ds => exact h2.run pins s σ H v u Q I r ⟨W, m, fp, _, fd, m', rel, rp, nd, own, e, kk⟩
  | _ => cases e
/-- x, y = a, b -/
def sPar (i j : Nat) (a : M (List Arg)) : MS := fun m => (a m).bind fun r => (vals r.1).bind fun ds => match ds with
  | [d1, d2] => (bName i d1 r.2).bind fun m1 => (bName j d2 m1).bind fun m2 => .ok (.nx, m2)
  | _ => .fail
theorem mst_par {x y : Str} {px py pt : Pos} {kt k2 : Nat} {pt2 : Pos} {ml : M (List Arg)} (hc : X.calm = true) (hN : X.N.Nodup) (hi : X.N[i]? = some x) (hj : X.N[j]? = some y) (hij : i ≠ j)
    (hx : X.env.scope.names.lookup x = some .local) (hy : X.env.scope.names.lookup y = some .local) (ip : i ∉ pin) (jp : j ∉ pin) (ha : MA X CT [a, b] ml)
    (hw : swappedStores [.Tuple [.Name x px, .Name y py] kt pt] (.Tuple [a, b] k2 pt2) X.env = pure (some [x, y]))
    (hs : swapsWithSole [.Tuple [.Name x px, .Name y py] kt pt] (.Tuple [a, b] k2 pt2) pos.line X.env = pure false := by rfl) :
    MSt X CT pin (.Assign [.Tuple [.Name x px, .Name y py] kt pt] (.Tuple [a, b] k2 pt2) pos) (sPar i j ml) := ps_weak (ps_par hc hN hi hj hij hx hy ha hw hs) fun D σ H ⟨W, m, fp, fl, m', rel, e, k⟩ => by
  obtain ⟨⟨as, m1⟩, e1, e⟩ := Res.bind_eq e
  obtain ⟨ds, e2, e⟩ := Res.bind_eq e
  dsimp only at e2 e
  split at e
  · rename_i d1 d2
    obtain ⟨m2, e3, e⟩ := Res.bind_eq e
    obtain ⟨m3, e4, e⟩ := Res.bind_eq e
    cases e
    refine ⟨W, m, fp, as, m1, rel, e1, fun vs W1 H1 fp1 fa p => ?_⟩
    have l := vals_rep p.rep e2
    have nd := p.nd
    cases l with
    | @cons v1 _ f1 vs _ g1 r1 l =>
      cases l with
      | @cons v2 _ f2 vs2 _ g2 r2 l =>
        cases l
        rw [List.append_nil] at nd
        have own := p.own
        rw [List.append_nil] at own
        rw [← List.append_assoc, List.nodup_append] at nd
        refine ⟨v1, v2, rfl, ?_⟩
        refine bName_rep (pin := pin) ip p.rel r1 nd.1 (Own.app.mp own).1 e3 (Q := fun σ' H' => D.nx (σ'.set j (some v2)) H') fun σ2 W2 H2 fp2 q => ?_
        have far : ∀ a ∈ f2, a ∉ fp1 ++ f1 := fun a z y => nd.2.2 a y a z rfl
        have offA : Off W1 (fp1 ++ f1) := fun a z => by
          rcases List.mem_append.mp z with z | z
          · exact (p.rel.own a z).1
          · exact ((Own.app.mp own).1 a z).1
        have o2 := (Own.app.mp own).2
        refine bName_rep (pin := pin) jp q.rel (r2.ext q.ext offA far) ?_ (o2.ext q.ext far) e4 fun σ3 W3 H3 fp3 q3 => k σ3 W3 H3 fp3 ?_
        · rw [List.nodup_append]
          refine ⟨q.rel.nd, nd.2.1, fun a z b y e => ?_⟩
          subst e
          rcases q.sub a z with z | z
          · exact far a y z
          · exact (o2 a y).2 z
        · have s0 : ∀ a, a ∈ fp1 ++ (f1 ++ f2) → a ∈ fp ∨ H a = none := fun a z => p.sub a (by rw [List.append_nil]; exact z)
          have s1 : ∀ a ∈ fp1 ++ f1, a ∈ fp ∨ H a = none := fun a z => s0 a (by rw [← List.append_assoc]; exact List.mem_append_left _ z)
          have x1 := p.ext.trans q.ext s1
          have s2 : ∀ a ∈ fp2 ++ f2, a ∈ fp ∨ H a = none := fun a z => by
            rcases List.mem_append.mp z with z | z
            · exact (q.sub a z).elim (s1 a) fun y => .inr (p.ext.there a y)
            · exact s0 a (by simp [z])
          exact ⟨q3.rel, x1.trans q3.ext s2, fun a z => (q3.sub a z).elim (s2 a) fun y => .inr (x1.there a y), fun t ht => (q3.pin t ht).trans (q.pin t ht), q3.len.trans q.len⟩
  · cases e
end
end E
/-! EngO: in, chains, list(range(..)), written tuples -/
namespace E
open PySem L2 PySem.Spec PyProof.Rows

/-- == of data, where it can be reckoned -/
def eqP (a b : D) : Bool := match a.toPy, b.toPy with
  | some p, some q => PyData.eqv p q
  | _, _ => false
def D.flat : D → Bool
  | .non => true
  | .bl _ => true
  | .int _ => true
  | .str _ => true
  | _ => false
/-- an equal one is among ds -/
def memD (a : D) (ds : List D) : Bool := ds.any fun z => eqP z a
def flatL (ds : List D) : Bool := ds.all D.flat
/-- in: the list's items of any depth, a tuple's flat -/
@[simp] def dIn (a : D) : D → Res D
  | .lst _ ds => match a.toPy, toPyL ds with
    | some p, some ps => Res.when (SeqAt.shaped p && SeqAt.shaped (.list ps)) (.ok (.bl (memD a ds)))
    | _, _ => .fail
  | .tup ds => Res.when (a.flat && flatL ds) (.ok (.bl (memD a ds)))
  | _ => .fail
@[simp] def dNotIn (a : D) : D → Res D
  | .lst _ ds => match a.toPy, toPyL ds with
    | some p, some ps => Res.when (SeqAt.shaped p && SeqAt.shaped (.list ps)) (.ok (.bl (!memD a ds)))
    | _, _ => .fail
  | .tup ds => Res.when (a.flat && flatL ds) (.ok (.bl (!memD a ds)))
  | _ => .fail
theorem any_py {a : D} {p : PyData} (ha : a.toPy = some p) : ∀ {ds : List D} {ps : List PyData}, toPyL ds = some ps → (ps.any fun z => PyData.eqv z p) = ds.any fun z => eqP z a
  | [], ps, e => by cases e; rfl
  | d :: ds, ps, e => by
    unfold toPyL at e
    split at e
    · rename_i q qs e1 e2
      cases e
      rw [List.any_cons, List.any_cons, any_py ha e2]
      congr 1
      unfold eqP
      rw [e1, ha]
    · cases e
theorem flat_rep {K : PySem.W.Frag} {W : Wd} {H : Hp} {v : V} {d : D} {g : List Addr} (r : RepD K W H v d g) (f : d.flat = true) : flatV v = true := by
  cases r <;> first | rfl | simp [D.flat] at f
theorem eqV_rep {K : PySem.W.Frag} {W : Wd} {H : Hp} {v u : V} {d e : D} {g g' : List Addr} (r : RepD K W H v d g) (r' : RepD K W H u e g') (f : d.flat = true) (f' : e.flat = true) : eqV v u = eqP d e := by
  cases r <;> first | (simp [D.flat] at f; done) | (cases r' <;> first | (simp [D.flat] at f'; done) | (simp [eqV, eqP, D.toPy, PyData.eqv]))
theorem inV_rep {K : PySem.W.Frag} {W : Wd} {H : Hp} {x : V} {a : D} {g : List Addr} (rx : RepD K W H x a g) (fx : a.flat = true) : ∀ {ds : List D} {vs : List V} {f : List Addr}, RepL K W H vs ds f → ds.all D.flat = true → vs.all flatV = true ∧ inV x vs = ds.any fun z => eqP z a
  | _, _, _, .nil, _ => ⟨rfl, rfl⟩
  | d :: ds, v :: vs, _, .cons r l, h => by
    rw [List.all_cons, Bool.and_eq_true] at h
    obtain ⟨h1, h2⟩ := inV_rep rx fx l h.2
    refine ⟨by rw [List.all_cons, flat_rep r h.1, h1]; rfl, ?_⟩
    have : inV x (v :: vs) = (eqV v x || inV x vs) := rfl
    rw [this, h2, List.any_cons, eqV_rep r rx h.1 fx]
section
variable {X : Cx}
theorem od_in (hu : X.A.units + 65 < cLine) : OpD X (compareOp .In) dIn := by
  refine ⟨_, OpR.or (op_inD hu) op_in_seq, fun W H x y d1 d2 f1 f2 d Q x0 a b e q => ?_⟩
  cases d2 with
  | lst o ds =>
    unfold dIn at e
    dsimp only at e
    split at e
    · rename_i p ps e1 e2
      obtain ⟨h, e⟩ := Res.when_eq e
      cases e
      rw [Bool.and_eq_true] at h
      refine .inl ⟨p, ps, a.dp e1, b.dp (by rw [D.toPy, e2]; rfl), h.1, h.2, ?_⟩
      rw [any_py e1 e2]
      exact q _ W H [] (New.sc x0 .bl)
    · cases e
  | tup ds =>
    obtain ⟨h, e⟩ := Res.when_eq e
    cases e
    rw [Bool.and_eq_true] at h
    obtain ⟨p, vs, rfl, s, _, l⟩ := b.tupl
    obtain ⟨h1, h2⟩ := inV_rep a h.1 l h.2
    refine .inr ⟨p, vs, rfl, .inr s, flat_rep a h.1, h1, ?_⟩
    rw [h2]
    exact q _ W H [] (New.sc x0 .bl)
  | _ => cases e
theorem od_notin (hu : X.A.units + 65 < cLine) : OpD X (compareOp .NotIn) dNotIn := by
  refine ⟨_, OpR.or (op_notInD hu) op_notIn_seq, fun W H x y d1 d2 f1 f2 d Q x0 a b e q => ?_⟩
  cases d2 with
  | lst o ds =>
    unfold dNotIn at e
    dsimp only at e
    split at e
    · rename_i p ps e1 e2
      obtain ⟨h, e⟩ := Res.when_eq e
      cases e
      rw [Bool.and_eq_true] at h
      refine .inl ⟨p, ps, a.dp e1, b.dp (by rw [D.toPy, e2]; rfl), h.1, h.2, ?_⟩
      rw [any_py e1 e2]
      exact q _ W H [] (New.sc x0 .bl)
    · cases e
  | tup ds =>
    obtain ⟨h, e⟩ := Res.when_eq e
    cases e
    rw [Bool.and_eq_true] at h
    obtain ⟨p, vs, rfl, s, _, l⟩ := b.tupl
    obtain ⟨h1, h2⟩ := inV_rep a h.1 l h.2
    refine .inr ⟨p, vs, rfl, .inr s, flat_rep a h.1, h1, ?_⟩
    rw [h2]
    exact q _ W H [] (New.sc x0 .bl)
  | _ => cases e
theorem room65 {k : Nat} {A : Around} (r : Room k A) : A.units + 65 < cLine := by have := r.un; omega
end
/-! ### chains: a < b < c, looked at -/
def mqChain (g g' : D → D → Res D) (qa qb qc : MQ D) : MQ D := fun m => (qa m).bind fun d1 => (qb m).bind fun d2 => (g d1 d2).bind fun r => r.isB.bind fun c => if c = true then (qc m).bind fun d3 => (g' d2 d3).bind fun d => Res.when d.pure (.ok d) else .ok (.bl false)
section
variable {X : Cx} {CT : Nat → Addr} {a b c : Expr} {pos p0 : Pos} {op op' : CmpOp} {g g' : D → D → Res D} {qa qb qc : MQ D} {ml : M (List Arg)}
theorem New.rel {K : PySem.W.Frag} {W W' : Wd} {H H' : Hp} {v : V} {d : D} {fd fp : List Addr} {σ : L2.St} {m : Mem} (n : New K W H v d W' H' fd) (r : Rel K CT W H σ m fp) : Rel K CT W' H' σ m fp :=
  r.ext n.ext off_nil (fun a _ z => by cases z) n.ι n.fix
theorem chain_tr {r r' : R2} (k : ∀ W H x y d1 d2 f1 f2 d Q, Fix W H → RepD X.K W H x d1 f1 → RepD X.K W H y d2 f2 → g d1 d2 = .ok d → (∀ v W' H' fd, New X.K W H v d W' H' fd → Q v H') → r x y H Q)
    (k' : ∀ W H x y d1 d2 f1 f2 d Q, Fix W H → RepD X.K W H x d1 f1 → RepD X.K W H y d2 f2 → g' d1 d2 = .ok d → (∀ v W' H' fd, New X.K W H v d W' H' fd → Q v H') → r' x y H Q) :
    ∀ σ H Q, tQ X.K CT (mqChain g g' qa qb qc) σ H Q → tChain r r' (tQ X.K CT qa) (tQ X.K CT qb) (tQ X.K CT qc) σ H Q := fun σ H Q ⟨W, m, fp, d, rel, e, q⟩ => by
  obtain ⟨d1, e1, e⟩ := Res.bind_eq e
  obtain ⟨d2, e2, e⟩ := Res.bind_eq e
  obtain ⟨d3, e3, e⟩ := Res.bind_eq e
  obtain ⟨cc, e4, e⟩ := Res.bind_eq e
  refine ⟨W, m, fp, d1, rel, e1, fun v1 W1 H1 fd1 P1 => ⟨W1, m, fp, d2, P1.rel, e2, fun v2 W2 H2 fd2 P2 => ?_⟩⟩
  have x12 : Ext W H W2 H2 [] := P1.ext.trans P2.ext fun a z => by cases z
  refine k W2 H2 v1 v2 d1 d2 fd1 fd2 d3 _ P2.rel.fix (P1.rep.ext P2.ext off_nil fun a _ z => by cases z) P2.rep e3 fun v W3 H3 fd n => ⟨cc, isB_rep n.rep e4, ?_⟩
  have x13 : Ext W H W3 H3 [] := x12.trans n.ext fun a z => by cases z
  cases cc with
  | false =>
    cases e
    refine iteF (q _ W3 H3 [] ⟨n.rel P2.rel, .bl, x13, fun a z => by cases z⟩)
  | true =>
    refine iteT ?_
    rw [if_pos rfl] at e
    obtain ⟨d4, e5, e⟩ := Res.bind_eq e
    obtain ⟨d5, e6, e⟩ := Res.bind_eq e
    obtain ⟨pd, e⟩ := Res.when_eq e
    cases e
    refine ⟨W3, m, fp, d4, n.rel P2.rel, e5, fun v4 W4 H4 fd4 P4 => ?_⟩
    have r2 := (P2.rep.ext n.ext off_nil fun a _ z => by cases z).ext P4.ext off_nil fun a _ z => by cases z
    exact k' W4 H4 v2 v4 d2 d4 fd2 fd4 d _ P4.rel.fix r2 P4.rep e6 fun v W' H' fd n' => q v W' H' [] (n'.postQ pd P4.rel (x13.trans P4.ext fun a z => by cases z))
theorem meq_chain (o : OpD X (compareOp op) g) (o' : OpD X (compareOp op') g') (ha : MEQ X CT a qa) (hb : MEQ X CT b qb) (hc : MEQ X CT c qc) (hm : lastMarks [op, op'] [b, c] = false := by with_unfolding_all rfl) : MEQ X CT (.Compare a [op, op'] [b, c] pos) (mqChain g g' qa qb qc) := by
  obtain ⟨r, h, k⟩ := o
  obtain ⟨r', h', k'⟩ := o'
  exact pe_weak (pe_chain h h' ha hb hc hm) (chain_tr k k')
theorem mt_chain (o : OpD X (compareOp op) g) (o' : OpD X (compareOp op') g') (ha : MEQ X CT a qa) (hb : MEQ X CT b qb) (hc : MEQ X CT c qc) (hm : lastMarks [op, op'] [b, c] = false := by with_unfolding_all rfl) : MT X CT (.Compare a [op, op'] [b, c] pos) (mtB (mP (mqChain g g' qa qb qc))) := by
  obtain ⟨r, h, k⟩ := o
  obtain ⟨r', h', k'⟩ := o'
  refine pt_weak (pt_chain h h' ha hb hc hm) fun σ H Q ⟨W, m, fp, cc, m', rel, e, q⟩ => ?_
  obtain ⟨⟨d, m1⟩, e1, e⟩ := Res.bind_eq e
  obtain ⟨c', e2, e⟩ := Res.bind_eq e
  cases e
  obtain ⟨d', e3, e1⟩ := Res.bind_eq e1
  obtain ⟨pd, e1⟩ := Res.when_eq e1
  cases e1
  refine chain_tr k k' σ H _ ⟨W, m, fp, d, rel, e3, fun v W' H' fd p => ⟨cc, isB_rep p.rep e2, q W' H' fp ⟨p.rel, p.ext.sub (fun a z => by cases z), fun a z => .inl z⟩⟩⟩

/-! ### list(range(..)) -/
noncomputable def mLstRg (me : M D) : M D := fun m => (me m).bind fun r => match r.1 with
  | .int j => Res.when (cdec (0 ≤ j ∧ j ≤ 16777216)) (.ok (.lst true (rangeD 0 j.toNat), r.2))
  | _ => .fail
theorem rep_rg {K : PySem.W.Frag} {W : Wd} {H : Hp} (lo : Int) : ∀ (ks : List Nat), RepL K W H (ks.map fun i => V.int (lo + (i : Nat))) (ks.map fun (k : Nat) => D.int (lo + (k : Int))) []
  | [] => .nil
  | k :: ks => RepL.cons (f := []) .int (rep_rg lo ks)
theorem me_lstRg {p1 : Pos} {me : M D} (hc : X.calm = true) (hg : Gl X "list") (hm : X.mg "list" = none) (hg' : Gl X "range") (hm' : X.mg "range" = none) (h : MEB X CT a me) (na : starEach [a] X.env = (false, eval a X.env) :: starEach [] X.env := by rfl)
    (na' : starEach [.Call (.Name "range" p1) [a] [] pos] X.env = (false, eval (.Call (.Name "range" p1) [a] [] pos) X.env) :: starEach [] X.env := by rfl) : ME X CT (.Call (.Name "list" p0) [.Call (.Name "range" p1) [a] [] pos] [] pos') (mLstRg me) :=
  pe_weak (pe_listRg hc hg hm (prg_1 hg' hm' h na) na') fun σ H Q ⟨W, m, fp, d, m', rel, e, q⟩ => by
    obtain ⟨⟨d1, m1⟩, e1, e⟩ := Res.bind_eq e
    refine ⟨W, m, fp, d1, m1, rel, e1, fun v W1 H1 fp1 fd P => ?_⟩
    have rp := P.rep
    dsimp only at e
    split at e
    · rename_i j
      obtain ⟨hj, e⟩ := Res.when_eq e
      cases e
      have hj := of_cdec hj
      cases rp
      refine ⟨j, rfl, RgOk.of_le (by omega) hj.2 (by omega) hj.1, fun p hp => ?_⟩
      have n := New.lst (p := p) P.rel.fix hp (rep_rg (K := X.K) (W := W1) (H := H1) 0 (List.range (j - 0).toNat))
      rw [show (j - 0).toNat = j.toNat by omega] at n
      have e2 : rgV 0 j = (List.range j.toNat).map fun i => V.int (0 + (i : Nat)) := by unfold rgV; rw [show (j - 0).toNat = j.toNat by omega]
      rw [e2]
      exact q _ _ _ _ _ (n.post P.rel P.ext P.sub)
    · cases e
end
/-! ### tuples that the top has written -/
theorem KD.tupI {K : PySem.W.Frag} {a : Addr} {vs : List V} {ds : List D} (h : KT K a vs) (l : ∀ W H, RepL K W H vs ds []) : ∃ v, RelV v (.ref a) ∧ ∀ W H, RepD K W H v (.tup ds) [] :=
  ⟨.ref a, rfl, fun W H => .tup (.inr h) (l W H)⟩
theorem meq_globT {X : Cx} {CT : Nat → Addr} {pos : Pos} {x : Str} {d : D} {u : Value} (hg : Gl X x) (hm : X.mg x = some u) (h : ∃ v, RelV v u ∧ ∀ W H, RepD X.K W H v d []) (hd : (x == ("__debug__" : Str)) = false := by decide) : MEQ X CT (.Name x pos) (mqC d) := by
  obtain ⟨v, r, rp⟩ := h
  exact meq_c (pe_glob hg hm r hd) rp
end E
/-! EngR: objects -/
namespace E
open PySem L2 PySem.Spec PyProof.Rows

theorem strInj {a b : String} (h : Str.ofString a = Str.ofString b) : a = b := by
  rw [Str.ofString_eq_toList, Str.ofString_eq_toList] at h
  have h1 : (a.toList.map Char.toNat).toArray = (b.toList.map Char.toNat).toArray := congrArg Str.cps h
  have h2 : a.toList.map Char.toNat = b.toList.map Char.toNat := by simpa using h1
  have h3 : a.toList = b.toList := (List.map_inj_right fun x y e => Char.toNat_inj.mp e).mp h2
  exact String.toList_inj.mp h3
def setF (f : String) (d : D) : List (String × D) → List (String × D)
  | [] => [(f, d)]
  | (g, x) :: r => if g = f then (g, d) :: r else (g, x) :: setF f d r
def lookF (f : String) : List (String × D) → Option D
  | [] => none
  | (g, x) :: r => if g = f then some x else lookF f r
section
variable {K : PySem.W.Frag} {CT : Nat → Addr} {W W' : Wd} {H H' : Hp} {σ : L2.St} {m : Mem} {fp fd : List Addr}
theorem look_rep {f : String} : ∀ {fs : List (String × D)} {fvs : List (Str × V)} {g : List Addr}, fvs.map (·.1) = fs.map (fun p => Str.ofString p.1) → RepL K W H (fvs.map (·.2)) (fs.map (·.2)) g →
    (∀ d, lookF f fs = some d → ∃ v h, fvs.lookup (Str.ofString f) = some v ∧ RepD K W H v d h ∧ ∀ a ∈ h, a ∈ g) ∧ (lookF f fs = none → fvs.lookup (Str.ofString f) = none)
  | [], [], g, _, _ => ⟨(fun d e => by cases e), fun _ => rfl⟩
  | [], _ :: _, g, e, _ => by cases e
  | _ :: _, [], g, e, _ => by cases e
  | (k, x) :: fs, (k', v) :: fvs, g, e, l => by
    rw [List.map_cons, List.map_cons] at e l
    injection e with e1 e2
    cases l with
    | @cons _ _ h1 _ _ g1 r l =>
      obtain ⟨i1, i2⟩ := look_rep (f := f) e2 l
      have e1 : k' = Str.ofString k := e1
      subst e1
      unfold lookF
      by_cases hk : k = f
      · subst hk
        rw [if_pos rfl]
        refine ⟨fun d z => ?_, fun z => by cases z⟩
        cases z
        exact ⟨v, h1, by simp [List.lookup], r, fun a z => List.mem_append_left _ z⟩
      · rw [if_neg hk]
        have hb : (Str.ofString f == Str.ofString k) = false := beq_eq_false_iff_ne.mpr fun z => hk (strInj z).symm
        refine ⟨fun d z => ?_, fun z => ?_⟩
        · obtain ⟨v', h, q1, q2, q3⟩ := i1 d z
          exact ⟨v', h, by simp only [List.lookup, hb]; exact q1, q2, fun a z => List.mem_append_right _ (q3 a z)⟩
        · simp only [List.lookup, hb]
          exact i2 z
theorem put_rep {f : String} {v : V} {d : D} {h : List Addr} (r : RepD K W H v d h) : ∀ {fs : List (String × D)} {fvs : List (Str × V)} {g : List Addr}, fvs.map (·.1) = fs.map (fun p => Str.ofString p.1) → RepL K W H (fvs.map (·.2)) (fs.map (·.2)) g →
    ∃ g' rest, (putF (Str.ofString f) v fvs).map (·.1) = (setF f d fs).map (fun p => Str.ofString p.1) ∧ RepL K W H ((putF (Str.ofString f) v fvs).map (·.2)) ((setF f d fs).map (·.2)) g' ∧ (g' ++ rest).Perm (g ++ h)
  | [], [], g, _, l => by
    cases l
    exact ⟨h ++ [], [], rfl, .cons r .nil, by simp⟩
  | [], _ :: _, g, e, _ => by cases e
  | _ :: _, [], g, e, _ => by cases e
  | (k, x) :: fs, (k', u) :: fvs, g, e, l => by
    rw [List.map_cons, List.map_cons] at e l
    injection e with e1 e2
    have e1 : k' = Str.ofString k := e1
    subst e1
    cases l with
    | @cons _ _ h1 _ _ g1 r1 l =>
      unfold setF L2.putF
      by_cases hk : k = f
      · subst hk
        rw [if_pos rfl, if_pos rfl]
        refine ⟨h ++ g1, h1, by rw [List.map_cons, List.map_cons, e2], .cons r l, ?_⟩
        rw [List.perm_iff_count]; intro a; simp only [List.count_append]; omega
      · rw [if_neg hk, if_neg (fun z => hk (strInj z))]
        obtain ⟨g', rest, q1, q2, q3⟩ := put_rep (f := f) r e2 l
        refine ⟨h1 ++ g', rest, by rw [List.map_cons, List.map_cons, q1], .cons r1 q2, ?_⟩
        rw [List.append_assoc, List.append_assoc]
        exact List.Perm.append_left h1 q3
theorem RepH.at {ι : List Addr} {hs : List Ob} {g : List Addr} (h : RepH K CT W H ι hs g) : ∀ {n : Nat} {ob : Ob}, hs[n]? = some ob →
    ∃ a dx fvs A f B, g = A ++ (a :: f) ++ B ∧ ι[n]? = some a ∧ H a = some (.ins (CT ob.cls) dx fvs) ∧ fvs.map (·.1) = ob.fs.map (fun p => Str.ofString p.1) ∧ RepL K W H (fvs.map (·.2)) (ob.fs.map (·.2)) f ∧
      ∀ {W' : Wd} {H' : Hp} {fq : List Addr} {fvs' fs' f'}, Ext W H W' H' fq → Off W fq → (∀ b ∈ A ++ B, b ∉ fq) → H' a = some (.ins (CT ob.cls) dx fvs') → fvs'.map (·.1) = fs'.map (fun p => Str.ofString p.1) → RepL K W' H' (fvs'.map (·.2)) (fs'.map (·.2)) f' →
        RepH K CT W' H' ι (hs.set n ⟨ob.cls, fs'⟩) (A ++ (a :: f') ++ B) := by
  induction h with
  | nil => intro n ob e; simp at e
  | @cons a c dx fvs fs f ι hs g h1 h2 h3 h4 ih =>
    intro n ob e
    cases n with
    | zero =>
      obtain rfl : (⟨c, fs⟩ : Ob) = ob := by simpa using e
      refine ⟨a, dx, fvs, [], f, g, rfl, rfl, h1, h2, h3, fun x o nn q1 q2 q3 => ?_⟩
      exact .cons q1 q2 q3 (h4.ext x o fun b z => nn b (by simpa using z))
    | succ n =>
      obtain ⟨a', dx', fvs', A, f', B, e1, e2, e3, e4, e5, k⟩ := ih (by simpa using e)
      refine ⟨a', dx', fvs', (a :: f) ++ A, f', B, by rw [e1]; simp, by simpa using e2, e3, e4, e5, fun x o nn q1 q2 q3 => ?_⟩
      have hn : ∀ b ∈ a :: f, b ∉ _ := fun b z => nn b (by simp only [List.mem_append]; exact .inl (.inl z))
      have := RepH.cons (x.keep a _ h1 (hn a (List.mem_cons_self ..))) h2 (h3.ext x o fun b z => hn b (List.mem_cons_of_mem _ z)) (k x o (fun b z => nn b (by
        rcases List.mem_append.mp z with z | z
        · simp [z]
        · simp [z])) q1 q2 q3)
      simpa using this
theorem RepH.snoc {ι : List Addr} {hs : List Ob} {g : List Addr} (h : RepH K CT W H ι hs g) {x dx : Addr} {c : Nat} (hx : H x = some (.ins (CT c) dx [])) : RepH K CT W H (ι ++ [x]) (hs ++ [⟨c, []⟩]) (g ++ [x]) := by
  induction h with
  | nil => exact RepH.cons (f := []) (g := []) hx rfl .nil .nil
  | cons h1 h2 h3 _ ih =>
    have := RepH.cons h1 h2 h3 ih
    simpa using this
theorem RepH.len {ι : List Addr} {hs : List Ob} {g : List Addr} (h : RepH K CT W H ι hs g) : ι.length = hs.length := by
  induction h with
  | nil => rfl
  | cons _ _ _ _ ih => simp [ih]
end

/-! ### e.f -/
def mqAttr (cs : List Nat) (f : String) (q : MQ D) : MQ D := fun m => (q m).bind fun d => match d with
  | .loc n => match m.hs[n]? with
    | some ob => Res.when (cs.contains ob.cls) (Res.of (lookF f ob.fs))
    | none => .fail
  | _ => .fail
/-- what the text must have of the classes cs for the attribute f -/
def Attr (K : PySem.W.Frag) (CT : Nat → Addr) (cs : List Nat) (f : String) : Prop := ∀ c ∈ cs, Cls K (CT c) ∧ NoAttr K (CT c) (Str.ofString f)
def sSetA (cs : List Nat) (f : String) (e : M D) (q : MQ D) : MS := fun m => (e m).bind fun r => (q r.2).bind fun d => match d with
  | .loc n => match r.2.hs[n]? with
    | some ob => Res.when (cs.contains ob.cls && decide (ob.fs.length < 1000)) (.ok (.nx, ⟨r.2.env, r.2.hs.set n ⟨ob.cls, setF f r.1 ob.fs⟩⟩))
    | none => .fail
  | _ => .fail
section
variable {X : Cx} {CT : Nat → Addr} {pin : List Nat} {e o : Expr} {es : List Expr} {pos pos' : Pos} {qa : MQ D} {me : M D} {cs : List Nat} {f : String} {ml : M (List Arg)} {wx : XK}
theorem meq_attr (h : MEQ X CT e qa) (A : Attr X.K CT cs f) (hb : attributeBase e (Str.ofString f) X.env (eval e X.env) = eval e X.env := by rfl) : MEQ X CT (.Attribute e (Str.ofString f) pos) (mqAttr cs f qa) :=
  pe_weak (pe_fld h hb) fun σ H Q ⟨W, m, fp, d, rel, e, q⟩ => by
    obtain ⟨d1, e1, e⟩ := Res.bind_eq e
    refine ⟨W, m, fp, d1, rel, e1, fun v W1 H1 fd p => ?_⟩
    have rp := p.rep
    split at e
    · split at e
      · rename_i n ob eo
        obtain ⟨hc, e⟩ := Res.when_eq e
        have e := Res.of_eq e
        obtain ⟨s, g, rfl, h1, h2⟩ := p.rel.s
        obtain ⟨a, dx, fvs, AA, ff, BB, rfl, ei, eh, en, l, _⟩ := h2.at eo
        obtain ⟨v', hh, q1, q2, q3⟩ := (look_rep (f := f) en l).1 d e
        cases rp with
        | loc ei' =>
          rw [ei] at ei'
          cases ei'
          obtain ⟨c1, c2⟩ := A ob.cls (by simpa using hc)
          exact ⟨a, _, dx, fvs, v', rfl, eh, c1, c2, q1, q v' W1 H1 hh ⟨p.rel, q2, p.ext, fun b z => by simp [q3 b z]⟩⟩
      · cases e
    · cases e
theorem mst_setA (hv : ME X CT e me) (h : MEQ X CT o qa) (A : Attr X.K CT cs f) (hs : swapsWith e (some (.Attribute o (Str.ofString f) pos')) pos.line X.env = pure false := by rfl) : MSt X CT pin (.Assign [.Attribute o (Str.ofString f) pos'] e pos) (sSetA cs f me qa) :=
  ps_weak (ps_fld h hv hs) fun D σ H ⟨W, m, fp, fl, m', rel, e, k⟩ => by
    obtain ⟨⟨dv, m1⟩, e1, e⟩ := Res.bind_eq e
    obtain ⟨d1, e2, e⟩ := Res.bind_eq e
    refine ⟨W, m, fp, dv, m1, rel, e1, fun y W1 H1 fp1 fd p => ⟨W1, m1, fp1, d1, p.rel, e2, fun v W2 H2 fd2 p2 => ?_⟩⟩
    have rp := p2.rep
    split at e
    · split at e
      · rename_i n ob eo
        obtain ⟨hc, e⟩ := Res.when_eq e
        cases e
        rw [Bool.and_eq_true] at hc
        have ry := p.rep.ext p2.ext off_nil fun a _ z => by cases z
        have own := p.own.ext p2.ext fun a _ z => by cases z
        obtain ⟨s, g, rfl, h1, h2⟩ := p2.rel.s
        obtain ⟨a, dx, fvs, AA, ff, BB, rfl, ei, eh, en, l, kk⟩ := h2.at eo
        cases rp with
        | loc ei' =>
          rw [ei] at ei'
          cases ei'
          obtain ⟨c1, c2⟩ := A ob.cls (by simpa using hc.1)
          have hlen : fvs.length < 1000 := by
            have := congrArg List.length en
            simp at this
            have h3 := of_decide_eq_true hc.2
            omega
          refine ⟨a, _, dx, fvs, rfl, eh, c1, c2, hlen, ?_⟩
          obtain ⟨g', rest, q1, q2, pm⟩ := put_rep (f := f) ry en l
          have x : Ext W2 H2 W2 (upd H2 a (.ins (CT ob.cls) dx (putF (Str.ofString f) y fvs))) [a] := ⟨fun _ h => h, fun _ _ h => h, fun b o h n => by rw [upd_ne (fun z => n (by simp [z]))]; exact h, fun _ h => .inl h, fun b h => by
            by_cases e : b = a
            · subst e; rw [upd_same] at h; cases h
            · rw [upd_ne e] at h; exact h⟩
          have nd := p.nd
          have pmT : ((s ++ (AA ++ (a :: g') ++ BB)) ++ rest).Perm ((s ++ (AA ++ (a :: ff) ++ BB)) ++ fd) := by
            rw [List.perm_iff_count]; intro b
            have := pm.count_eq b
            simp only [List.count_append, List.count_cons] at this ⊢; omega
          have ndT := pmT.nodup_iff.mpr nd
          rw [List.nodup_append] at ndT
          have once : ∀ b, b ∈ s ∨ b ∈ AA ∨ b ∈ BB ∨ b ∈ g' → b ∉ [a] := fun b z y => by
            have y := List.mem_singleton.mp y
            subst y
            have c1 := List.nodup_iff_count.mp ndT.1 b
            simp only [List.count_append, List.count_cons_self] at c1
            rcases z with z | z | z | z <;> (have c2 := List.count_pos_iff.mpr z; omega)
          have ha : a ∈ s ++ (AA ++ (a :: ff) ++ BB) := by simp
          have off : Off W2 [a] := fun b z => by rw [List.mem_singleton.mp z]; exact (p2.rel.own a ha).1
          have mem : ∀ b ∈ s ++ (AA ++ (a :: g') ++ BB), b ∈ (s ++ (AA ++ (a :: ff) ++ BB)) ++ fd := fun b z => pmT.mem_iff.mp (List.mem_append_left _ z)
          have x2 : Ext W H W2 H2 _ := p.ext.trans p2.ext fun a z => by cases z
          refine k σ W2 _ (s ++ (AA ++ (a :: g') ++ BB)) ⟨⟨⟨s, _, rfl, h1.ext x off fun b z => once b (.inl z), ?_⟩, ndT.1, fun b z => ?_, fix_upd p2.rel.fix⟩, x2.trans (x.sub (fq := s ++ (AA ++ (a :: ff) ++ BB)) fun b z => by rw [List.mem_singleton.mp z]; exact ha) fun b z => p.sub b (List.mem_append_left _ z), fun b z => p.sub b (mem b z), fun _ _ => rfl, rfl⟩
          · exact kk x off (fun b z => once b (by rcases List.mem_append.mp z with z | z; exact .inr (.inl z); exact .inr (.inr (.inl z)))) upd_same q1 (q2.ext x off fun b z => once b (.inr (.inr (.inr z))))
          · have ob : ¬ W2.F b ∧ H2 b ≠ none := by
              rcases List.mem_append.mp (mem b z) with y | y
              · exact p2.rel.own b y
              · exact own b y
            refine ⟨ob.1, ?_⟩
            by_cases e : b = a
            · subst e; rw [upd_same]; exact fun z => by cases z
            · rw [upd_ne e]; exact ob.2
      · cases e
    · cases e

/-! ### o.m(..) -/
def callTail (f : CallM) (dd : List D) (as : List Arg) (m : Mem) : Res (D × Mem) := (grab as m.env).bind fun q => (f (q.1 ++ dd) m.hs).bind fun o => .ok (o.1, ⟨giveBack q.2.1 o.2.1 q.2.2, o.2.2⟩)
def isOf (c : Nat) (mn : String) (m : Mem) : D → Bool
  | .loc n => match m.hs[n]? with
    | some ob => ob.cls == c && (lookF mn ob.fs).isNone
    | none => false
  | _ => false
def mMeth (c : Nat) (mn : String) (f : CallM) (dd : List D) (q : MQ D) (a : M (List Arg)) : M D := fun m => (q m).bind fun d => Res.when (isOf c mn m d) ((a m).bind fun r => callTail f dd (.val d :: r.1) r.2)
theorem isOf_rep {K : PySem.W.Frag} {W : Wd} {H : Hp} {σ : L2.St} {m : Mem} {fp : List Addr} {v : V} {d : D} {g : List Addr} {c : Nat} {mn : String} (rel : Rel K CT W H σ m fp) (r : RepD K W H v d g) (h : isOf c mn m d = true) :
    ∃ n a dx fs, d = .loc n ∧ v = .ref a ∧ g = [] ∧ W.ι[n]? = some a ∧ H a = some (.ins (CT c) dx fs) ∧ fs.lookup (Str.ofString mn) = none := by
  cases r with
  | @loc n a ei =>
    unfold isOf at h
    dsimp only at h
    split at h
    · rename_i ob eo
      rw [Bool.and_eq_true] at h
      obtain ⟨s, g, rfl, h1, h2⟩ := rel.s
      obtain ⟨a', dx, fvs, AA, ff, BB, rfl, ei', eh, en, l, _⟩ := h2.at eo
      rw [ei] at ei'
      cases ei'
      have hc : ob.cls = c := by simpa using h.1
      rw [hc] at eh
      exact ⟨n, a, dx, fvs, rfl, rfl, rfl, ei, eh, (look_rep (f := mn) en l).2 (by simpa using h.2)⟩
    · cases h
  | _ => cases h
variable {CX : CXT} {k n c : Nat} {fa : Addr} {fd : FuncData} {ps : List Str} {dvs : List V} {ds : List Value} {dd : List D} {mn : String} {p apos : Pos} {g : CallM}
theorem me_meth {pl : Sem Bool} (h : MEQ X CT o qa) (hc : Cls X.K (CT c)) (hm : Meth X.K (CT c) (Str.ofString mn) fa) (F : FnOk X.prog X.w X.K X.mg X.base CX k fa fd ps (spM X.K CT n g)) (hn : ∀ ds hs o, g ds hs = .ok o → ds.length = n) (hr : Room k X.A) (hb : Binds X.K fd ps ds) (hd : Vals dvs ds) (hdd : Consts X.K dvs dd) (hx : Passes CX X wx) (ha : MA X CT (e :: es) ml)
    (hst : starEach (e :: es) X.env = (false, eval e X.env) :: starEach es X.env := by rfl) (hpl : (backTo pos (starEach es X.env)).any (·.1) = false := by rfl)
    (ht : eval (.Call (.Attribute o (Str.ofString mn) apos) (e :: es) [] pos) X.env = (do
      let ov ← eval o X.env
      standAt apos.atName
      let (f, first) ← holding [ov] (getMethod ov (Str.ofString mn) pl)
      callWith pos f first (backTo pos (starEach (e :: es) X.env)) (backToKw pos (keywordEach [] X.env))) := by rfl) :
    ME X CT (.Call (.Attribute o (Str.ofString mn) apos) (e :: es) [] pos) (mMeth c mn g dd qa ml) :=
  pe_weak (pe_meth h hc hm F hr hb hd hx ha hst hpl ht) fun σ H Q ⟨W, m, fp, d, m', rel, e, q⟩ => by
    obtain ⟨d0, e0, e⟩ := Res.bind_eq e
    obtain ⟨hi, e⟩ := Res.when_eq e
    obtain ⟨⟨as, m1⟩, e1, e⟩ := Res.bind_eq e
    refine ⟨W, m, fp, d0, rel, e0, fun v W1 H1 fd0 p => ?_⟩
    obtain ⟨i, a, dx, fs, rfl, rfl, rfl, ei, eh, el⟩ := isOf_rep p.rel p.rep hi
    refine ⟨a, dx, fs, rfl, eh, el, W1, m, fp, as, m1, p.rel, e1, fun vs W2 H2 fp2 fa2 p2 => ?_⟩
    have x12 : Ext W H W2 H2 fp := (p.ext.sub (fq := fp) fun a z => by cases z).trans p2.ext fun a z => .inl z
    have := sp_call (vs := .ref a :: vs) (as := .val (.loc i) :: as) (Q := Q) (wx := wx) hdd hn (p := ⟨p2.rel, RepA.val (f := []) (.loc (p2.ext.im i a ei)) p2.rep, p2.nd, p2.own, x12, fun b z => (p2.sub b z).imp id (p.ext.there b)⟩) e q
    exact this
theorem me_meth0 {pl : Sem Bool} (h : MEQ X CT o qa) (hc : Cls X.K (CT c)) (hm : Meth X.K (CT c) (Str.ofString mn) fa) (F : FnOk X.prog X.w X.K X.mg X.base CX k fa fd ps (spM X.K CT n g)) (hn : ∀ ds hs o, g ds hs = .ok o → ds.length = n) (hr : Room k X.A) (hb : Binds X.K fd ps ds) (hd : Vals dvs ds) (hdd : Consts X.K dvs dd) (hx : Passes CX X wx)
    (ht : eval (.Call (.Attribute o (Str.ofString mn) apos) [] [] pos) X.env = (do
      let ov ← eval o X.env
      standAt apos.atName
      let (f, first) ← holding [ov] (getMethod ov (Str.ofString mn) pl)
      callWith pos f first (backTo pos (starEach [] X.env)) (backToKw pos (keywordEach [] X.env))) := by rfl) :
    ME X CT (.Call (.Attribute o (Str.ofString mn) apos) [] [] pos) (mMeth c mn g dd qa maNil) :=
  pe_weak (pe_meth0 h hc hm F hr hb hd hx ht) fun σ H Q ⟨W, m, fp, d, m', rel, e, q⟩ => by
    obtain ⟨d0, e0, e⟩ := Res.bind_eq e
    obtain ⟨hi, e⟩ := Res.when_eq e
    obtain ⟨⟨as, m1⟩, e1, e⟩ := Res.bind_eq e
    cases e1
    refine ⟨W, m, fp, d0, rel, e0, fun v W1 H1 fd0 p => ?_⟩
    obtain ⟨i, a, dx, fs, rfl, rfl, rfl, ei, eh, el⟩ := isOf_rep p.rel p.rep hi
    refine ⟨a, dx, fs, rfl, eh, el, ?_⟩
    have nd : (fp ++ ([] : List Addr)).Nodup := by rw [List.append_nil]; exact p.rel.nd
    exact sp_call (vs := [.ref a]) (as := [.val (.loc i)]) (Q := Q) (wx := wx) hdd hn (p := ⟨p.rel, RepA.val (f := []) (.loc ei) .nil, nd, Own.nil, p.ext.sub (fun a z => by cases z), fun b z => .inl (by simpa using z)⟩) e q
end
end E
/-! EngT: making objects -/
namespace E
open PySem L2 PySem.Spec PyProof.Rows
/-- C(..): the new object, then __init__ -/
def mMake (c : Nat) (f : CallM) (dd : List D) (a : M (List Arg)) : M D := fun m => (a m).bind fun r => (callTail f dd (.val (.loc r.2.hs.length) :: r.1) ⟨r.2.env, r.2.hs ++ [⟨c, []⟩]⟩).bind fun o => match o.1 with
  | .non => .ok (.loc r.2.hs.length, o.2)
  | _ => .fail
section
variable {X : Cx} {CT : Nat → Addr} {wx : XK} {σ : L2.St} {W W1 : Wd} {H H1 : Hp} {fp fp1 fa : List Addr} {vs : List V} {as : List Arg} {m1 m' : Mem} {d : D} {Q : VK} {f : CallM} {dd : List D} {dvs : List V} {n c : Nat}
theorem RepA.ext {W' : Wd} {H' : Hp} {fp' fq : List Addr} (e : Ext W H W' H' fq) (o : Off W fq) (s : ∀ a ∈ fp, a ∈ fp') (n2 : ∀ a ∈ fp, a ∉ fq) {g : List Addr} (h : RepA X.K W H σ fp vs as g) (n : ∀ a ∈ g, a ∉ fq) : RepA X.K W' H' σ fp' vs as g := by
  induction h with
  | nil => exact .nil
  | val r _ ih => exact .val (r.ext e o fun a m => n a (List.mem_append_left _ m)) (ih fun a m => n a (List.mem_append_right _ m))
  | nam q _ ih => exact .nam q (ih n)
  | bor r q _ ih => exact .bor (r.ext e o fun a m => n2 a (q a m)) (fun a m => s a (q a m)) (ih n)
theorem sp_make (hd : Consts X.K dvs dd) (hn : ∀ ds hs o, f ds hs = .ok o → ds.length = n) (p : PostA X.K CT W H σ fp vs as m1 W1 H1 fp1 fa)
    (e : ((callTail f dd (.val (.loc m1.hs.length) :: as) ⟨m1.env, m1.hs ++ [⟨c, []⟩]⟩).bind fun o => match o.1 with
      | .non => Res.ok (D.loc m1.hs.length, o.2)
      | _ => .fail) = .ok (d, m')) (q : ∀ v W' H' fp' fd, Post X.K CT W H σ fp v d m' W' H' fp' fd → Q v H') :
    ∀ x dx, H1 x = none → H1 dx = none → dx ≠ x → spM X.K CT n f (.ref x :: (vs ++ dvs)) (upd (upd H1 dx (.own x)) x (.ins (CT c) dx [])) (fun v H2 => v = .non ∧ Q (.ref x) H2) wx := by
  intro x dx hx hdx ne
  obtain ⟨⟨o, mo⟩, e1, e⟩ := Res.bind_eq e
  dsimp only at e
  split at e
  · cases e
    have hx2 : (upd H1 dx (.own x)) x = none := by rw [upd_ne (Ne.symm ne)]; exact hx
    have x1 : Ext W1 H1 W1 (upd (upd H1 dx (.own x)) x (.ins (CT c) dx [])) [] := (ext_upd hdx).trans (ext_upd hx2) fun a z => by cases z
    let W2 : Wd := ⟨W1.F, W1.ι ++ [x]⟩
    have x2 : Ext W1 H1 W2 (upd (upd H1 dx (.own x)) x (.ins (CT c) dx [])) [] := ⟨x1.fm, fun n a h => by
      show (W1.ι ++ [x])[n]? = some a
      rw [List.getElem?_append_left (List.getElem?_eq_some_iff.mp h).1]; exact h, x1.keep, x1.fnew, x1.there⟩
    have fx2 : Fix W2 (upd (upd H1 dx (.own x)) x (.ins (CT c) dx [])) := fix_upd (fix_upd p.rel.fix)
    obtain ⟨s, g, rfl, h1, h2⟩ := p.rel.s
    have notx : ∀ a ∈ (s ++ g) ++ fa, a ≠ x := fun a z y => by
      subst y
      rcases List.mem_append.mp z with z | z
      · exact (p.rel.own a z).2 hx
      · exact (p.own a z).2 hx
    have nd := p.nd
    have pm : ((s ++ (g ++ [x])) ++ fa).Perm (x :: ((s ++ g) ++ fa)) := by
      rw [List.perm_iff_count]; intro a; simp only [List.count_append, List.count_cons, List.count_nil]; omega
    have nd2 : ((s ++ (g ++ [x])) ++ fa).Nodup := pm.nodup_iff.mpr (List.nodup_cons.mpr ⟨fun z => notx x z rfl, nd⟩)
    have own2 : Own W2 (upd (upd H1 dx (.own x)) x (.ins (CT c) dx [])) ((s ++ (g ++ [x])) ++ fa) := fun a z => by
      rcases List.mem_cons.mp (pm.mem_iff.mp z) with y | y
      · subst y
        exact ⟨fun q => p.rel.fix a q hx, by rw [upd_same]; exact fun z => by cases z⟩
      · have : Own W1 H1 ((s ++ g) ++ fa) := Own.app.mpr ⟨p.rel.own, p.own⟩
        exact (this.ext x2 fun a _ z => by cases z) a y
    rw [List.nodup_append] at nd2
    have r2 : Rel X.K CT W2 (upd (upd H1 dx (.own x)) x (.ins (CT c) dx [])) σ ⟨m1.env, m1.hs ++ [⟨c, []⟩]⟩ (s ++ (g ++ [x])) :=
      ⟨⟨s, g ++ [x], rfl, h1.ext x2 off_nil fun a _ z => (by cases z), (h2.ext x2 off_nil fun a _ z => (by cases z)).snoc upd_same⟩, nd2.1, (Own.app.mp own2).1, fx2⟩
    have hi : W2.ι[m1.hs.length]? = some x := by
      show (W1.ι ++ [x])[m1.hs.length]? = some x
      rw [← h2.len]; simp
    have ra : RepA X.K W2 (upd (upd H1 dx (.own x)) x (.ins (CT c) dx [])) σ (s ++ (g ++ [x])) (.ref x :: vs) (.val (.loc m1.hs.length) :: as) ([] ++ fa) :=
      RepA.val (f := []) (.loc hi) (RepA.ext x2 off_nil (fun a z => by
        rcases List.mem_append.mp z with z | z
        · simp [z]
        · simp [z]) (fun a _ z => by cases z) p.rep fun a _ z => by cases z)
    let fb := (s ++ (g ++ [x])) ++ fa
    have sb : ∀ a ∈ fb, a ∈ fp ∨ H a = none := fun a z => by
      rcases List.mem_cons.mp (pm.mem_iff.mp z) with y | y
      · subst y; exact .inr (p.ext.there a hx)
      · exact p.sub a y
    have pa : PostA X.K CT W2 (upd (upd H1 dx (.own x)) x (.ins (CT c) dx [])) σ fb (.ref x :: vs) (.val (.loc m1.hs.length) :: as) ⟨m1.env, m1.hs ++ [⟨c, []⟩]⟩ W2 (upd (upd H1 dx (.own x)) x (.ins (CT c) dx [])) (s ++ (g ++ [x])) ([] ++ fa) :=
      ⟨r2, ra, List.nodup_append.mpr nd2, (Own.app.mp own2).2, Ext.refl _ _ _, fun a z => .inl z⟩
    have xw : Ext W H W2 (upd (upd H1 dx (.own x)) x (.ins (CT c) dx [])) fp := p.ext.trans x2 fun a z => by cases z
    refine sp_call (d := .non) (m' := m') (Q := fun v H2 => v = .non ∧ Q (.ref x) H2) hd hn pa e1 fun v W' H' fp' fd po => ?_
    have rv := po.rep
    cases rv
    exact ⟨rfl, q _ W' H' fp' [] ⟨po.rel, .loc (po.ext.im _ _ hi), po.nd, po.own, xw.trans po.ext sb, fun a z => (po.sub a z).elim (sb a) fun y => .inr (xw.there a y)⟩⟩
  · cases e
variable {CX : CXT} {k : Nat} {fa' : Addr} {fd' : FuncData} {ps : List Str} {ds : List Value} {x : Str} {p pos : Pos} {e : Expr} {es : List Expr} {ml : M (List Arg)}
theorem me_make (M : Mk X.K (CT c) fa') (F : FnOk X.prog X.w X.K X.mg X.base CX k fa' fd' ps (spM X.K CT n f)) (hn : ∀ ds hs o, f ds hs = .ok o → ds.length = n) (hr : Room (k + 1) X.A) (hg : Gl X x) (hm : X.mg x = some (.ref (CT c))) (hb : Binds X.K fd' ps ds) (hd : Vals dvs ds) (hdd : Consts X.K dvs dd) (hx : Passes CX X wx)
    (ha : MA X CT (e :: es) ml) (hdb : (x == ("__debug__" : Str)) = false := by decide) (he : starEach (e :: es) X.env = (false, eval e X.env) :: starEach es X.env := by rfl) (hpl : (backTo pos (starEach es X.env)).any (·.1) = false := by rfl) :
    ME X CT (.Call (.Name x p) (e :: es) [] pos) (mMake c f dd ml) := pe_weak (pe_make M F hr hg hm hb hd hx ha hdb he hpl) fun σ H Q ⟨W, m, fp, d, m', rel, e, q⟩ => by
  obtain ⟨⟨as, m1⟩, e1, e⟩ := Res.bind_eq e
  exact ⟨W, m, fp, as, m1, rel, e1, fun vs W1 H1 fp1 fa pa => sp_make hdd hn pa e q⟩
theorem me_make0 (M : Mk X.K (CT c) fa') (F : FnOk X.prog X.w X.K X.mg X.base CX k fa' fd' ps (spM X.K CT n f)) (hn : ∀ ds hs o, f ds hs = .ok o → ds.length = n) (hr : Room (k + 1) X.A) (hg : Gl X x) (hm : X.mg x = some (.ref (CT c))) (hb : Binds X.K fd' ps ds) (hd : Vals dvs ds) (hdd : Consts X.K dvs dd) (hx : Passes CX X wx)
    (hdb : (x == ("__debug__" : Str)) = false := by decide) :
    ME X CT (.Call (.Name x p) [] [] pos) (mMake c f dd maNil) := pe_weak (pe_make0 M F hr hg hm hb hd hx hdb) fun σ H Q ⟨W, m, fp, d, m', rel, e, q⟩ => by
  obtain ⟨⟨as, m1⟩, e1, e⟩ := Res.bind_eq e
  cases e1
  have nd : (fp ++ ([] : List Addr)).Nodup := by rw [List.append_nil]; exact rel.nd
  exact sp_make (as := []) (vs := []) (fp1 := fp) (fa := []) (m1 := m) hdd hn ⟨rel, .nil, nd, Own.nil, Ext.refl _ _ _, fun a z => .inl (by simpa using z)⟩ e q
end
end E
/-! EngU: tuples of ints in their order -/
namespace E
open PySem L2 PySem.Spec PyProof.Rows
/-- from the first pair that differs on -/
def lexB (r : Int → Int → Bool) (z : Nat → Nat → Bool) : List Int → List Int → Bool
  | x :: xs, y :: ys => if x = y then lexB r z xs ys else r x y
  | xs, ys => z xs.length ys.length
theorem lexAt_B (r : Int → Int → Bool) (z : Nat → Nat → Bool) (hz : ∀ a b, z (a + 1) (b + 1) = z a b) : ∀ (k : Nat) (ns ms : List Int) (i : Nat), i ≤ ns.length → i ≤ ms.length → k = min (ns.length - i) (ms.length - i) →
    Ob.lexAt (fun j => decide (ns.getD j 0 = ms.getD j 0)) (fun j => r (ns.getD j 0) (ms.getD j 0)) (z ns.length ms.length) i k = lexB r z (ns.drop i) (ms.drop i) := by
  have hzi : ∀ i a b, z (a + i) (b + i) = z a b := by
    intro i
    induction i with
    | zero => intro a b; rfl
    | succ i ih => intro a b; rw [← Nat.add_assoc, ← Nat.add_assoc, hz, ih]
  intro k
  induction k with
  | zero =>
    intro ns ms i h1 h2 hk
    rw [Ob.lexAt_zero]
    have h3 : (ns.drop i).length = ns.length - i := List.length_drop
    have h4 : (ms.drop i).length = ms.length - i := List.length_drop
    have e : z ns.length ms.length = z (ns.drop i).length (ms.drop i).length := by
      rw [h3, h4, ← hzi i (ns.length - i) (ms.length - i), Nat.sub_add_cancel h1, Nat.sub_add_cancel h2]
    rw [e]
    cases hn : ns.drop i with
    | nil => unfold lexB; rfl
    | cons x xs =>
      cases hm : ms.drop i with
      | nil => unfold lexB; rfl
      | cons y ys => rw [hn] at h3; rw [hm] at h4; simp at h3 h4; omega
  | succ k ih =>
    intro ns ms i h1 h2 hk
    have l1 : i < ns.length := by omega
    have l2 : i < ms.length := by omega
    rw [Ob.lexAt_succ, ih ns ms (i + 1) (by omega) (by omega) (by omega), List.drop_eq_getElem_cons l1, List.drop_eq_getElem_cons l2]
    have g1 : ns.getD i 0 = ns[i] := by simp [List.getD_eq_getElem?_getD, l1]
    have g2 : ms.getD i 0 = ms[i] := by simp [List.getD_eq_getElem?_getD, l2]
    rw [g1, g2]
    show (if _ then _ else _) = (if ns[i] = ms[i] then lexB r z (ns.drop (i + 1)) (ms.drop (i + 1)) else r ns[i] ms[i])
    by_cases e : ns[i] = ms[i]
    · rw [if_pos (decide_eq_true e), if_pos e]
    · rw [if_neg (by rw [decide_eq_false e]; simp), if_neg e]
def ltI (x y : Int) : Bool := decide (x < y)
def leI (x y : Int) : Bool := decide (x ≤ y)
def gtI (x y : Int) : Bool := decide (y < x)
def geI (x y : Int) : Bool := decide (y ≤ x)
def tupLt (a b : List Int) : Bool := lexB ltI (fun n m => decide (n < m)) a b
def tupLe (a b : List Int) : Bool := lexB leI (fun n m => decide (n ≤ m)) a b
def tupGt (a b : List Int) : Bool := lexB gtI (fun n m => decide (n > m)) a b
def tupGe (a b : List Int) : Bool := lexB geI (fun n m => decide (n ≥ m)) a b
@[simp] def dLtT : D → D → Res D
  | .int i, .int j => .ok (.bl (decide (i < j)))
  | .str i, .str j => .ok (.bl (decide (i.cps.toList < j.cps.toList)))
  | .tup xs, .tup ys => match toInts xs, toInts ys with
    | some ns, some ms => .ok (.bl (tupLt ns ms))
    | _, _ => .fail
  | _, _ => .fail
def rLtTT (K : PySem.W.Frag) : R2 := fun x y H Q => ∃ (a b : Addr) (ns ms : List Int), x = .ref a ∧ y = .ref b ∧ SqT K H a (ns.map V.int) ∧ SqT K H b (ms.map V.int) ∧ Q (.bl (tupLt ns ms)) H
theorem op_ltTT {X : Cx} (hu : X.A.units < cLine) : OpR X (compareOp .Lt) (rLtTT X.K) := by
  intro pins s σ H x y v u Q I rx ry h
  obtain ⟨a, b, ns, ms, rfl, rfl, ha, hb, q⟩ := h
  cases rx
  cases ry
  obtain ⟨its, r1, p1, _⟩ := I.tuple ha
  obtain ⟨its2, r2, p2, _⟩ := I.tuple hb
  have i1 : IntsAre its ns := Vals.ints r1
  have i2 : IntsAre its2 ms := Vals.ints r2
  have e1 : its.toArray.size = ns.length := by rw [List.size_toArray]; exact i1.length
  have e2 : its2.toArray.size = ms.length := by rw [List.size_toArray]; exact i2.length
  have at1 : ∀ j (h1 : j < its.toArray.size), ∃ t, its.toArray[j] = .int (ns.getD j 0) t := fun j h1 => PyProof.Rows.IntsAre.int_at i1 _ _ (by simp at h1; simp [h1])
  have at2 : ∀ j (h1 : j < its2.toArray.size), ∃ t, its2.toArray[j] = .int (ms.getD j 0) t := fun j h1 => PyProof.Rows.IntsAre.int_at i2 _ _ (by simp at h1; simp [h1])
  have R := Ob.RcOp.tuples_lt (A := X.A) (s := s) (e := fun j => decide (ns.getD j 0 = ms.getD j 0)) (r := fun j => ltI (ns.getD j 0) (ms.getD j 0)) p1 p2 hu (fun j h1 h2 => by
    obtain ⟨t, et⟩ := at1 j h1
    obtain ⟨t', et'⟩ := at2 j h2
    rw [et, et']
    have z : (ns.getD j 0 == ms.getD j 0) = decide (ns.getD j 0 = ms.getD j 0) := by
      by_cases q : ns.getD j 0 = ms.getD j 0
      · rw [decide_eq_true q]; exact beq_iff_eq.mpr q
      · rw [decide_eq_false q]; exact beq_eq_false_iff_ne.mpr q
    rw [← z]
    exact SeqAt.EqAt.int_int _ _ _ _) (fun j h1 h2 _ => by
    obtain ⟨t, et⟩ := at1 j h1
    obtain ⟨t', et'⟩ := at2 j h2
    rw [et, et']
    exact Ob.RcOp.lt_int _ _ _ _)
  rw [e1, e2] at R
  have hB := lexAt_B ltI (fun n m => decide (n < m)) (fun a b => by simp) (min ns.length ms.length) ns ms 0 (Nat.zero_le _) (Nat.zero_le _) (by simp)
  rw [List.drop_zero, List.drop_zero] at hB
  rw [hB] at R
  exact R _ _ _ _ ⟨.bl (tupLt ns ms), H, I, rfl, q⟩
theorem od_ltT {X : Cx} (hu : X.A.units < cLine) : OpD X (compareOp .Lt) dLtT := by
  refine ⟨_, OpR.or op_lt (OpR.or (op_ltTT hu) op_lt_str), fun W H x y d1 d2 f1 f2 d Q x0 a b e q => ?_⟩
  unfold dLtT at e; split at e
  · cases e; cases a; cases b
    exact .inl ⟨_, _, rfl, rfl, q _ W H [] (New.sc x0 .bl)⟩
  · cases e; cases a; cases b
    exact .inr (.inr ⟨_, _, rfl, rfl, q _ W H [] (New.sc x0 .bl)⟩)
  · split at e
    · rename_i ns ms e1 e2
      cases e
      obtain ⟨p, vs, rfl, s, _, l⟩ := a.tupl
      obtain ⟨p', vs', rfl, s', _, l'⟩ := b.tupl
      rw [toInts_eq e1] at l
      rw [toInts_eq e2] at l'
      obtain ⟨rfl, _⟩ := repI l
      obtain ⟨rfl, _⟩ := repI l'
      exact .inr (.inl ⟨p, p', ns, ms, rfl, rfl, s, s', q _ W H [] (New.sc x0 .bl)⟩)
    · cases e
  · cases e
@[simp] def dLeT : D → D → Res D
  | .int i, .int j => .ok (.bl (decide (i ≤ j)))
  | .tup xs, .tup ys => match toInts xs, toInts ys with
    | some ns, some ms => .ok (.bl (tupLe ns ms))
    | _, _ => .fail
  | _, _ => .fail
def rLeTT (K : PySem.W.Frag) : R2 := fun x y H Q => ∃ (a b : Addr) (ns ms : List Int), x = .ref a ∧ y = .ref b ∧ SqT K H a (ns.map V.int) ∧ SqT K H b (ms.map V.int) ∧ Q (.bl (tupLe ns ms)) H
theorem op_leTT {X : Cx} (hu : X.A.units < cLine) : OpR X (compareOp .LtE) (rLeTT X.K) := by
  intro pins s σ H x y v u Q I rx ry h
  obtain ⟨a, b, ns, ms, rfl, rfl, ha, hb, q⟩ := h
  cases rx
  cases ry
  obtain ⟨its, r1, p1, _⟩ := I.tuple ha
  obtain ⟨its2, r2, p2, _⟩ := I.tuple hb
  have i1 : IntsAre its ns := Vals.ints r1
  have i2 : IntsAre its2 ms := Vals.ints r2
  have e1 : its.toArray.size = ns.length := by rw [List.size_toArray]; exact i1.length
  have e2 : its2.toArray.size = ms.length := by rw [List.size_toArray]; exact i2.length
  have at1 : ∀ j (h1 : j < its.toArray.size), ∃ t, its.toArray[j] = .int (ns.getD j 0) t := fun j h1 => PyProof.Rows.IntsAre.int_at i1 _ _ (by simp at h1; simp [h1])
  have at2 : ∀ j (h1 : j < its2.toArray.size), ∃ t, its2.toArray[j] = .int (ms.getD j 0) t := fun j h1 => PyProof.Rows.IntsAre.int_at i2 _ _ (by simp at h1; simp [h1])
  have R := Ob.RcOp.tuples_le (A := X.A) (s := s) (e := fun j => decide (ns.getD j 0 = ms.getD j 0)) (r := fun j => leI (ns.getD j 0) (ms.getD j 0)) p1 p2 hu (fun j h1 h2 => by
    obtain ⟨t, et⟩ := at1 j h1
    obtain ⟨t', et'⟩ := at2 j h2
    rw [et, et']
    have z : (ns.getD j 0 == ms.getD j 0) = decide (ns.getD j 0 = ms.getD j 0) := by
      by_cases q : ns.getD j 0 = ms.getD j 0
      · rw [decide_eq_true q]; exact beq_iff_eq.mpr q
      · rw [decide_eq_false q]; exact beq_eq_false_iff_ne.mpr q
    rw [← z]
    exact SeqAt.EqAt.int_int _ _ _ _) (fun j h1 h2 _ => by
    obtain ⟨t, et⟩ := at1 j h1
    obtain ⟨t', et'⟩ := at2 j h2
    rw [et, et']
    exact Ob.RcOp.le_int _ _ _ _)
  rw [e1, e2] at R
  have hB := lexAt_B leI (fun n m => decide (n ≤ m)) (fun a b => by simp) (min ns.length ms.length) ns ms 0 (Nat.zero_le _) (Nat.zero_le _) (by simp)
  rw [List.drop_zero, List.drop_zero] at hB
  rw [hB] at R
  exact R _ _ _ _ ⟨.bl (tupLe ns ms), H, I, rfl, q⟩
theorem od_leT {X : Cx} (hu : X.A.units < cLine) : OpD X (compareOp .LtE) dLeT := by
  refine ⟨_, OpR.or op_le (op_leTT hu), fun W H x y d1 d2 f1 f2 d Q x0 a b e q => ?_⟩
  unfold dLeT at e; split at e
  · cases e; cases a; cases b
    exact .inl ⟨_, _, rfl, rfl, q _ W H [] (New.sc x0 .bl)⟩
  · split at e
    · rename_i ns ms e1 e2
      cases e
      obtain ⟨p, vs, rfl, s, _, l⟩ := a.tupl
      obtain ⟨p', vs', rfl, s', _, l'⟩ := b.tupl
      rw [toInts_eq e1] at l
      rw [toInts_eq e2] at l'
      obtain ⟨rfl, _⟩ := repI l
      obtain ⟨rfl, _⟩ := repI l'
      exact .inr ⟨p, p', ns, ms, rfl, rfl, s, s', q _ W H [] (New.sc x0 .bl)⟩
    · cases e
  · cases e
@[simp] def dGtT : D → D → Res D
  | .int i, .int j => .ok (.bl (decide (j < i)))
  | .tup xs, .tup ys => match toInts xs, toInts ys with
    | some ns, some ms => .ok (.bl (tupGt ns ms))
    | _, _ => .fail
  | _, _ => .fail
def rGtTT (K : PySem.W.Frag) : R2 := fun x y H Q => ∃ (a b : Addr) (ns ms : List Int), x = .ref a ∧ y = .ref b ∧ SqT K H a (ns.map V.int) ∧ SqT K H b (ms.map V.int) ∧ Q (.bl (tupGt ns ms)) H
theorem op_gtTT {X : Cx} (hu : X.A.units < cLine) : OpR X (compareOp .Gt) (rGtTT X.K) := by
  intro pins s σ H x y v u Q I rx ry h
  obtain ⟨a, b, ns, ms, rfl, rfl, ha, hb, q⟩ := h
  cases rx
  cases ry
  obtain ⟨its, r1, p1, _⟩ := I.tuple ha
  obtain ⟨its2, r2, p2, _⟩ := I.tuple hb
  have i1 : IntsAre its ns := Vals.ints r1
  have i2 : IntsAre its2 ms := Vals.ints r2
  have e1 : its.toArray.size = ns.length := by rw [List.size_toArray]; exact i1.length
  have e2 : its2.toArray.size = ms.length := by rw [List.size_toArray]; exact i2.length
  have at1 : ∀ j (h1 : j < its.toArray.size), ∃ t, its.toArray[j] = .int (ns.getD j 0) t := fun j h1 => PyProof.Rows.IntsAre.int_at i1 _ _ (by simp at h1; simp [h1])
  have at2 : ∀ j (h1 : j < its2.toArray.size), ∃ t, its2.toArray[j] = .int (ms.getD j 0) t := fun j h1 => PyProof.Rows.IntsAre.int_at i2 _ _ (by simp at h1; simp [h1])
  have R := Ob.RcOp.tuples_gt (A := X.A) (s := s) (e := fun j => decide (ns.getD j 0 = ms.getD j 0)) (r := fun j => gtI (ns.getD j 0) (ms.getD j 0)) p1 p2 hu (fun j h1 h2 => by
    obtain ⟨t, et⟩ := at1 j h1
    obtain ⟨t', et'⟩ := at2 j h2
    rw [et, et']
    have z : (ns.getD j 0 == ms.getD j 0) = decide (ns.getD j 0 = ms.getD j 0) := by
      by_cases q : ns.getD j 0 = ms.getD j 0
      · rw [decide_eq_true q]; exact beq_iff_eq.mpr q
      · rw [decide_eq_false q]; exact beq_eq_false_iff_ne.mpr q
    rw [← z]
    exact SeqAt.EqAt.int_int _ _ _ _) (fun j h1 h2 _ => by
    obtain ⟨t, et⟩ := at1 j h1
    obtain ⟨t', et'⟩ := at2 j h2
    rw [et, et']
    exact Ob.RcOp.gt_int _ _ _ _)
  rw [e1, e2] at R
  have hB := lexAt_B gtI (fun n m => decide (n > m)) (fun a b => by simp) (min ns.length ms.length) ns ms 0 (Nat.zero_le _) (Nat.zero_le _) (by simp)
  rw [List.drop_zero, List.drop_zero] at hB
  rw [hB] at R
  exact R _ _ _ _ ⟨.bl (tupGt ns ms), H, I, rfl, q⟩
theorem od_gtT {X : Cx} (hu : X.A.units < cLine) : OpD X (compareOp .Gt) dGtT := by
  refine ⟨_, OpR.or op_gt (op_gtTT hu), fun W H x y d1 d2 f1 f2 d Q x0 a b e q => ?_⟩
  unfold dGtT at e; split at e
  · cases e; cases a; cases b
    exact .inl ⟨_, _, rfl, rfl, q _ W H [] (New.sc x0 .bl)⟩
  · split at e
    · rename_i ns ms e1 e2
      cases e
      obtain ⟨p, vs, rfl, s, _, l⟩ := a.tupl
      obtain ⟨p', vs', rfl, s', _, l'⟩ := b.tupl
      rw [toInts_eq e1] at l
      rw [toInts_eq e2] at l'
      obtain ⟨rfl, _⟩ := repI l
      obtain ⟨rfl, _⟩ := repI l'
      exact .inr ⟨p, p', ns, ms, rfl, rfl, s, s', q _ W H [] (New.sc x0 .bl)⟩
    · cases e
  · cases e
@[simp] def dGeT : D → D → Res D
  | .int i, .int j => .ok (.bl (decide (j ≤ i)))
  | .tup xs, .tup ys => match toInts xs, toInts ys with
    | some ns, some ms => .ok (.bl (tupGe ns ms))
    | _, _ => .fail
  | _, _ => .fail
def rGeTT (K : PySem.W.Frag) : R2 := fun x y H Q => ∃ (a b : Addr) (ns ms : List Int), x = .ref a ∧ y = .ref b ∧ SqT K H a (ns.map V.int) ∧ SqT K H b (ms.map V.int) ∧ Q (.bl (tupGe ns ms)) H
theorem op_geTT {X : Cx} (hu : X.A.units < cLine) : OpR X (compareOp .GtE) (rGeTT X.K) := by
  intro pins s σ H x y v u Q I rx ry h
  obtain ⟨a, b, ns, ms, rfl, rfl, ha, hb, q⟩ := h
  cases rx
  cases ry
  obtain ⟨its, r1, p1, _⟩ := I.tuple ha
  obtain ⟨its2, r2, p2, _⟩ := I.tuple hb
  have i1 : IntsAre its ns := Vals.ints r1
  have i2 : IntsAre its2 ms := Vals.ints r2
  have e1 : its.toArray.size = ns.length := by rw [List.size_toArray]; exact i1.length
  have e2 : its2.toArray.size = ms.length := by rw [List.size_toArray]; exact i2.length
  have at1 : ∀ j (h1 : j < its.toArray.size), ∃ t, its.toArray[j] = .int (ns.getD j 0) t := fun j h1 => PyProof.Rows.IntsAre.int_at i1 _ _ (by simp at h1; simp [h1])
  have at2 : ∀ j (h1 : j < its2.toArray.size), ∃ t, its2.toArray[j] = .int (ms.getD j 0) t := fun j h1 => PyProof.Rows.IntsAre.int_at i2 _ _ (by simp at h1; simp [h1])
  have R := Ob.RcOp.tuples_ge (A := X.A) (s := s) (e := fun j => decide (ns.getD j 0 = ms.getD j 0)) (r := fun j => geI (ns.getD j 0) (ms.getD j 0)) p1 p2 hu (fun j h1 h2 => by
    obtain ⟨t, et⟩ := at1 j h1
    obtain ⟨t', et'⟩ := at2 j h2
    rw [et, et']
    have z : (ns.getD j 0 == ms.getD j 0) = decide (ns.getD j 0 = ms.getD j 0) := by
      by_cases q : ns.getD j 0 = ms.getD j 0
      · rw [decide_eq_true q]; exact beq_iff_eq.mpr q
      · rw [decide_eq_false q]; exact beq_eq_false_iff_ne.mpr q
    rw [← z]
    exact SeqAt.EqAt.int_int _ _ _ _) (fun j h1 h2 _ => by
    obtain ⟨t, et⟩ := at1 j h1
    obtain ⟨t', et'⟩ := at2 j h2
    rw [et, et']
    exact Ob.RcOp.ge_int _ _ _ _)
  rw [e1, e2] at R
  have hB := lexAt_B geI (fun n m => decide (n ≥ m)) (fun a b => by simp) (min ns.length ms.length) ns ms 0 (Nat.zero_le _) (Nat.zero_le _) (by simp)
  rw [List.drop_zero, List.drop_zero] at hB
  rw [hB] at R
  exact R _ _ _ _ ⟨.bl (tupGe ns ms), H, I, rfl, q⟩
theorem od_geT {X : Cx} (hu : X.A.units < cLine) : OpD X (compareOp .GtE) dGeT := by
  refine ⟨_, OpR.or op_ge (op_geTT hu), fun W H x y d1 d2 f1 f2 d Q x0 a b e q => ?_⟩
  unfold dGeT at e; split at e
  · cases e; cases a; cases b
    exact .inl ⟨_, _, rfl, rfl, q _ W H [] (New.sc x0 .bl)⟩
  · split at e
    · rename_i ns ms e1 e2
      cases e
      obtain ⟨p, vs, rfl, s, _, l⟩ := a.tupl
      obtain ⟨p', vs', rfl, s', _, l'⟩ := b.tupl
      rw [toInts_eq e1] at l
      rw [toInts_eq e2] at l'
      obtain ⟨rfl, _⟩ := repI l
      obtain ⟨rfl, _⟩ := repI l'
      exact .inr ⟨p, p', ns, ms, rfl, rfl, s, s', q _ W H [] (New.sc x0 .bl)⟩
    · cases e
  · cases e
end E
/-! EngV: defs with defaults; one of two readings; max, min -/
namespace E
open PySem L2 PySem.Spec PyProof.Rows
section
variable {P : Program} {w : World} {K : PySem.W.Frag} {mg : Str → Option Value} {base : Heap} {CT : Nat → Addr}
theorem fun_okD {x qual : Str} {st : Stmt} {f : Addr} {fd : FuncData} {N ps : List Str} {k : Nat} {pin : List Nat} {b : MS} {dvs : List V} {kws : List (Str × V)} (F : FunD K x qual (defArgs st) (defBody st) (defScope st) dvs kws f fd) (S : FnScope N ps (defScope st))
    (hbody : ∀ (cdv : Value) (A : Around) (outer : List Env) (s : Shared) (H : Hp) (wx : XK), Room k (A.deeper (envOfC qual (defScope st) s.heap.objs.size f cdv)) → MSs (cxOf CX0 P w K mg base N qual (defScope st) f cdv A outer s H wx).nox CT pin (defBody st) b) :
    FnOk P w K mg base CX0 (k + 1) f fd ps (spM K CT ps.length (mDef ps.length N.length pin b)) :=
  F.ok S (fun vs H Q E h => spM_len h) fun cdv A outer s H vs Q E hr h => ⟨_, (hbody cdv A outer s H E hr).nox, body_ok h⟩
end
def mOrM (a b : M D) : M D := fun m => match a m with
  | .ok r => .ok r
  | _ => b m
theorem pe_or2 {X : Cx} {e : Expr} {t t' : TE} (h : PE X e t) (h' : PE X e t') : PE X e (fun σ H Q => t σ H Q ∨ t' σ H Q) := ⟨fun pins s σ H Q I q => q.elim (h.run pins s σ H Q I) (h'.run pins s σ H Q I)⟩
theorem me_or2 {X : Cx} {CT : Nat → Addr} {e : Expr} {a b : M D} (ha : ME X CT e a) (hb : ME X CT e b) : ME X CT e (mOrM a b) := pe_weak (pe_or2 ha hb) fun σ H Q ⟨W, m, fp, d, m', rel, e, q⟩ => by
  unfold mOrM at e
  split at e
  · rename_i r er
    cases e
    exact .inl ⟨W, m, fp, d, m', rel, er, q⟩
  · exact .inr ⟨W, m, fp, d, m', rel, e, q⟩
end E
/-! EngP: the law's end -/
namespace E
open PySem L2 PySem.Spec PyProof.Rows
def fuel : Nat := 1000000000
def spLaw (K : PySem.W.Frag) : Sp := fun vs H Q _ => ∃ (a : Addr) (ns : List Int), vs = [.ref a] ∧ SqL K H a (ns.map V.int) ∧ ns.length ≤ 63 ∧ ∀ H', Q (.bl true) H'
theorem sp_law {K : PySem.W.Frag} {CT : Nat → Addr} {m : CallM} (h : ∀ ns : List Int, ns.length ≤ 63 → ∃ ds hs, m [.lst false (ns.map .int)] [] = .ok (.bl true, ds, hs)) : ∀ vs H Q wx, spLaw K vs H Q wx → spM K CT 1 m vs H Q wx := by
  rintro vs H Q wx ⟨a, ns, rfl, s, hl, q⟩
  obtain ⟨ds, hs, e⟩ := h ns hl
  have hF : FzL K ⟨fun x => x = a ∧ H a ≠ none, []⟩ H a (ns.map V.int) := by
    rcases s with s | s
    · refine .inl ⟨⟨rfl, ?_⟩, s⟩
      rcases s with s | ⟨o, s⟩ <;> (rw [s]; exact fun z => by cases z)
    · exact .inr s
  refine ⟨⟨fun x => x = a ∧ H a ≠ none, []⟩, _, [], [], [], .bl true, ds, hs, rfl, RepL.cons (f := []) (g := []) (.lstF hF (repIs ns)) .nil, .nil, List.nodup_nil, Own.nil, fun x hx => by rw [hx.1]; exact hx.2, e, fun v W' H' fd' fh' fr _ _ r _ _ _ _ _ => ?_⟩
  cases r
  exact q H'
theorem law_end {P : Program} {w : World} {K : PySem.W.Frag} {mg : Str → Option Value} {CT : Nat → Addr} {m : CallM} {k : Nat} {fa : Addr} {x : Str} (h : ∀ ns : List Int, ns.length ≤ 63 → ∃ ds hs, m [.lst false (ns.map .int)] [] = .ok (.bl true, ds, hs))
    (r : ∃ fd : FuncData, (∀ (s : Shared) (v : Value), BindsTo s fd ⟨[v], []⟩ [(x, v)]) ∧ ∀ base : Heap, K.In base → base.Ns mainGlobals mg → FnOk P w K mg base CX0 k fa fd [x] (spM K CT 1 m)) :
    ∃ fd : FuncData, (∀ (s : Shared) (v : Value), BindsTo s fd ⟨[v], []⟩ [(x, v)]) ∧ ∀ base : Heap, K.In base → base.Ns mainGlobals mg → FnOk P w K mg base CX0 k fa fd [x] (spLaw K) := by
  obtain ⟨fd, b, f⟩ := r
  exact ⟨fd, b, fun base h1 h2 => (f base h1 h2).imp (sp_law h)⟩
end E
/-! EngQ: the combinators at a state that is written out (printed by mkap.py) -/
namespace E
open PySem L2
def getV : Option D → Res D
  | some .und => .fail
  | some d => .ok d
  | none => .fail
@[simp] theorem getV_none : getV none = .fail := rfl
@[simp] theorem getV_und : getV (some .und) = .fail := rfl
@[simp] theorem getV_pure {a : D} (h : a.pure = true) : getV (some a) = .ok a := by cases a <;> first | rfl | (simp at h)
@[simp] theorem getV_non : getV (some (.non )) = .ok (.non ) := rfl
@[simp] theorem getV_bl (b : Bool) : getV (some (.bl b)) = .ok (.bl b) := rfl
@[simp] theorem getV_int (b : Int) : getV (some (.int b)) = .ok (.int b) := rfl
@[simp] theorem getV_str (b : Str) : getV (some (.str b)) = .ok (.str b) := rfl
@[simp] theorem getV_loc (b : Nat) : getV (some (.loc b)) = .ok (.loc b) := rfl
@[simp] theorem getV_ty (b : String) : getV (some (.ty b)) = .ok (.ty b) := rfl
@[simp] theorem getV_tup (b : List D) : getV (some (.tup b)) = .ok (.tup b) := rfl
@[simp] theorem getV_lst (o : Bool) (b : List D) : getV (some (.lst o b)) = .ok (.lst o b) := rfl
@[simp] theorem getV_dic (o : Bool) (b : List (D × D)) : getV (some (.dic o b)) = .ok (.dic o b) := rfl
@[simp] theorem defd_pure {a : D} (h : a.pure = true) : a.defd = true := by cases a <;> first | rfl | (simp at h)
@[simp] theorem defd_und : D.und.defd = false := rfl
@[simp] theorem defd_non : (.non  : D).defd = true := rfl
@[simp] theorem defd_bl (b : Bool) : (.bl b : D).defd = true := rfl
@[simp] theorem defd_int (b : Int) : (.int b : D).defd = true := rfl
@[simp] theorem defd_str (b : Str) : (.str b : D).defd = true := rfl
@[simp] theorem defd_loc (b : Nat) : (.loc b : D).defd = true := rfl
@[simp] theorem defd_ty (b : String) : (.ty b : D).defd = true := rfl
@[simp] theorem defd_tup (b : List D) : (.tup b : D).defd = true := rfl
@[simp] theorem defd_lst (o : Bool) (b : List D) : (.lst o b : D).defd = true := rfl
@[simp] theorem defd_dic (o : Bool) (b : List (D × D)) : (.dic o b : D).defd = true := rfl
def grabV (i : Nat) (as : List Arg) (env : List D) : Option D → Res (List D × List (Option Nat) × List D)
  | some .und => .fail
  | some d => if d.pure = true then (grab as env).bind fun r => .ok (d :: r.1, none :: r.2.1, r.2.2)
    else (grab as (env.set i .und)).bind fun r => .ok (d :: r.1, some i :: r.2.1, r.2.2)
  | none => .fail
@[simp] theorem grab_nil (env : List D) : grab [] env = .ok ([], [], env) := by unfold grab; rfl
@[simp] theorem grab_val (d : D) (as : List Arg) (env : List D) : grab (.val d :: as) env = ((grab as env).bind fun r => .ok (d :: r.1, none :: r.2.1, r.2.2)) := by rw [grab]
@[simp] theorem grab_bor (d : D) (as : List Arg) (env : List D) : grab (.bor d :: as) env = Res.when d.pure ((grab as env).bind fun r => .ok (d :: r.1, none :: r.2.1, r.2.2)) := by rw [grab]
@[simp] theorem grab_nam (i : Nat) (as : List Arg) (env : List D) : grab (.nam i :: as) env = grabV i as env env[i]? := by
  rw [grab]
  generalize env[i]? = o
  rcases o with _ | d
  · rfl
  · cases d <;> rfl
@[simp] theorem grabV_none (i : Nat) (as : List Arg) (env : List D) : grabV i as env none = .fail := rfl
@[simp] theorem grabV_und (i : Nat) (as : List Arg) (env : List D) : grabV i as env (some .und) = .fail := rfl
@[simp] theorem grabV_pure (i : Nat) (as : List Arg) (env : List D) {a : D} (h : a.pure = true) : grabV i as env (some a) = ((grab as env).bind fun r => .ok (a :: r.1, none :: r.2.1, r.2.2)) := by cases a <;> simp_all [grabV]
@[simp] theorem grabV_non (i : Nat) (as : List Arg) (env : List D) : grabV i as env (some (.non )) = ((grab as env).bind fun r => .ok ((.non ) :: r.1, none :: r.2.1, r.2.2)) := grabV_pure i as env rfl
@[simp] theorem grabV_bl (i : Nat) (as : List Arg) (env : List D) (b : Bool) : grabV i as env (some (.bl b)) = ((grab as env).bind fun r => .ok ((.bl b) :: r.1, none :: r.2.1, r.2.2)) := grabV_pure i as env rfl
@[simp] theorem grabV_int (i : Nat) (as : List Arg) (env : List D) (b : Int) : grabV i as env (some (.int b)) = ((grab as env).bind fun r => .ok ((.int b) :: r.1, none :: r.2.1, r.2.2)) := grabV_pure i as env rfl
@[simp] theorem grabV_str (i : Nat) (as : List Arg) (env : List D) (b : Str) : grabV i as env (some (.str b)) = ((grab as env).bind fun r => .ok ((.str b) :: r.1, none :: r.2.1, r.2.2)) := grabV_pure i as env rfl
@[simp] theorem grabV_loc (i : Nat) (as : List Arg) (env : List D) (b : Nat) : grabV i as env (some (.loc b)) = ((grab as env).bind fun r => .ok ((.loc b) :: r.1, none :: r.2.1, r.2.2)) := grabV_pure i as env rfl
@[simp] theorem grabV_ty (i : Nat) (as : List Arg) (env : List D) (b : String) : grabV i as env (some (.ty b)) = ((grab as env).bind fun r => .ok ((.ty b) :: r.1, none :: r.2.1, r.2.2)) := grabV_pure i as env rfl
@[simp] theorem grabV_tup (i : Nat) (as : List Arg) (env : List D) (b : List D) : grabV i as env (some (.tup b)) = if (.tup b : D).pure = true then (grab as env).bind fun r => .ok ((.tup b : D) :: r.1, none :: r.2.1, r.2.2) else (grab as (env.set i .und)).bind fun r => .ok ((.tup b : D) :: r.1, some i :: r.2.1, r.2.2) := rfl
@[simp] theorem grabV_lst (i : Nat) (as : List Arg) (env : List D) (o : Bool) (b : List D) : grabV i as env (some (.lst o b)) = if (.lst o b : D).pure = true then (grab as env).bind fun r => .ok ((.lst o b : D) :: r.1, none :: r.2.1, r.2.2) else (grab as (env.set i .und)).bind fun r => .ok ((.lst o b : D) :: r.1, some i :: r.2.1, r.2.2) := rfl
@[simp] theorem grabV_dic (i : Nat) (as : List Arg) (env : List D) (o : Bool) (b : List (D × D)) : grabV i as env (some (.dic o b)) = if (.dic o b : D).pure = true then (grab as env).bind fun r => .ok ((.dic o b : D) :: r.1, none :: r.2.1, r.2.2) else (grab as (env.set i .und)).bind fun r => .ok ((.dic o b : D) :: r.1, some i :: r.2.1, r.2.2) := rfl

@[simp] theorem mqC_ap (d : D) (env : List D) (hs : List Ob) : mqC d ⟨env, hs⟩ = (fun _ : Mem => .ok d) ⟨env, hs⟩ := rfl
@[simp] theorem mqVar_ap (i : Nat) (env : List D) (hs : List Ob) : mqVar i ⟨env, hs⟩ = getV env[i]? := rfl
@[simp] theorem mP_ap (q : MQ D) (env : List D) (hs : List Ob) : mP q ⟨env, hs⟩ = (fun m : Mem => (q m).bind fun d => Res.when d.pure (.ok (d, m))) ⟨env, hs⟩ := rfl
@[simp] theorem mVar_ap (i : Nat) (env : List D) (hs : List Ob) : mVar i ⟨env, hs⟩ = (fun m : Mem => (mqVar i m).bind fun d => if d.pure = true then .ok (d, m) else .ok (d.fz, { m with env := m.env.set i d.fz })) ⟨env, hs⟩ := rfl
@[simp] theorem mB_ap (q : MQ D) (env : List D) (hs : List Ob) : mB q ⟨env, hs⟩ = (fun m : Mem => (q m).bind fun d => .ok (d, m)) ⟨env, hs⟩ := rfl
@[simp] theorem mOp2_ap (g : D → D → Res D) (ma mb : M D) (env : List D) (hs : List Ob) : mOp2 g ma mb ⟨env, hs⟩ = (fun m : Mem => (ma m).bind fun r1 => (mb r1.2).bind fun r2 => (g r1.1 r2.1).bind fun d => .ok (d, r2.2)) ⟨env, hs⟩ := rfl
@[simp] theorem mOpN_ap (g : D → D → Res D) (i : Nat) (mb : M D) (env : List D) (hs : List Ob) : mOpN g i mb ⟨env, hs⟩ = (fun m : Mem => (mqVar i m).bind fun _ => (mb m).bind fun r2 => (mqVar i r2.2).bind fun d1 => (g d1 r2.1).bind fun d => .ok (d, r2.2)) ⟨env, hs⟩ := rfl
@[simp] theorem mqOp2_ap (g : D → D → Res D) (qa qb : MQ D) (env : List D) (hs : List Ob) : mqOp2 g qa qb ⟨env, hs⟩ = (fun m : Mem => (qa m).bind fun d1 => (qb m).bind fun d2 => (g d1 d2).bind fun d => Res.when d.pure (.ok d)) ⟨env, hs⟩ := rfl
@[simp] theorem mOpQ_ap (g : D → D → Res D) (qa qb : MQ D) (env : List D) (hs : List Ob) : mOpQ g qa qb ⟨env, hs⟩ = (fun m : Mem => (qa m).bind fun d1 => (qb m).bind fun d2 => (g d1 d2).bind fun d => .ok (d, m)) ⟨env, hs⟩ := rfl
@[simp] theorem mtB_ap (e : M D) (env : List D) (hs : List Ob) : mtB e ⟨env, hs⟩ = (fun m : Mem => (e m).bind fun r => r.1.isB.bind fun b => .ok (b, r.2)) ⟨env, hs⟩ := rfl
@[simp] theorem mtV_ap (e : M D) (env : List D) (hs : List Ob) : mtV e ⟨env, hs⟩ = (fun m : Mem => (e m).bind fun r => r.1.tru.bind fun b => .ok (b, r.2)) ⟨env, hs⟩ := rfl
@[simp] theorem mtAnd_ap (a b : M Bool) (env : List D) (hs : List Ob) : mtAnd a b ⟨env, hs⟩ = (fun m : Mem => (a m).bind fun r => if r.1 = true then b r.2 else .ok (false, r.2)) ⟨env, hs⟩ := rfl
@[simp] theorem mtOr_ap (a b : M Bool) (env : List D) (hs : List Ob) : mtOr a b ⟨env, hs⟩ = (fun m : Mem => (a m).bind fun r => if r.1 = true then .ok (true, r.2) else b r.2) ⟨env, hs⟩ := rfl
@[simp] theorem mtNot_ap (a : M Bool) (env : List D) (hs : List Ob) : mtNot a ⟨env, hs⟩ = (fun m : Mem => (a m).bind fun r => .ok (!r.1, r.2)) ⟨env, hs⟩ := rfl
@[simp] theorem mAnd_ap (a b : M D) (env : List D) (hs : List Ob) : mAnd a b ⟨env, hs⟩ = (fun m : Mem => (a m).bind fun r => r.1.isB.bind fun c => if c = true then b r.2 else .ok (.bl false, r.2)) ⟨env, hs⟩ := rfl
@[simp] theorem mOr_ap (a b : M D) (env : List D) (hs : List Ob) : mOr a b ⟨env, hs⟩ = (fun m : Mem => (a m).bind fun r => r.1.isB.bind fun c => if c = true then .ok (.bl true, r.2) else b r.2) ⟨env, hs⟩ := rfl
@[simp] theorem mNot_ap (a : M D) (env : List D) (hs : List Ob) : mNot a ⟨env, hs⟩ = (fun m : Mem => (a m).bind fun r => r.1.isB.bind fun c => .ok (.bl (!c), r.2)) ⟨env, hs⟩ := rfl
@[simp] theorem mIf_ap (t : M Bool) (a b : M D) (env : List D) (hs : List Ob) : mIf t a b ⟨env, hs⟩ = (fun m : Mem => (t m).bind fun r => if r.1 = true then a r.2 else b r.2) ⟨env, hs⟩ := rfl
@[simp] theorem mOp1_ap (g : D → Res D) (ma : M D) (env : List D) (hs : List Ob) : mOp1 g ma ⟨env, hs⟩ = (fun m : Mem => (ma m).bind fun r => (g r.1).bind fun d => .ok (d, r.2)) ⟨env, hs⟩ := rfl
@[simp] theorem mqOp1_ap (g : D → Res D) (qa : MQ D) (env : List D) (hs : List Ob) : mqOp1 g qa ⟨env, hs⟩ = (fun m : Mem => (qa m).bind fun d1 => (g d1).bind fun d => Res.when d.pure (.ok d)) ⟨env, hs⟩ := rfl
@[simp] theorem mqIx_ap (qa qb : MQ D) (env : List D) (hs : List Ob) : mqIx qa qb ⟨env, hs⟩ = (fun m : Mem => (qa m).bind fun d1 => (qb m).bind fun d2 => dIx d1 d2) ⟨env, hs⟩ := rfl
@[simp] theorem mIx_ap (ma mb : M D) (env : List D) (hs : List Ob) : mIx ma mb ⟨env, hs⟩ = (fun m : Mem => (ma m).bind fun r1 => (mb r1.2).bind fun r2 => (dIx r1.1 r2.1).bind fun d => Res.when d.pure (.ok (d, r2.2))) ⟨env, hs⟩ := rfl
@[simp] theorem mIxN_ap (i : Nat) (mb : M D) (env : List D) (hs : List Ob) : mIxN i mb ⟨env, hs⟩ = (fun m : Mem => (mqVar i m).bind fun _ => (mb m).bind fun r2 => (mqVar i r2.2).bind fun d1 => (dIx d1 r2.1).bind fun d => Res.when d.pure (.ok (d, r2.2))) ⟨env, hs⟩ := rfl
@[simp] theorem mqNone_ap (env : List D) (hs : List Ob) : mqNone  ⟨env, hs⟩ = (fun _ : Mem => .ok none) ⟨env, hs⟩ := rfl
@[simp] theorem mqSome_ap (q : MQ D) (env : List D) (hs : List Ob) : mqSome q ⟨env, hs⟩ = (fun m : Mem => (q m).bind fun d => match d with
  | .int i => .ok (some i)
  | _ => .fail) ⟨env, hs⟩ := rfl
@[simp] theorem mSl_ap (ma : M D) (lo hi : MQ (Option Int)) (env : List D) (hs : List Ob) : mSl ma lo hi ⟨env, hs⟩ = (fun m : Mem => (ma m).bind fun r => (lo r.2).bind fun l => (hi r.2).bind fun h => (dSl r.1 l h).bind fun d => .ok (d, r.2)) ⟨env, hs⟩ := rfl
@[simp] theorem maNil_ap (env : List D) (hs : List Ob) : maNil  ⟨env, hs⟩ = (fun m : Mem => .ok ([], m)) ⟨env, hs⟩ := rfl
@[simp] theorem maV_ap (a : M D) (r : M (List Arg)) (env : List D) (hs : List Ob) : maV a r ⟨env, hs⟩ = (fun m : Mem => (a m).bind fun x => (r x.2).bind fun y => .ok (.val x.1 :: y.1, y.2)) ⟨env, hs⟩ := rfl
@[simp] theorem maN_ap (i : Nat) (r : M (List Arg)) (env : List D) (hs : List Ob) : maN i r ⟨env, hs⟩ = (fun m : Mem => (mqVar i m).bind fun _ => (r m).bind fun y => .ok (.nam i :: y.1, y.2)) ⟨env, hs⟩ := rfl
@[simp] theorem maQ_ap (q : MQ (List D)) (env : List D) (hs : List Ob) : maQ q ⟨env, hs⟩ = (fun m : Mem => (q m).bind fun ds => .ok (ds.map .bor, m)) ⟨env, hs⟩ := rfl
@[simp] theorem mqNil_ap (env : List D) (hs : List Ob) : mqNil  ⟨env, hs⟩ = (fun _ : Mem => .ok []) ⟨env, hs⟩ := rfl
@[simp] theorem mqCons_ap (a : MQ D) (r : MQ (List D)) (env : List D) (hs : List Ob) : mqCons a r ⟨env, hs⟩ = (fun m : Mem => (a m).bind fun x => (r m).bind fun y => .ok (x :: y)) ⟨env, hs⟩ := rfl
@[simp] theorem mTup_ap (a : M (List Arg)) (env : List D) (hs : List Ob) : mTup a ⟨env, hs⟩ = (fun m : Mem => (a m).bind fun r => (vals r.1).bind fun ds => Res.when (decide (ds.length ≤ sizeLine)) (.ok (.tup ds, r.2))) ⟨env, hs⟩ := rfl
@[simp] theorem mLst_ap (a : M (List Arg)) (env : List D) (hs : List Ob) : mLst a ⟨env, hs⟩ = (fun m : Mem => (a m).bind fun r => (vals r.1).bind fun ds => Res.when (decide (ds.length ≤ sizeLine)) (.ok (.lst true ds, r.2))) ⟨env, hs⟩ := rfl
@[simp] theorem mqTup_ap (a : MQ (List D)) (env : List D) (hs : List Ob) : mqTup a ⟨env, hs⟩ = (fun m : Mem => (a m).bind fun ds => Res.when (pureL ds && decide (ds.length ≤ sizeLine)) (.ok (.tup ds))) ⟨env, hs⟩ := rfl
@[simp] theorem mCB_ap (g : List D → Res D) (a : M (List Arg)) (env : List D) (hs : List Ob) : mCB g a ⟨env, hs⟩ = (fun m : Mem => (a m).bind fun r => (conts r.2.env r.1).bind fun ds => (g ds).bind fun d => .ok (d, r.2)) ⟨env, hs⟩ := rfl
@[simp] theorem mqCB_ap (g : List D → Res D) (a : MQ (List D)) (env : List D) (hs : List Ob) : mqCB g a ⟨env, hs⟩ = (fun m : Mem => (a m).bind fun ds => (g ds).bind fun d => Res.when d.pure (.ok d)) ⟨env, hs⟩ := rfl
@[simp] theorem mCall_ap (f : CallM) (dd : List D) (a : M (List Arg)) (env : List D) (hs : List Ob) : mCall f dd a ⟨env, hs⟩ = (fun m : Mem => (a m).bind fun r => (grab r.1 r.2.env).bind fun q => (f (q.1 ++ dd) r.2.hs).bind fun o => .ok (o.1, ⟨giveBack q.2.1 o.2.1 q.2.2, o.2.2⟩)) ⟨env, hs⟩ := rfl
@[simp] theorem sPass_ap (env : List D) (hs : List Ob) : sPass  ⟨env, hs⟩ = (fun m : Mem => .ok (.nx, m)) ⟨env, hs⟩ := rfl
@[simp] theorem sBk_ap (env : List D) (hs : List Ob) : sBk  ⟨env, hs⟩ = (fun m : Mem => .ok (.bk, m)) ⟨env, hs⟩ := rfl
@[simp] theorem sCt_ap (env : List D) (hs : List Ob) : sCt  ⟨env, hs⟩ = (fun m : Mem => .ok (.ct, m)) ⟨env, hs⟩ := rfl
@[simp] theorem sNever_ap (env : List D) (hs : List Ob) : sNever  ⟨env, hs⟩ = (fun _ : Mem => .fail) ⟨env, hs⟩ := rfl
@[simp] theorem sSeq_ap (a b : MS) (env : List D) (hs : List Ob) : sSeq a b ⟨env, hs⟩ = (fun m : Mem => (a m).bind fun r => match r.1 with
  | .nx => b r.2
  | .bk => .ok (.bk, r.2)
  | .ct => .ok (.ct, r.2)
  | .rt d => .ok (.rt d, r.2)) ⟨env, hs⟩ := rfl
@[simp] theorem sEx_ap (e : M D) (env : List D) (hs : List Ob) : sEx e ⟨env, hs⟩ = (fun m : Mem => (e m).bind fun r => .ok (.nx, r.2)) ⟨env, hs⟩ := rfl
@[simp] theorem sRt_ap (e : M D) (env : List D) (hs : List Ob) : sRt e ⟨env, hs⟩ = (fun m : Mem => (e m).bind fun r => .ok (.rt r.1, r.2)) ⟨env, hs⟩ := rfl
@[simp] theorem sRtN_ap (env : List D) (hs : List Ob) : sRtN  ⟨env, hs⟩ = (fun m : Mem => .ok (.rt .non, m)) ⟨env, hs⟩ := rfl
@[simp] theorem sIf_ap (t : M Bool) (a b : MS) (env : List D) (hs : List Ob) : sIf t a b ⟨env, hs⟩ = (fun m : Mem => (t m).bind fun r => if r.1 = true then a r.2 else b r.2) ⟨env, hs⟩ := rfl
@[simp] theorem sAsg_ap (e : M D) (b : D → Mem → Res Mem) (env : List D) (hs : List Ob) : sAsg e b ⟨env, hs⟩ = (fun m : Mem => (e m).bind fun r => (b r.1 r.2).bind fun m' => .ok (.nx, m')) ⟨env, hs⟩ := rfl
@[simp] theorem miV_ap (e : M D) (env : List D) (hs : List Ob) : miV e ⟨env, hs⟩ = (fun m : Mem => (e m).bind fun r => (itOf (fun (_ : Mem) => True) r.1).bind fun it => .ok (it, r.2)) ⟨env, hs⟩ := rfl
@[simp] theorem miN_ap (i : Nat) (env : List D) (hs : List Ob) : miN i ⟨env, hs⟩ = (fun m : Mem => (mqVar i m).bind fun d => (itOf (fun m' => m'.env[i]? = some d) d).bind fun it => .ok (it, m)) ⟨env, hs⟩ := rfl
@[simp] theorem miR1_ap (a : M (List Arg)) (env : List D) (hs : List Ob) : miR1 a ⟨env, hs⟩ = (fun m : Mem => (a m).bind fun r => (conts r.2.env r.1).bind fun ds => match ds with
  | [.int j] => Res.when (b62 j) (.ok ((rangeD 0 j.toNat, fun (_ : Mem) => True), r.2))
  | _ => .fail) ⟨env, hs⟩ := rfl
@[simp] theorem miR2_ap (a : M (List Arg)) (env : List D) (hs : List Ob) : miR2 a ⟨env, hs⟩ = (fun m : Mem => (a m).bind fun r => (conts r.2.env r.1).bind fun ds => match ds with
  | [.int i, .int j] => Res.when (b62 i && b62 j) (.ok ((rangeD i (j - i).toNat, fun (_ : Mem) => True), r.2))
  | _ => .fail) ⟨env, hs⟩ := rfl
@[simp] theorem sFor_ap (it : M It) (b : D → Mem → Res Mem) (body : MS) (env : List D) (hs : List Ob) : sFor it b body ⟨env, hs⟩ = (fun m : Mem => (it m).bind fun r => forM r.1.2 b body r.1.1 r.2) ⟨env, hs⟩ := rfl
@[simp] theorem mLc_ap (it : M E.It) (vs : List Nat) (b : D → Mem → Res Mem) (tt : M Bool) (el : M D) (env : List D) (hs : List Ob) : mLc it vs b tt el ⟨env, hs⟩ = (fun m : Mem => (it m).bind fun r =>
  Res.when (vs.all fun v => decide (v < r.2.env.length) && (r.2.env.getD v .und).hid) ((lcM r.1.2 vs b tt el r.1.1 [] ⟨undL vs r.2.env, r.2.hs⟩).bind fun o => .ok (.lst true o.1, ⟨restore r.2.env vs o.2.env, o.2.hs⟩))) ⟨env, hs⟩ := rfl
@[simp] theorem mtYes_ap (env : List D) (hs : List Ob) : mtYes  ⟨env, hs⟩ = (fun m : Mem => .ok (true, m)) ⟨env, hs⟩ := rfl
@[simp] theorem mAppN_ap (i : Nat) (a : M D) (env : List D) (hs : List Ob) : mAppN i a ⟨env, hs⟩ = (fun m : Mem => (mqVar i m).bind fun d0 => Res.when d0.isL ((a m).bind fun r => (mqVar i r.2).bind fun d => match d with
  | .lst true xs => Res.when (decide (xs.length < sizeLine)) (.ok (.non, { r.2 with env := r.2.env.set i (.lst true (xs ++ [r.1])) }))
  | _ => .fail)) ⟨env, hs⟩ := rfl
@[simp] theorem sAug_ap (i : Nat) (g : D → D → Res D) (e : M D) (env : List D) (hs : List Ob) : sAug i g e ⟨env, hs⟩ = (fun m : Mem => (mqVar i m).bind fun d0 => Res.when d0.pure ((e m).bind fun r => (g d0 r.1).bind fun d => Res.when (d.pure && decide (i < r.2.env.length)) (.ok (.nx, { r.2 with env := r.2.env.set i d })))) ⟨env, hs⟩ := rfl
@[simp] theorem mMv_ap (i : Nat) (env : List D) (hs : List Ob) : mMv i ⟨env, hs⟩ = (fun m : Mem => (mqVar i m).bind fun d => if d.pure = true then .ok (d, m) else .ok (d, { m with env := m.env.set i .und })) ⟨env, hs⟩ := rfl
@[simp] theorem sPar_ap (i j : Nat) (a : M (List Arg)) (env : List D) (hs : List Ob) : sPar i j a ⟨env, hs⟩ = (fun m : Mem => (a m).bind fun r => (vals r.1).bind fun ds => match ds with
  | [d1, d2] => (bName i d1 r.2).bind fun m1 => (bName j d2 m1).bind fun m2 => .ok (.nx, m2)
  | _ => .fail) ⟨env, hs⟩ := rfl
@[simp] theorem mqChain_ap (g g' : D → D → Res D) (qa qb qc : MQ D) (env : List D) (hs : List Ob) : mqChain g g' qa qb qc ⟨env, hs⟩ = (fun m : Mem => (qa m).bind fun d1 => (qb m).bind fun d2 => (g d1 d2).bind fun r => r.isB.bind fun c => if c = true then (qc m).bind fun d3 => (g' d2 d3).bind fun d => Res.when d.pure (.ok d) else .ok (.bl false)) ⟨env, hs⟩ := rfl
@[simp] theorem mLstRg_ap (me : M D) (env : List D) (hs : List Ob) : mLstRg me ⟨env, hs⟩ = (fun m : Mem => (me m).bind fun r => match r.1 with
  | .int j => Res.when (cdec (0 ≤ j ∧ j ≤ 16777216)) (.ok (.lst true (rangeD 0 j.toNat), r.2))
  | _ => .fail) ⟨env, hs⟩ := rfl
@[simp] theorem mqAttr_ap (cs : List Nat) (f : String) (q : MQ D) (env : List D) (hs : List Ob) : mqAttr cs f q ⟨env, hs⟩ = (fun m : Mem => (q m).bind fun d => match d with
  | .loc n => match m.hs[n]? with
    | some ob => Res.when (cs.contains ob.cls) (Res.of (lookF f ob.fs))
    | none => .fail
  | _ => .fail) ⟨env, hs⟩ := rfl
@[simp] theorem sSetA_ap (cs : List Nat) (f : String) (e : M D) (q : MQ D) (env : List D) (hs : List Ob) : sSetA cs f e q ⟨env, hs⟩ = (fun m : Mem => (e m).bind fun r => (q r.2).bind fun d => match d with
  | .loc n => match r.2.hs[n]? with
    | some ob => Res.when (cs.contains ob.cls && decide (ob.fs.length < 1000)) (.ok (.nx, ⟨r.2.env, r.2.hs.set n ⟨ob.cls, setF f r.1 ob.fs⟩⟩))
    | none => .fail
  | _ => .fail) ⟨env, hs⟩ := rfl
@[simp] theorem mMeth_ap (c : Nat) (mn : String) (f : CallM) (dd : List D) (q : MQ D) (a : M (List Arg)) (env : List D) (hs : List Ob) : mMeth c mn f dd q a ⟨env, hs⟩ = (fun m : Mem => (q m).bind fun d => Res.when (isOf c mn m d) ((a m).bind fun r => callTail f dd (.val d :: r.1) r.2)) ⟨env, hs⟩ := rfl
@[simp] theorem mMake_ap (c : Nat) (f : CallM) (dd : List D) (a : M (List Arg)) (env : List D) (hs : List Ob) : mMake c f dd a ⟨env, hs⟩ = (fun m : Mem => (a m).bind fun r => (callTail f dd (.val (.loc r.2.hs.length) :: r.1) ⟨r.2.env, r.2.hs ++ [⟨c, []⟩]⟩).bind fun o => match o.1 with
  | .non => .ok (.loc r.2.hs.length, o.2)
  | _ => .fail) ⟨env, hs⟩ := rfl
@[simp] theorem mOrM_ap (a b : M D) (env : List D) (hs : List Ob) : mOrM a b ⟨env, hs⟩ = (fun m : Mem => match a m with
  | .ok r => .ok r
  | _ => b m) ⟨env, hs⟩ := rfl
@[simp] theorem bName_ap (i : Nat) (d : D) (env : List D) (hs : List Ob) : bName i d ⟨env, hs⟩ = Res.when (decide (i < env.length)) (.ok ⟨env.set i d, hs⟩) := rfl
@[simp] theorem bNil_ap (env : List D) (hs : List Ob) : bNil [] ⟨env, hs⟩ = .ok ⟨env, hs⟩ := rfl
@[simp] theorem bCons_ap (b : D → Mem → Res Mem) (bs : List D → Mem → Res Mem) (d : D) (ds : List D) (env : List D) (hs : List Ob) : bCons b bs (d :: ds) ⟨env, hs⟩ = (b d ⟨env, hs⟩).bind (bs ds) := rfl
@[simp] theorem bTL_tup (n : Nat) (bs : List D → Mem → Res Mem) (ds : List D) (env : List D) (hs : List Ob) : bTL n bs (.tup ds) ⟨env, hs⟩ = Res.when (decide (ds.length = n)) (bs ds ⟨env, hs⟩) := rfl
@[simp] theorem bTL_lst (n : Nat) (o : Bool) (bs : List D → Mem → Res Mem) (ds : List D) (env : List D) (hs : List Ob) : bTL n bs (.lst o ds) ⟨env, hs⟩ = Res.when (decide (ds.length = n) && pureL ds) (bs ds ⟨env, hs⟩) := rfl
@[simp] theorem bSub_ap (i : Nat) (q : MQ D) (d : D) (env : List D) (hs : List Ob) : bSub i q d ⟨env, hs⟩ = (q ⟨env, hs⟩).bind fun k => (mqVar i ⟨env, hs⟩).bind fun x => match x, k with
  | .lst true xs, .int k => (Res.of (ixN xs.length k)).bind fun j => .ok ⟨env.set i (.lst true (xs.set j d)), hs⟩
  | _, _ => .fail := rfl
@[simp] theorem Res.ifP_t {α : Type} (r : Res α) : Res.ifP True r = r := if_pos trivial
@[simp] theorem forM_nil (ok : Mem → Prop) (b : D → Mem → Res Mem) (body : MS) (env : List D) (hs : List Ob) : E.forM ok b body [] ⟨env, hs⟩ = Res.ifP (ok ⟨env, hs⟩) (.ok (.nx, ⟨env, hs⟩)) := rfl
@[simp] theorem forM_cons (ok : Mem → Prop) (b : D → Mem → Res Mem) (body : MS) (x : D) (xs : List D) (env : List D) (hs : List Ob) : E.forM ok b body (x :: xs) ⟨env, hs⟩ = Res.ifP (ok ⟨env, hs⟩) ((b x ⟨env, hs⟩).bind fun m1 => (body m1).bind fun o => match o.1 with
      | .nx => E.forM ok b body xs o.2
      | .ct => E.forM ok b body xs o.2
      | .bk => .ok (.nx, o.2)
      | .rt d => .ok (.rt d, o.2)) := rfl
@[simp] theorem mDef_ap (n N : Nat) (pin : List Nat) (body : MS) (ds : List D) (hs : List Ob) : mDef n N pin body ds hs = Res.when (decide (ds.length = n)) ((body ⟨ds ++ List.replicate (N - n) .und, hs⟩).bind fun r => (D.rtv r.1).bind fun d => (outs pin 0 ds r.2.env).bind fun ds' => .ok (d, ds', r.2.hs)) := rfl
end E
/-! EngS: to reckon with mirrors -/
namespace E
open PySem L2
@[simp] theorem pureL_nil : pureL [] = true := rfl
@[simp] theorem pureL_cons (d : D) (ds : List D) : pureL (d :: ds) = (d.pure && pureL ds) := rfl
@[simp] theorem fzL_nil : fzL [] = [] := rfl
@[simp] theorem fzL_cons (d : D) (ds : List D) : fzL (d :: ds) = d.fz :: fzL ds := rfl
@[simp] theorem pureL_app (a b : List D) : pureL (a ++ b) = (pureL a && pureL b) := by rw [pureL_all, pureL_all, pureL_all, List.all_append]
@[simp] theorem pureL_ints (xs : List Int) : pureL (xs.map D.int) = true := by
  rw [pureL_all, List.all_map]; induction xs with
  | nil => rfl
  | cons x xs ih => exact ih
@[simp] theorem fzL_ints (xs : List Int) : fzL (xs.map D.int) = xs.map D.int := fzL_pure _ (pureL_ints xs)
@[simp] theorem small_lit (n : Nat) : small (no_index (OfNat.ofNat n : Int)) = decide (n < 2 ^ 64) := by
  rw [Bool.eq_iff_iff, decide_eq_true_eq]
  constructor
  · intro h
    have := of_cdec h
    have h2 : ((n : Nat) : Int) < 18446744073709551616 := this.2
    omega
  · intro h
    refine cdec_of ?_
    show -18446744073709551616 < ((n : Nat) : Int) ∧ ((n : Nat) : Int) < 18446744073709551616
    omega
@[simp] theorem small_mod (x : Int) (n : Nat) (h0 : 0 < n) (h : n < 2 ^ 64) : small (x % (no_index (OfNat.ofNat n : Int))) = true := by
  show small (x % (n : Int)) = true
  have h1 : 0 ≤ x % (n : Int) := Int.emod_nonneg _ (by omega)
  have h2 : x % (n : Int) < n := Int.emod_lt_of_pos _ (by omega)
  exact cdec_of (by omega)
theorem small_of {i : Int} (h0 : -1000000000000 ≤ i) (h1 : i ≤ 1000000000000) : small i = true := cdec_of (by omega)
theorem wide_lt {j : Int} (h : j < 18446744073709551616) : wide j = true := cdec_of (by
  have : 18446744073709551616 ≤ 2 ^ 8000 := by decide +kernel
  generalize 2 ^ 8000 = N at this ⊢
  omega)
@[simp] theorem wide_lit (n : Nat) (h : n < 2 ^ 64) : wide (no_index (OfNat.ofNat n : Int)) = true := wide_lt (by
  show ((n : Nat) : Int) < 18446744073709551616
  omega)
@[simp] theorem szl : sizeLine = 16777216 := sizeLine_eq
theorem forM_cases {α : Type} {ok : Mem → Prop} {b : D → Mem → Res Mem} {body : MS} (enc : α → D) (I : List α → Mem → Prop) (Ex : Fl × Mem → Prop) (xs : List α) (hok : ∀ p m, I p m → ok m)
    (step : ∀ p a q m, xs = p ++ a :: q → I p m → ∃ m1 o, b (enc a) m = .ok m1 ∧ body m1 = .ok o ∧ ((o.1 = .nx ∧ I (p ++ [a]) o.2) ∨ (o.1 = .ct ∧ I (p ++ [a]) o.2) ∨ (o.1 = .bk ∧ Ex (.nx, o.2)) ∨ ∃ d, o.1 = .rt d ∧ Ex (.rt d, o.2))) :
    ∀ q p m, xs = p ++ q → I p m → ∃ r, forM ok b body (q.map enc) m = .ok r ∧ ((r.1 = .nx ∧ I xs r.2) ∨ Ex r) := by
  intro q
  induction q with
  | nil =>
    intro p m e h
    rw [List.append_nil] at e
    subst e
    exact ⟨(.nx, m), Res.ifP_true (hok _ m h), .inl ⟨rfl, h⟩⟩
  | cons a q ih =>
    intro p m e h
    obtain ⟨m1, ⟨f, m2⟩, e1, e2, h2⟩ := step p a q m e h
    rw [List.map_cons]
    unfold forM
    rw [Res.ifP_true (hok p m h), e1, Res.bind_ok, e2, Res.bind_ok]
    dsimp only at h2
    rcases h2 with ⟨rfl, h2⟩ | ⟨rfl, h2⟩ | ⟨rfl, h2⟩ | ⟨d, rfl, h2⟩
    · exact ih (p ++ [a]) m2 (by simpa using e) h2
    · exact ih (p ++ [a]) m2 (by simpa using e) h2
    · exact ⟨_, rfl, .inr h2⟩
    · exact ⟨_, rfl, .inr h2⟩
theorem forM_inv {α : Type} {ok : Mem → Prop} {b : D → Mem → Res Mem} {body : MS} (enc : α → D) (I : List α → Mem → Prop) (xs : List α) (m : Mem) (h0 : I [] m) (hok : ∀ p m, I p m → ok m)
    (step : ∀ p a q m, xs = p ++ a :: q → I p m → ∃ m1 m2, b (enc a) m = .ok m1 ∧ body m1 = .ok (.nx, m2) ∧ I (p ++ [a]) m2) : ∃ m', forM ok b body (xs.map enc) m = .ok (.nx, m') ∧ I xs m' := by
  obtain ⟨⟨f, m'⟩, e, h⟩ := forM_cases enc I (fun _ => False) xs hok (fun p a q m e h => by
    obtain ⟨m1, m2, e1, e2, h2⟩ := step p a q m e h
    exact ⟨m1, _, e1, e2, .inl ⟨rfl, h2⟩⟩) xs [] m rfl h0
  rcases h with ⟨h1, h2⟩ | h
  · dsimp only at h1
    subst h1
    exact ⟨m', e, h2⟩
  · exact h.elim
/-- a loop that folds: the state is st s d, d what stands at the loop's variable -/
theorem forM_fold {α S : Type} {ok : Mem → Prop} {b : D → Mem → Res Mem} {body : MS} (enc : α → D) (st : S → D → Mem) (f : S → α → S) (P : S → Prop) (xs : List α) (s : S) (d : D) (h0 : P s) (hok : ∀ s d, P s → ok (st s d))
    (step : ∀ s d a, a ∈ xs → P s → ∃ m1, b (enc a) (st s d) = .ok m1 ∧ ∃ d', body m1 = .ok (.nx, st (f s a) d') ∧ P (f s a)) : ∃ d', forM ok b body (xs.map enc) (st s d) = .ok (.nx, st (xs.foldl f s) d') ∧ P (xs.foldl f s) := by
  induction xs generalizing s d with
  | nil => exact ⟨d, Res.ifP_true (hok s d h0), h0⟩
  | cons a xs ih =>
    obtain ⟨m1, e1, d', e2, h2⟩ := step s d a (List.mem_cons_self ..) h0
    obtain ⟨d2, e3, h3⟩ := ih (f s a) d' h2 fun s d a m => step s d a (List.mem_cons_of_mem _ m)
    refine ⟨d2, ?_, h3⟩
    rw [List.map_cons]
    unfold forM
    rw [Res.ifP_true (hok s d h0), e1, Res.bind_ok, e2, Res.bind_ok]
    exact e3
/-! ### loops that look for a failure, with a state -/
def allS {S α : Type} (f : S → α → S) (g : S → α → Bool) : S → List α → Bool
  | _, [] => true
  | s, a :: r => if g s a = true then allS f g (f s a) r else false
theorem forM_scan {S α : Type} {ok : Mem → Prop} {b : D → Mem → Res Mem} {body : MS} (enc : α → D) (st : S → D → Mem) (f : S → α → S) (g : S → α → Bool) (r : D) (hok : ∀ s d, ok (st s d)) :
    ∀ (xs : List α), (∀ s d a, a ∈ xs → ∃ m1, b (enc a) (st s d) = .ok m1 ∧ ∃ s' d', body m1 = .ok (if g s a = true then .nx else .rt r, st s' d') ∧ (g s a = true → s' = f s a)) →
    ∀ s d, ∃ s' d', E.forM ok b body (xs.map enc) (st s d) = .ok (if allS f g s xs = true then .nx else .rt r, st s' d')
  | [], _, s, d => ⟨s, d, Res.ifP_true (hok s d)⟩
  | a :: xs, h, s, d => by
    obtain ⟨m1, e1, s1, d1, e2, h2⟩ := h s d a (List.mem_cons_self ..)
    rw [List.map_cons]
    unfold E.forM
    rw [Res.ifP_true (hok s d), e1, Res.bind_ok, e2, Res.bind_ok]
    unfold allS
    by_cases hg : g s a = true
    · obtain rfl := h2 hg
      rw [if_pos hg, if_pos hg]
      exact forM_scan enc st f g r hok xs (fun s d a m => h s d a (List.mem_cons_of_mem _ m)) _ d1
    · rw [if_neg hg, if_neg hg]
      exact ⟨s1, d1, rfl⟩
theorem forM_all {α : Type} {ok : Mem → Prop} {b : D → Mem → Res Mem} {body : MS} (enc : α → D) (st : D → Mem) (g : α → Bool) (r : D) (hok : ∀ d, ok (st d)) (xs : List α)
    (h : ∀ d a, a ∈ xs → ∃ m1, b (enc a) (st d) = .ok m1 ∧ ∃ d', body m1 = .ok (if g a = true then .nx else .rt r, st d')) (d : D) : ∃ d', E.forM ok b body (xs.map enc) (st d) = .ok (if xs.all g = true then .nx else .rt r, st d') := by
  obtain ⟨s', d', e⟩ := forM_scan (S := Unit) enc (fun _ d => st d) (fun _ _ => ()) (fun _ a => g a) r (fun _ d => hok d) xs (fun s d a m => by
    obtain ⟨m1, e1, d', e2⟩ := h d a m
    exact ⟨m1, e1, (), d', e2, fun _ => rfl⟩) () d
  have : allS (fun (_ : Unit) (_ : α) => ()) (fun _ a => g a) () xs = xs.all g := by
    clear e h
    induction xs with
    | nil => rfl
    | cons a xs ih =>
      rw [allS, List.all_cons, ih]
      cases g a <;> rfl
  rw [this] at e
  exact ⟨d', e⟩
/-! ### comprehensions -/
/-- what is made, and the state behind: out tells the item or none -/
def runL {S α : Type} (f : S → α → S) (out : S → α → Option D) : S → List α → List D × S
  | s, [] => ([], s)
  | s, a :: r => let q := runL f out (f s a) r; ((match out s a with
    | some d => d :: q.1
    | none => q.1), q.2)
theorem runL_len {S α : Type} (f : S → α → S) (out : S → α → Option D) : ∀ (xs : List α) (s : S), (runL f out s xs).1.length ≤ xs.length
  | [], _ => Nat.le_refl _
  | a :: r, s => by
    have := runL_len f out r (f s a)
    unfold runL
    dsimp only
    split
    · simp only [List.length_cons]; omega
    · simp only [List.length_cons]; omega
theorem lcM_run {S α : Type} {ok : Mem → Prop} {vs : List Nat} {b : D → Mem → Res Mem} {tt : M Bool} {el : M D} (enc : α → D) (st : S → Mem) (f : S → α → S) (out : S → α → Option D) (hok : ∀ s, ok (st s)) :
    ∀ (xs : List α) (s : S) (acc : List D), acc.length + xs.length ≤ 16777216 →
    (∀ s a, a ∈ xs → ∃ m1 m2 c, b (enc a) (st s) = .ok m1 ∧ tt m1 = .ok (c, m2) ∧ ((c = false ∧ out s a = none ∧ (⟨undL vs m2.env, m2.hs⟩ : Mem) = st (f s a)) ∨ (c = true ∧ ∃ d m3, el m2 = .ok (d, m3) ∧ out s a = some d ∧ (⟨undL vs m3.env, m3.hs⟩ : Mem) = st (f s a)))) →
    lcM ok vs b tt el (xs.map enc) acc (st s) = .ok (acc ++ (runL f out s xs).1, st (runL f out s xs).2)
  | [], s, acc, _, _ => by
    rw [List.map_nil]
    unfold lcM
    rw [Res.ifP_true (hok s)]
    simp [runL]
  | a :: xs, s, acc, hl, h => by
    rw [List.map_cons]
    unfold lcM
    rw [List.length_cons] at hl
    obtain ⟨m1, m2, c, e1, e2, h2⟩ := h s a (List.mem_cons_self ..)
    have again := fun acc' (q : acc'.length ≤ acc.length + 1) => lcM_run (ok := ok) (vs := vs) (b := b) (tt := tt) (el := el) enc st f out hok xs (f s a) acc' (by omega) fun s a m => h s a (List.mem_cons_of_mem _ m)
    rw [Res.ifP_true (hok s), e1, Res.bind_ok, e2, Res.bind_ok]
    rcases h2 with ⟨rfl, h3, h4⟩ | ⟨rfl, d, m3, h3, h4, h5⟩
    · rw [if_neg (by simp), h4, again acc (by omega)]
      simp [runL, h3]
    · have hsz : decide (acc.length < sizeLine) = true := decide_eq_true (by rw [sizeLine_eq]; omega)
      rw [if_pos rfl, h3, Res.bind_ok, hsz, Res.when_true, h5, again (acc ++ [d]) (by simp)]
      simp [runL, h4]
/-! ### items -/
theorem ixN_nn {n : Nat} {i : Int} (h0 : 0 ≤ i) (h1 : i < n) : ixN n i = some i.toNat := by
  unfold ixN; rw [if_pos h0, if_pos h1]
theorem ixN_ng {n : Nat} {i : Int} (h0 : i < 0) (h1 : -(n : Int) ≤ i) : ixN n i = some (i + n).toNat := by
  unfold ixN; rw [if_neg (by omega), if_pos h1]
theorem atI_nn {α : Type} {xs : List α} {i : Int} (h0 : 0 ≤ i) (h1 : i < xs.length) : atI xs i = some (xs[i.toNat]'(by omega)) := by
  unfold atI; rw [ixN_nn h0 h1]; exact List.getElem?_eq_getElem _
theorem atI_ng {α : Type} {xs : List α} {i : Int} (h0 : i < 0) (h1 : -(xs.length : Int) ≤ i) : atI xs i = some (xs[(i + xs.length).toNat]'(by omega)) := by
  unfold atI; rw [ixN_ng h0 h1]; exact List.getElem?_eq_getElem _
@[simp] theorem atI_map {α β : Type} (f : α → β) (xs : List α) (i : Int) : atI (xs.map f) i = (atI xs i).map f := by
  unfold atI; rw [List.length_map]
  cases ixN xs.length i with
  | none => rfl
  | some j => simp
/-! ### equality of ints, lists of ints -/
@[simp] theorem toPy_int (i : Int) : (D.int i).toPy = some (.int i) := rfl
@[simp] theorem toPy_bl (i : Bool) : (D.bl i).toPy = some (.bool i) := rfl
@[simp] theorem toPy_non : D.non.toPy = some .none := rfl
@[simp] theorem toPy_str (i : Str) : (D.str i).toPy = some (.str i) := rfl
@[simp] theorem toPy_tup (xs : List D) : (D.tup xs).toPy = (toPyL xs).map .tuple := rfl
@[simp] theorem toPy_lst (o : Bool) (xs : List D) : (D.lst o xs).toPy = (toPyL xs).map .list := rfl
@[simp] theorem toPyL_nil : toPyL [] = some [] := rfl
@[simp] theorem toPyL_cons (x : D) (xs : List D) : toPyL (x :: xs) = match x.toPy, toPyL xs with
    | some a, some b => some (a :: b)
    | _, _ => none := rfl
@[simp] theorem toPyL_ints (xs : List Int) : toPyL (xs.map .int) = some (xs.map .int) := by
  induction xs with
  | nil => rfl
  | cons x xs ih => rw [List.map_cons, toPyL_cons, ih]; rfl
@[simp] theorem eqv_int (i j : Int) : PyData.eqv (.int i) (.int j) = (i == j) := by simp [PyData.eqv]
@[simp] theorem eqv_bl (i j : Bool) : PyData.eqv (.bool i) (.bool j) = (i == j) := by simp [PyData.eqv]
@[simp] theorem eqv_str (i j : Str) : PyData.eqv (.str i) (.str j) = (i == j) := by simp [PyData.eqv]
@[simp] theorem eqv_non : PyData.eqv .none .none = true := by simp [PyData.eqv]
@[simp] theorem eqv_lst (i j : List PyData) : PyData.eqv (.list i) (.list j) = PyData.eqvAll i j := by simp [PyData.eqv]
@[simp] theorem eqv_tup (i j : List PyData) : PyData.eqv (.tuple i) (.tuple j) = PyData.eqvAll i j := by simp [PyData.eqv]
@[simp] theorem eqvA_nil : PyData.eqvAll [] [] = true := by simp [PyData.eqvAll]
@[simp] theorem eqvA_cons (a b : PyData) (x y : List PyData) : PyData.eqvAll (a :: x) (b :: y) = (PyData.eqv a b && PyData.eqvAll x y) := by simp [PyData.eqvAll]
@[simp] theorem eqvA_nc (a : PyData) (x : List PyData) : PyData.eqvAll (a :: x) [] = false := by simp [PyData.eqvAll]
@[simp] theorem eqvA_cn (a : PyData) (x : List PyData) : PyData.eqvAll [] (a :: x) = false := by simp [PyData.eqvAll]
@[simp] theorem eqvA_ints : ∀ xs ys : List Int, PyData.eqvAll (xs.map .int) (ys.map .int) = decide (xs = ys)
  | [], [] => by simp
  | x :: xs, [] => by simp
  | [], y :: ys => by simp
  | x :: xs, y :: ys => by simp [eqvA_ints xs ys]; rw [Bool.eq_iff_iff]; simp
@[simp] theorem sh_int (i : Int) : SeqAt.shaped (.int i) = true := by simp [SeqAt.shaped, PyData.canLay0, PyData.depth]
@[simp] theorem sh_bl (i : Bool) : SeqAt.shaped (.bool i) = true := by simp [SeqAt.shaped, PyData.canLay0, PyData.depth]
@[simp] theorem sh_non : SeqAt.shaped .none = true := by simp [SeqAt.shaped, PyData.canLay0, PyData.depth]
theorem flat_all {ds : List PyData} (h : ∀ d ∈ ds, d.canLay0 = true ∧ d.depth ≤ 40) : PyData.canLayAll0 ds = true ∧ PyData.depthAll ds ≤ 40 := by
  induction ds with
  | nil => exact ⟨by simp [PyData.canLayAll0], by simp [PyData.depthAll]⟩
  | cons d ds ih =>
    obtain ⟨h1, h2⟩ := h d (List.mem_cons_self ..)
    obtain ⟨h3, h4⟩ := ih fun d m => h d (List.mem_cons_of_mem _ m)
    exact ⟨by simp [PyData.canLayAll0, h1, h3], by simp only [PyData.depthAll]; omega⟩
theorem sh_lst {ds : List PyData} (h : ∀ d ∈ ds, d.canLay0 = true ∧ d.depth ≤ 40) : SeqAt.shaped (.list ds) = true := by
  obtain ⟨h1, h2⟩ := flat_all h
  unfold SeqAt.shaped
  rw [Bool.and_eq_true]
  exact ⟨by simp [PyData.canLay0, h1], decide_eq_true (by rw [PyData.depth]; omega)⟩
theorem sh_tup {ds : List PyData} (h : ∀ d ∈ ds, d.canLay0 = true ∧ d.depth ≤ 40) : SeqAt.shaped (.tuple ds) = true := by
  obtain ⟨h1, h2⟩ := flat_all h
  unfold SeqAt.shaped
  rw [Bool.and_eq_true]
  exact ⟨by simp [PyData.canLay0, h1], decide_eq_true (by rw [PyData.depth]; omega)⟩
@[simp] theorem sh_ints (xs : List Int) : SeqAt.shaped (.list (xs.map .int)) = true := sh_lst fun d m => by
  obtain ⟨i, _, rfl⟩ := List.mem_map.mp m
  simp [PyData.canLay0, PyData.depth]
@[simp] theorem sh_intsT (xs : List Int) : SeqAt.shaped (.tuple (xs.map .int)) = true := sh_tup fun d m => by
  obtain ⟨i, _, rfl⟩ := List.mem_map.mp m
  simp [PyData.canLay0, PyData.depth]
/-! ### isinstance -/
@[simp] theorem k_int_int : kindIs "int" "int" = some true := by decide +kernel
@[simp] theorem k_int_bool : kindIs "int" "bool" = some false := by decide +kernel
@[simp] theorem k_bool_int : kindIs "bool" "int" = some true := by decide +kernel
@[simp] theorem k_bool_bool : kindIs "bool" "bool" = some true := by decide +kernel
@[simp] theorem k_none_bool : kindIs "NoneType" "bool" = some false := by decide +kernel
@[simp] theorem k_none_int : kindIs "NoneType" "int" = some false := by decide +kernel
@[simp] theorem k_list_list : kindIs "list" "list" = some true := by decide +kernel
@[simp] theorem k_tuple_tuple : kindIs "tuple" "tuple" = some true := by decide +kernel
@[simp] theorem k_list_tuple : kindIs "list" "tuple" = some false := by decide +kernel
@[simp] theorem k_tuple_list : kindIs "tuple" "list" = some false := by decide +kernel
@[simp] theorem k_none_list : kindIs "NoneType" "list" = some false := by decide +kernel
@[simp] theorem k_none_tuple : kindIs "NoneType" "tuple" = some false := by decide +kernel
theorem rangeD_eq (lo : Int) (n : Nat) : rangeD lo n = (List.range n).map fun (k : Nat) => D.int (lo + (k : Int)) := rfl
theorem b62_of {i : Int} (h0 : -1000000000 ≤ i) (h1 : i ≤ 1000000000) : b62 i = true := cdec_of (by omega)
theorem b62_len {α : Type} {xs : List α} (h : xs.length ≤ 1000000) : b62 (xs.length : Int) = true := b62_of (by omega) (by omega)
@[simp] theorem b62_lit (n : Nat) (h : n ≤ 1000000000) : b62 (no_index (OfNat.ofNat n : Int)) = true := b62_of (by
  show -1000000000 ≤ ((n : Nat) : Int)
  omega) (by
  show ((n : Nat) : Int) ≤ 1000000000
  omega)
@[simp] theorem eqP_int (i j : Int) : eqP (.int i) (.int j) = (i == j) := by simp [eqP]
@[simp] theorem memD_int (xs : List Int) (i : Int) : memD (.int i) (xs.map D.int) = decide (i ∈ xs) := by
  unfold memD
  induction xs with
  | nil => rfl
  | cons x xs ih =>
    rw [List.map_cons, List.any_cons, ih, eqP_int, Bool.eq_iff_iff, Bool.or_eq_true, beq_iff_eq, decide_eq_true_eq, decide_eq_true_eq, List.mem_cons]
    exact or_congr ⟨Eq.symm, Eq.symm⟩ Iff.rfl
@[simp] theorem flat_ints (xs : List Int) : flatL (xs.map D.int) = true := by
  unfold flatL
  rw [List.all_map]; induction xs with
  | nil => rfl
  | cons x xs ih => exact ih
@[simp] theorem memD_nil (a : D) : memD a [] = false := rfl
@[simp] theorem memD_cons (a d : D) (ds : List D) : memD a (d :: ds) = (eqP d a || memD a ds) := rfl
@[simp] theorem flatL_nil : flatL [] = true := rfl
@[simp] theorem flatL_cons (d : D) (ds : List D) : flatL (d :: ds) = (d.flat && flatL ds) := rfl
@[simp] theorem flat_int (i : Int) : (D.int i).flat = true := rfl
@[simp] theorem undL_nil (env : List D) : undL [] env = env := rfl
@[simp] theorem undL_cons (v : Nat) (vs : List Nat) (env : List D) : undL (v :: vs) env = (undL vs env).set v .und := rfl
@[simp] theorem restore_nil (e0 env : List D) : restore e0 [] env = env := rfl
@[simp] theorem restore_cons (e0 : List D) (v : Nat) (vs : List Nat) (env : List D) : restore e0 (v :: vs) env = restore e0 vs (env.set v (e0.getD v .und)) := rfl
@[simp] theorem toInts_map (xs : List Int) : toInts (xs.map .int) = some xs := by
  induction xs with
  | nil => rfl
  | cons x xs ih => simp [toInts, ih]
end E
namespace Gen
open PySem L2 E PySem.Spec PyProof.Rows
def topS (i : Nat) : Stmt := PySem.Challenge.pw_crosskeep_k31_acceptors.main.body.getD i (.Pass ⟨0, 0, 0, 0⟩)
abbrev c_NO_BALLOT : D := .tup [.int 0, .int 0]
/-! Acceptor.__init__ -/
abbrev s_Acceptor_init : Stmt := inClass (topS 2) 0
abbrev N_Acceptor_init : List Str := ["self", "promised", "accepted"]
theorem sc_Acceptor_init : FnScope N_Acceptor_init ["self", "promised", "accepted"] (defScope s_Acceptor_init) := ⟨rfl, rfl, rfl, by decide +kernel, rfl, by decide +kernel, by decide +kernel⟩
noncomputable def m_Acceptor_init : CallM := mDef 3 3 [0, 1, 2] (
  sSeq (sSetA [0] "promised" (mVar 1) (mqVar 0))
    (sSetA [0] "accepted" (mVar 2) (mqVar 0)))
theorem ok_Acceptor_init {P : Program} {w : World} {K : PySem.W.Frag} {mg : Str → Option Value} {base : Heap} {CT : Nat → Addr} {f : Addr} {fd : FuncData} {dvs : List V} (F : FunD K "__init__" "Acceptor.__init__" (defArgs s_Acceptor_init) (defBody s_Acceptor_init) (defScope s_Acceptor_init) dvs [] f fd) (at_accepted : Attr K CT [0] "accepted") (at_promised : Attr K CT [0] "promised") :
    FnOk P w K mg base CX0 1 f fd ["self", "promised", "accepted"] (spM K CT 3 m_Acceptor_init) := by
  have nd := sc_Acceptor_init.nd
  refine fun_okD F sc_Acceptor_init fun cdv A outer s H wx hr => ?_
  exact mss_cons (mst_setA (f := "promised") (me_var (pv 1)) (meq_var (pv 0)) at_promised)
    (mss_one (mst_setA (f := "accepted") (me_var (pv 2)) (meq_var (pv 0)) at_accepted))
/-! Acceptor.hears -/
abbrev s_Acceptor_hears : Stmt := inClass (topS 2) 1
abbrev N_Acceptor_hears : List Str := ["self", "ballot"]
theorem sc_Acceptor_hears : FnScope N_Acceptor_hears ["self", "ballot"] (defScope s_Acceptor_hears) := ⟨rfl, rfl, rfl, by decide +kernel, rfl, by decide +kernel, by decide +kernel⟩
noncomputable def m_Acceptor_hears : CallM := mDef 2 2 [0, 1] (
  sRt (mP (mqOp2 dGeT (mqVar 1) (mqAttr [0] "promised" (mqVar 0)))))
theorem ok_Acceptor_hears {P : Program} {w : World} {K : PySem.W.Frag} {mg : Str → Option Value} {base : Heap} {CT : Nat → Addr} {f : Addr} {fd : FuncData} (F : Fun K "hears" "Acceptor.hears" s_Acceptor_hears f fd) (at_promised : Attr K CT [0] "promised") :
    FnOk P w K mg base CX0 1 f fd ["self", "ballot"] (spM K CT 2 m_Acceptor_hears) := by
  have nd := sc_Acceptor_hears.nd
  refine fun_ok F sc_Acceptor_hears fun cdv A outer s H wx hr => ?_
  exact mss_one (mst_rt (me_p (meq_cmp (od_geT hr.units0) (meq_var (pv 1)) (meq_attr (f := "promised") (meq_var (pv 0)) at_promised) (nomark _))))
/-! Acceptor.promise -/
abbrev s_Acceptor_promise : Stmt := inClass (topS 2) 2
abbrev N_Acceptor_promise : List Str := ["self", "ballot"]
theorem sc_Acceptor_promise : FnScope N_Acceptor_promise ["self", "ballot"] (defScope s_Acceptor_promise) := ⟨rfl, rfl, rfl, by decide +kernel, rfl, by decide +kernel, by decide +kernel⟩
noncomputable def m_Acceptor_promise : CallM := mDef 2 2 [0, 1] (
  sSetA [0] "promised" (mVar 1) (mqVar 0))
theorem ok_Acceptor_promise {P : Program} {w : World} {K : PySem.W.Frag} {mg : Str → Option Value} {base : Heap} {CT : Nat → Addr} {f : Addr} {fd : FuncData} (F : Fun K "promise" "Acceptor.promise" s_Acceptor_promise f fd) (at_promised : Attr K CT [0] "promised") :
    FnOk P w K mg base CX0 1 f fd ["self", "ballot"] (spM K CT 2 m_Acceptor_promise) := by
  have nd := sc_Acceptor_promise.nd
  refine fun_ok F sc_Acceptor_promise fun cdv A outer s H wx hr => ?_
  exact mss_one (mst_setA (f := "promised") (me_var (pv 1)) (meq_var (pv 0)) at_promised)
/-! Acceptor.accept -/
abbrev s_Acceptor_accept : Stmt := inClass (topS 2) 3
abbrev N_Acceptor_accept : List Str := ["self", "ballot", "entry"]
theorem sc_Acceptor_accept : FnScope N_Acceptor_accept ["self", "ballot", "entry"] (defScope s_Acceptor_accept) := ⟨rfl, rfl, rfl, by decide +kernel, rfl, by decide +kernel, by decide +kernel⟩
noncomputable def m_Acceptor_accept : CallM := mDef 3 3 [0, 1, 2] (
  sSeq (sSetA [0] "promised" (mVar 1) (mqVar 0))
    (sSetA [0] "accepted" (mTup (maV (mVar 1) (maV (mVar 2) (maNil)))) (mqVar 0)))
theorem ok_Acceptor_accept {P : Program} {w : World} {K : PySem.W.Frag} {mg : Str → Option Value} {base : Heap} {CT : Nat → Addr} {f : Addr} {fd : FuncData} (F : Fun K "accept" "Acceptor.accept" s_Acceptor_accept f fd) (at_accepted : Attr K CT [0] "accepted") (at_promised : Attr K CT [0] "promised") :
    FnOk P w K mg base CX0 1 f fd ["self", "ballot", "entry"] (spM K CT 3 m_Acceptor_accept) := by
  have nd := sc_Acceptor_accept.nd
  refine fun_ok F sc_Acceptor_accept fun cdv A outer s H wx hr => ?_
  exact mss_cons (mst_setA (f := "promised") (me_var (pv 1)) (meq_var (pv 0)) at_promised)
    (mss_one (mst_setA (f := "accepted") (me_tup (ma_v (me_var (pv 1)) (ma_v (me_var (pv 2)) (ma_nil)))) (meq_var (pv 0)) at_accepted))
/-! _law_row -/
abbrev s_law_row : Stmt := topS 4
abbrev N_law_row : List Str := ["_law_script", "_law_k", "_law_cell", "_law_first", "_law_second"]
theorem sc_law_row : FnScope N_law_row ["_law_script", "_law_k"] (defScope s_law_row) := ⟨rfl, rfl, rfl, by decide +kernel, rfl, by decide +kernel, by decide +kernel⟩
noncomputable def m_law_row : CallM := mDef 2 5 [0, 1] (
  sSeq (sAsg (mP (mqC (.int 0))) (bName 2))
    (sSeq (sIf (mtB (mOpQ dGtT (mqCB dLen (mqCons (mqVar 0) (mqNil))) (mqC (.int 0)))) (sAsg (mP (mqIx (mqVar 0) (mqOp2 dMod (mqCB dInt (mqCons (mqVar 1) (mqNil))) (mqCB dLen (mqCons (mqVar 0) (mqNil)))))) (bName 2)) (sPass))
    (sSeq (sIf (mtB (mOpQ dLtT (mqVar 2) (mqC (.int 0)))) (sAsg (mOpQ dSub (mqC (.int 1)) (mqOp2 dMul (mqC (.int 2)) (mqVar 2))) (bName 2)) (sPass))
    (sSeq (sIf (mtAnd (mtB (mOpQ dGeT (mqVar 2) (mqOp2 dPow (mqC (.int 10)) (mqC (.int 9))))) (mtB (mOpQ dLtT (mqVar 1) (mqCB dLen (mqCons (mqVar 0) (mqNil)))))) (sRt (mMv 2)) (sPass))
    (sSeq (sAsg (mOpQ dMod (mqCB dInt (mqCons (mqOp2 dAdd (mqOp2 dAdd (mqOp2 dMul (mqVar 2) (mqC (.int 48271))) (mqOp2 dMul (mqOp2 dAdd (mqVar 1) (mqC (.int 1))) (mqC (.int 69621)))) (mqCB dLen (mqCons (mqVar 0) (mqNil)))) (mqNil))) (mqC (.int 2147483647))) (bName 3))
    (sSeq (sAsg (mOpQ dMod (mqCB dInt (mqCons (mqOp2 dAdd (mqOp2 dAdd (mqOp2 dMul (mqVar 3) (mqVar 3)) (mqOp2 dMul (mqVar 2) (mqC (.int 16807)))) (mqVar 1)) (mqNil))) (mqC (.int 2147483629))) (bName 4))
    (sRt (mOpQ dAdd (mqOp2 dMul (mqVar 4) (mqC (.int 2147483647))) (mqOp2 dMod (mqCB dInt (mqCons (mqOp2 dMul (mqVar 3) (mqC (.int 40692))) (mqNil))) (mqC (.int 2147483399)))))))))))
theorem ok_law_row {P : Program} {w : World} {K : PySem.W.Frag} {mg : Str → Option Value} {base : Heap} {CT : Nat → Addr} {f : Addr} {fd : FuncData} (F : Fun K "_law_row" "_law_row" s_law_row f fd) (z_int : mg "int" = none) (z_len : mg "len" = none) :
    FnOk P w K mg base CX0 1 f fd ["_law_script", "_law_k"] (spM K CT 2 m_law_row) := by
  have nd := sc_law_row.nd
  refine fun_ok F sc_law_row fun cdv A outer s H wx hr => ?_
  exact mss_cons (mst_set (i := 2) nd rfl (Or.inl rfl) (by decide) (me_p (meq_int)))
    (mss_cons (mst_if (mt_cmpQ (od_gtT hr.units0) (meq_cb cd_len (by rfl) z_len (by decide +kernel) (maq_cons (meq_var (pv 0)) (maq_nil))) (meq_int) (nomark _)) (mss_one (mst_set (i := 2) nd rfl (Or.inl rfl) (by decide) (me_p (meq_ix (meq_var (pv 0)) (meq_bin od_mod (meq_cty cd_int (by rfl) z_int (by decide +kernel) (maq_cons (meq_var (pv 1)) (maq_nil))) (meq_cb cd_len (by rfl) z_len (by decide +kernel) (maq_cons (meq_var (pv 0)) (maq_nil)))) (fun _ _ => rfl))))) (mss_nil))
    (mss_cons (mst_if (mt_cmpQ (od_ltT hr.units0) (meq_var (pv 2)) (meq_int) (nomark _)) (mss_one (mst_set (i := 2) nd rfl (Or.inl rfl) (by decide) (me_binQ od_sub (meq_int) (meq_bin od_mul (meq_int) (meq_var (pv 2)))))) (mss_nil))
    (mss_cons (mst_if (mt_w (mw_and (mt_cmpQ (od_geT hr.units0) (meq_var (pv 2)) (meq_bin od_pow (meq_int) (meq_int)) (nomark _)) (mw_and1 (mt_cmpQ (od_ltT hr.units0) (meq_var (pv 1)) (meq_cb cd_len (by rfl) z_len (by decide +kernel) (maq_cons (meq_var (pv 0)) (maq_nil))) (nomark _))))) (mss_one (mst_rt (me_mv (pv 2)))) (mss_nil))
    (mss_cons (mst_set (i := 3) nd rfl (Or.inl rfl) (by decide) (me_binQ od_mod (meq_cty cd_int (by rfl) z_int (by decide +kernel) (maq_cons (meq_bin od_add (meq_bin od_add (meq_bin od_mul (meq_var (pv 2)) (meq_int)) (meq_bin od_mul (meq_bin od_add (meq_var (pv 1)) (meq_int)) (meq_int))) (meq_cb cd_len (by rfl) z_len (by decide +kernel) (maq_cons (meq_var (pv 0)) (maq_nil)))) (maq_nil))) (meq_int)))
    (mss_cons (mst_set (i := 4) nd rfl (Or.inl rfl) (by decide) (me_binQ od_mod (meq_cty cd_int (by rfl) z_int (by decide +kernel) (maq_cons (meq_bin od_add (meq_bin od_add (meq_bin od_mul (meq_var (pv 3)) (meq_var (pv 3))) (meq_bin od_mul (meq_var (pv 2)) (meq_int))) (meq_var (pv 1))) (maq_nil))) (meq_int)))
    (mss_one (mst_rt (me_binQ od_add (meq_bin od_mul (meq_var (pv 4)) (meq_int)) (meq_bin od_mod (meq_cty cd_int (by rfl) z_int (by decide +kernel) (maq_cons (meq_bin od_mul (meq_var (pv 3)) (meq_int)) (maq_nil))) (meq_int))))))))))
/-! _law_take -/
abbrev s_law_take : Stmt := topS 5
abbrev N_law_take : List Str := ["_law_box", "_law_size", "_law_digit"]
theorem sc_law_take : FnScope N_law_take ["_law_box", "_law_size"] (defScope s_law_take) := ⟨rfl, rfl, rfl, by decide +kernel, rfl, by decide +kernel, by decide +kernel⟩
noncomputable def m_law_take : CallM := mDef 2 3 [0, 1] (
  sSeq (sAsg (mOpQ dMod (mqCB dInt (mqCons (mqIx (mqVar 0) (mqC (.int 0))) (mqNil))) (mqVar 1)) (bName 2))
    (sSeq (sAsg (mOpQ dFdiv (mqIx (mqVar 0) (mqC (.int 0))) (mqVar 1)) (bSub 0 (mqC (.int 0))))
    (sRt (mMv 2))))
theorem ok_law_take {P : Program} {w : World} {K : PySem.W.Frag} {mg : Str → Option Value} {base : Heap} {CT : Nat → Addr} {f : Addr} {fd : FuncData} (F : Fun K "_law_take" "_law_take" s_law_take f fd) (z_int : mg "int" = none) :
    FnOk P w K mg base CX0 1 f fd ["_law_box", "_law_size"] (spM K CT 2 m_law_take) := by
  have nd := sc_law_take.nd
  refine fun_ok F sc_law_take fun cdv A outer s H wx hr => ?_
  exact mss_cons (mst_set (i := 2) nd rfl (Or.inl rfl) (by decide) (me_binQ od_mod (meq_cty cd_int (by rfl) z_int (by decide +kernel) (maq_cons (meq_ix (meq_var (pv 0)) (meq_int) (fun _ _ => rfl)) (maq_nil))) (meq_var (pv 1))))
    (mss_cons (mst_asg (me_binQ od_fdiv (meq_ix (meq_var (pv 0)) (meq_int) (fun _ _ => rfl)) (meq_var (pv 1))) (mg_sub (pv 0) (meq_int)))
    (mss_one (mst_rt (me_mv (pv 2)))))
/-! _law_below -/
abbrev s_law_below : Stmt := topS 6
abbrev N_law_below : List Str := ["_law_one", "_law_other"]
theorem sc_law_below : FnScope N_law_below ["_law_one", "_law_other"] (defScope s_law_below) := ⟨rfl, rfl, rfl, by decide +kernel, rfl, by decide +kernel, by decide +kernel⟩
noncomputable def m_law_below : CallM := mDef 2 2 [0, 1] (
  sRt (mOr (mP (mqOp2 dLtT (mqIx (mqVar 0) (mqC (.int 0))) (mqIx (mqVar 1) (mqC (.int 0))))) (mAnd (mP (mqOp2 dEq (mqIx (mqVar 0) (mqC (.int 0))) (mqIx (mqVar 1) (mqC (.int 0))))) (mP (mqOp2 dLtT (mqIx (mqVar 0) (mqC (.int 1))) (mqIx (mqVar 1) (mqC (.int 1))))))))
theorem ok_law_below {P : Program} {w : World} {K : PySem.W.Frag} {mg : Str → Option Value} {base : Heap} {CT : Nat → Addr} {f : Addr} {fd : FuncData} (F : Fun K "_law_below" "_law_below" s_law_below f fd)  :
    FnOk P w K mg base CX0 1 f fd ["_law_one", "_law_other"] (spM K CT 2 m_law_below) := by
  have nd := sc_law_below.nd
  refine fun_ok F sc_law_below fun cdv A outer s H wx hr => ?_
  exact mss_one (mst_rt (me_or (me_p (meq_cmp (od_ltT hr.units0) (meq_ix (meq_var (pv 0)) (meq_int) (fun _ _ => rfl)) (meq_ix (meq_var (pv 1)) (meq_int) (fun _ _ => rfl)) (nomark _))) (me_one (me_and (me_p (meq_cmp (od_eq hr.units) (meq_ix (meq_var (pv 0)) (meq_int) (fun _ _ => rfl)) (meq_ix (meq_var (pv 1)) (meq_int) (fun _ _ => rfl)) (nomark _))) (me_one (me_p (meq_cmp (od_ltT hr.units0) (meq_ix (meq_var (pv 0)) (meq_int) (fun _ _ => rfl)) (meq_ix (meq_var (pv 1)) (meq_int) (fun _ _ => rfl)) (nomark _))))))))
/-! _law_agrees -/
abbrev s_law_agrees : Stmt := topS 7
abbrev N_law_agrees : List Str := ["_law_acceptor", "_law_promised", "_law_accepted", "_law_turn", "_law_index", "_law_told"]
theorem sc_law_agrees : FnScope N_law_agrees ["_law_acceptor", "_law_promised", "_law_accepted"] (defScope s_law_agrees) := ⟨rfl, rfl, rfl, by decide +kernel, rfl, by decide +kernel, by decide +kernel⟩
noncomputable def m_law_agrees : CallM := mDef 3 6 [0, 1, 2] (
  sSeq (sIf (mtOr (mtB (mOpQ dNe (mqAttr [0] "promised" (mqVar 0)) (mqVar 1))) (mtB (mOpQ dNe (mqAttr [0] "accepted" (mqVar 0)) (mqVar 2)))) (sRt (mP (mqC (.bl false)))) (sPass))
    (sSeq (sFor (miV (mLst (maV (mCB dMax2 (maQ (mqCons (mqC (.int 0)) (mqCons (mqOp2 dSub (mqIx (mqVar 1) (mqC (.int 0))) (mqC (.int 1))) (mqNil))))) (maV (mP (mqIx (mqVar 1) (mqC (.int 0)))) (maV (mOpQ dAdd (mqIx (mqVar 1) (mqC (.int 0))) (mqC (.int 1))) (maNil)))))) (bName 3) (sFor (miR1 (maQ (mqCons (mqC (.int 7)) (mqNil)))) (bName 4) (sSeq (sAsg (mMeth 0 "hears" m_Acceptor_hears [] (mqVar 0) (maV (mTup (maV (mVar 3) (maV (mVar 4) (maNil)))) (maNil))) (bName 5))
        (sIf (mtOr (mtNot (mtV (mB (mqCB dIsi (mqCons (mqVar 5) (mqCons (mqC (.ty "bool")) (mqNil))))))) (mtB (mOpN dEq 5 (mCall m_law_below [] (maV (mTup (maV (mVar 3) (maV (mVar 4) (maNil)))) (maN 1 (maNil))))))) (sRt (mP (mqC (.bl false)))) (sPass)))))
    (sRt (mP (mqC (.bl true))))))
theorem ok_law_agrees {P : Program} {w : World} {K : PySem.W.Frag} {mg : Str → Option Value} {base : Heap} {CT : Nat → Addr} {f : Addr} {fd : FuncData} (F : Fun K "_law_agrees" "_law_agrees" s_law_agrees f fd) (at_accepted : Attr K CT [0] "accepted") (at_promised : Attr K CT [0] "promised") {f_Acceptor_hears : Addr} {d_Acceptor_hears : FuncData} (G_Acceptor_hears : FnOk P w K mg base CX0 1 f_Acceptor_hears d_Acceptor_hears ["self", "ballot"] (spM K CT 2 m_Acceptor_hears)) (b_Acceptor_hears : Binds K d_Acceptor_hears ["self", "ballot"] []) {f_law_below : Addr} {d_law_below : FuncData} (G_law_below : FnOk P w K mg base CX0 1 f_law_below d_law_below ["_law_one", "_law_other"] (spM K CT 2 m_law_below)) (g_law_below : mg "_law_below" = some (.ref f_law_below)) (kp_law_below : PySem.W.keepIn K (.ref f_law_below) = true) (b_law_below : Binds K d_law_below ["_law_one", "_law_other"] []) (z_bool : mg "bool" = none) (z_isinstance : mg "isinstance" = none) (z_max : mg "max" = none) (z_range : mg "range" = none) (cl_Acceptor : Cls K (CT 0)) (mt_Acceptor_hears : Meth K (CT 0) (Str.ofString "hears") f_Acceptor_hears) :
    FnOk P w K mg base CX0 2 f fd ["_law_acceptor", "_law_promised", "_law_accepted"] (spM K CT 3 m_law_agrees) := by
  have nd := sc_law_agrees.nd
  refine fun_ok F sc_law_agrees fun cdv A outer s H wx hr => ?_
  exact mss_cons (mst_if (mt_w (mw_or (mt_cmpQ (od_ne hr.units) (meq_attr (f := "promised") (meq_var (pv 0)) at_promised) (meq_var (pv 1)) (nomark _)) (mw_or1 (mt_cmpQ (od_ne hr.units) (meq_attr (f := "accepted") (meq_var (pv 0)) at_accepted) (meq_var (pv 2)) (nomark _))))) (mss_one (mst_rt (me_p (meq_bl)))) (mss_nil))
    (mss_cons (mst_for (pi := []) PassesOwn.never rfl (mi_v (me_lst (ma_v (me_cb (cd_max2 rfl) (by rfl) z_max (by decide +kernel) (ma_q (maq_cons (meq_int) (maq_cons (meq_bin od_sub (meq_ix (meq_var (pv 1)) (meq_int) (fun _ _ => rfl)) (meq_int)) (maq_nil))))) (ma_v (me_p (meq_ix (meq_var (pv 1)) (meq_int) (fun _ _ => rfl))) (ma_v (me_binQ od_add (meq_ix (meq_var (pv 1)) (meq_int) (fun _ _ => rfl)) (meq_int)) (ma_nil)))))) (mg_name (i := 3) nd rfl (Or.inl rfl) (by decide)) (mss_one (mst_for (pi := []) PassesOwn.never rfl (mi_r1 (by rfl) z_range (ma_q (maq_cons (meq_int) (maq_nil)))) (mg_name (i := 4) nd rfl (Or.inl rfl) (by decide)) (mss_cons (mst_set (i := 5) nd rfl (Or.inl rfl) (by decide) (me_meth (c := 0) (mn := "hears") (meq_var (pv 0)) cl_Acceptor mt_Acceptor_hears G_Acceptor_hears mDef_len (hr.mono (by decide)) b_Acceptor_hears .nil (fun _ _ => .nil) pass0 (ma_v (me_tup (ma_v (me_var (pv 3)) (ma_v (me_var (pv 4)) (ma_nil)))) (ma_nil))))
        (mss_one (mst_if (mt_w (mw_or (mt_not (mt_v (meb_q (meq_cb cd_isi (by rfl) z_isinstance (by decide +kernel) (maq_cons (meq_var (pv 5)) (maq_cons (meq_ty (by rfl) z_bool (by decide +kernel)) (maq_nil))))))) (mw_or1 (mt_cmpN (od_eq hr.units) (pv 5) (meb_v (me_call G_law_below mDef_len (hr.mono (by decide)) (by rfl) g_law_below kp_law_below b_law_below .nil (fun _ _ => .nil) pass0 (ma_v (me_tup (ma_v (me_var (pv 3)) (ma_v (me_var (pv 4)) (ma_nil)))) (ma_n (pv 1) (ma_nil))))) (nomark _))))) (mss_one (mst_rt (me_p (meq_bl)))) (mss_nil)))))))
    (mss_one (mst_rt (me_p (meq_bl)))))
/-! Acceptor.fork -/
abbrev s_Acceptor_fork : Stmt := inClass (topS 2) 4
abbrev N_Acceptor_fork : List Str := ["self"]
theorem sc_Acceptor_fork : FnScope N_Acceptor_fork ["self"] (defScope s_Acceptor_fork) := ⟨rfl, rfl, rfl, by decide +kernel, rfl, by decide +kernel, by decide +kernel⟩
noncomputable def m_Acceptor_fork : CallM := mDef 1 1 [0] (
  sRt (mMake 0 m_Acceptor_init [] (maQ (mqCons (mqAttr [0] "promised" (mqVar 0)) (mqCons (mqAttr [0] "accepted" (mqVar 0)) (mqNil))))))
theorem ok_Acceptor_fork {P : Program} {w : World} {K : PySem.W.Frag} {mg : Str → Option Value} {base : Heap} {CT : Nat → Addr} {f : Addr} {fd : FuncData} (F : Fun K "fork" "Acceptor.fork" s_Acceptor_fork f fd) (at_accepted : Attr K CT [0] "accepted") (at_promised : Attr K CT [0] "promised") {f_Acceptor_init : Addr} {d_Acceptor_init : FuncData} (G_Acceptor_init : FnOk P w K mg base CX0 1 f_Acceptor_init d_Acceptor_init ["self", "promised", "accepted"] (spM K CT 3 m_Acceptor_init)) {v_Acceptor_init_0 : List V} (B_Acceptor_init_0 : ∃ ds, Vals v_Acceptor_init_0 ds ∧ Binds K d_Acceptor_init ["self", "promised", "accepted"] ds) (k_Acceptor_init_0 : Consts K v_Acceptor_init_0 []) (mk_Acceptor : Mk K (CT 0) f_Acceptor_init) (g_Acceptor : mg "Acceptor" = some (.ref (CT 0))) :
    FnOk P w K mg base CX0 3 f fd ["self"] (spM K CT 1 m_Acceptor_fork) := by
  have nd := sc_Acceptor_fork.nd
  obtain ⟨e_Acceptor_init_0, w_Acceptor_init_0, b_Acceptor_init_0⟩ := B_Acceptor_init_0
  refine fun_ok F sc_Acceptor_fork fun cdv A outer s H wx hr => ?_
  exact mss_one (mst_rt (me_make mk_Acceptor G_Acceptor_init mDef_len (hr.mono (by decide)) (by rfl) g_Acceptor b_Acceptor_init_0 w_Acceptor_init_0 k_Acceptor_init_0 pass0 (ma_q (maq_cons (meq_attr (f := "promised") (meq_var (pv 0)) at_promised) (maq_cons (meq_attr (f := "accepted") (meq_var (pv 0)) at_accepted) (maq_nil))))))
/-! law -/
abbrev s_law : Stmt := topS 8
abbrev N_law : List Str := ["_law_script", "_law_acceptor", "_law_promised", "_law_accepted", "_law_box", "_law_k", "_law_ballot", "_law_entry", "_law_kind", "_law_left", "_law_known"]
theorem sc_law : FnScope N_law ["_law_script"] (defScope s_law) := ⟨rfl, rfl, rfl, by decide +kernel, rfl, by decide +kernel, by decide +kernel⟩
noncomputable def m_law : CallM := mDef 1 11 [0] (
  sSeq (sAsg (mMake 0 m_Acceptor_init [.tup [.int 0, .int 0], .non] maNil) (bName 1))
    (sSeq (sAsg (mTup (maV (mP (mqC (.int 0))) (maV (mP (mqC (.int 0))) (maNil)))) (bName 2))
    (sSeq (sAsg (mP (mqC .non)) (bName 3))
    (sSeq (sIf (mtNot (mtV (mCall m_law_agrees [] (maN 1 (maN 2 (maN 3 (maNil))))))) (sRt (mP (mqC (.bl false)))) (sPass))
    (sSeq (sAsg (mLst (maV (mCall m_law_row [] (maN 0 (maQ (mqCons (mqC (.int 0)) (mqNil))))) (maNil))) (bName 4))
    (sSeq (sIf (mtB (mOp2 dEq (mCall m_law_take [] (maN 4 (maQ (mqCons (mqC (.int 2)) (mqNil))))) (mB (mqC (.int 0))))) (sSeq (sAsg (mTup (maV (mOp2 dAdd (mP (mqC (.int 1))) (mCall m_law_take [] (maN 4 (maQ (mqCons (mqC (.int 9000)) (mqNil)))))) (maV (mCall m_law_take [] (maN 4 (maQ (mqCons (mqC (.int 7)) (mqNil))))) (maNil)))) (bName 2))
      (sSeq (sAsg (mIx (mLst (maV (mP (mqC .non)) (maV (mTup (maV (mVar 2) (maV (mTup (maV (mP (mqC (.str "batch"))) (maV (mTup (maV (mTup (maV (mP (mqC (.str "x"))) (maNil))) (maNil))) (maNil)))) (maNil)))) (maV (mTup (maV (mTup (maV (mP (mqC (.int 1))) (maV (mP (mqC (.int 0))) (maNil)))) (maV (mP (mqC (.int 7))) (maNil)))) (maNil))))) (mCall m_law_take [] (maN 4 (maQ (mqCons (mqC (.int 3)) (mqNil)))))) (bName 3))
      (sAsg (mMake 0 m_Acceptor_init [] (maN 2 (maN 3 (maNil)))) (bName 1)))) (sPass))
    (sSeq (sFor (miR1 (maQ (mqCons (mqC (.int 30)) (mqNil)))) (bName 5) (sSeq (sAsg (mLst (maV (mCall m_law_row [] (maN 0 (maQ (mqCons (mqOp2 dAdd (mqC (.int 1)) (mqVar 5)) (mqNil))))) (maNil))) (bName 4))
      (sSeq (sAsg (mTup (maV (mCB dMax2 (maV (mP (mqC (.int 0))) (maV (mOp2 dSub (mOp2 dAdd (mP (mqIx (mqVar 2) (mqC (.int 0)))) (mCall m_law_take [] (maN 4 (maQ (mqCons (mqC (.int 4)) (mqNil)))))) (mB (mqC (.int 1)))) (maNil)))) (maV (mCall m_law_take [] (maN 4 (maQ (mqCons (mqC (.int 7)) (mqNil))))) (maNil)))) (bName 6))
      (sSeq (sAsg (mIx (mLst (maV (mTup (maV (mP (mqC (.str "batch"))) (maV (mTup (maV (mTup (maV (mP (mqC (.str "a"))) (maV (mP (mqC (.int 1))) (maNil)))) (maNil))) (maNil)))) (maV (mTup (maV (mP (mqC (.str "members"))) (maV (mTup (maV (mP (mqC (.int 0))) (maNil))) (maNil)))) (maV (mP (mqC (.str "b"))) (maNil))))) (mCall m_law_take [] (maN 4 (maQ (mqCons (mqC (.int 3)) (mqNil)))))) (bName 7))
      (sSeq (sAsg (mCall m_law_take [] (maN 4 (maQ (mqCons (mqC (.int 5)) (mqNil))))) (bName 8))
      (sSeq (sAsg (mP (mqC .non)) (bName 9))
      (sSeq (sAsg (mTup (maV (mVar 2) (maV (mVar 3) (maNil)))) (bName 10))
      (sSeq (sIf (mtB (mOpQ dEq (mqVar 8) (mqC (.int 4)))) (sSeq (sAsg (mVar 1) (bName 9))
        (sAsg (mMeth 0 "fork" m_Acceptor_fork [] (mqVar 9) maNil) (bName 1))) (sPass))
      (sSeq (sIf (mtNot (mtV (mCall m_law_below [] (maN 6 (maN 2 (maNil)))))) (sSeq (sAsg (mVar 6) (bName 2))
        (sIf (mtB (mOpQ dLtT (mqVar 8) (mqC (.int 2)))) (sEx (mMeth 0 "promise" m_Acceptor_promise [] (mqVar 1) (maN 6 (maNil)))) (sSeq (sEx (mMeth 0 "accept" m_Acceptor_accept [] (mqVar 1) (maN 6 (maN 7 (maNil)))))
          (sAsg (mTup (maV (mVar 6) (maV (mVar 7) (maNil)))) (bName 3))))) (sPass))
      (sSeq (sIf (mtNot (mtV (mCall m_law_agrees [] (maN 1 (maN 2 (maN 3 (maNil))))))) (sRt (mP (mqC (.bl false)))) (sPass))
      (sIf (mtAnd (mtB (mOpQ dIsNot (mqVar 9) (mqC .non))) (mtNot (mtV (mCall m_law_agrees [] (maN 9 (maQ (mqCons (mqIx (mqVar 10) (mqC (.int 0))) (mqCons (mqIx (mqVar 10) (mqC (.int 1))) (mqNil))))))))) (sRt (mP (mqC (.bl false)))) (sPass))))))))))))
    (sRt (mP (mqC (.bl true)))))))))))
theorem ok_law {P : Program} {w : World} {K : PySem.W.Frag} {mg : Str → Option Value} {base : Heap} {CT : Nat → Addr} {f : Addr} {fd : FuncData} (F : Fun K "law" "law" s_law f fd) {f_Acceptor_init : Addr} {d_Acceptor_init : FuncData} (G_Acceptor_init : FnOk P w K mg base CX0 1 f_Acceptor_init d_Acceptor_init ["self", "promised", "accepted"] (spM K CT 3 m_Acceptor_init)) {v_Acceptor_init_0 : List V} (B_Acceptor_init_0 : ∃ ds, Vals v_Acceptor_init_0 ds ∧ Binds K d_Acceptor_init ["self", "promised", "accepted"] ds) (k_Acceptor_init_0 : Consts K v_Acceptor_init_0 []) {v_Acceptor_init_2 : List V} (B_Acceptor_init_2 : ∃ ds, Vals v_Acceptor_init_2 ds ∧ Binds K d_Acceptor_init ["self", "promised", "accepted"] ds) (k_Acceptor_init_2 : Consts K v_Acceptor_init_2 [.tup [.int 0, .int 0], .non]) {f_Acceptor_accept : Addr} {d_Acceptor_accept : FuncData} (G_Acceptor_accept : FnOk P w K mg base CX0 1 f_Acceptor_accept d_Acceptor_accept ["self", "ballot", "entry"] (spM K CT 3 m_Acceptor_accept)) (b_Acceptor_accept : Binds K d_Acceptor_accept ["self", "ballot", "entry"] []) {f_Acceptor_fork : Addr} {d_Acceptor_fork : FuncData} (G_Acceptor_fork : FnOk P w K mg base CX0 3 f_Acceptor_fork d_Acceptor_fork ["self"] (spM K CT 1 m_Acceptor_fork)) (b_Acceptor_fork : Binds K d_Acceptor_fork ["self"] []) {f_Acceptor_promise : Addr} {d_Acceptor_promise : FuncData} (G_Acceptor_promise : FnOk P w K mg base CX0 1 f_Acceptor_promise d_Acceptor_promise ["self", "ballot"] (spM K CT 2 m_Acceptor_promise)) (b_Acceptor_promise : Binds K d_Acceptor_promise ["self", "ballot"] []) {f_law_agrees : Addr} {d_law_agrees : FuncData} (G_law_agrees : FnOk P w K mg base CX0 2 f_law_agrees d_law_agrees ["_law_acceptor", "_law_promised", "_law_accepted"] (spM K CT 3 m_law_agrees)) (g_law_agrees : mg "_law_agrees" = some (.ref f_law_agrees)) (kp_law_agrees : PySem.W.keepIn K (.ref f_law_agrees) = true) (b_law_agrees : Binds K d_law_agrees ["_law_acceptor", "_law_promised", "_law_accepted"] []) {f_law_below : Addr} {d_law_below : FuncData} (G_law_below : FnOk P w K mg base CX0 1 f_law_below d_law_below ["_law_one", "_law_other"] (spM K CT 2 m_law_below)) (g_law_below : mg "_law_below" = some (.ref f_law_below)) (kp_law_below : PySem.W.keepIn K (.ref f_law_below) = true) (b_law_below : Binds K d_law_below ["_law_one", "_law_other"] []) {f_law_row : Addr} {d_law_row : FuncData} (G_law_row : FnOk P w K mg base CX0 1 f_law_row d_law_row ["_law_script", "_law_k"] (spM K CT 2 m_law_row)) (g_law_row : mg "_law_row" = some (.ref f_law_row)) (kp_law_row : PySem.W.keepIn K (.ref f_law_row) = true) (b_law_row : Binds K d_law_row ["_law_script", "_law_k"] []) {f_law_take : Addr} {d_law_take : FuncData} (G_law_take : FnOk P w K mg base CX0 1 f_law_take d_law_take ["_law_box", "_law_size"] (spM K CT 2 m_law_take)) (g_law_take : mg "_law_take" = some (.ref f_law_take)) (kp_law_take : PySem.W.keepIn K (.ref f_law_take) = true) (b_law_take : Binds K d_law_take ["_law_box", "_law_size"] []) (z_max : mg "max" = none) (z_range : mg "range" = none) (cl_Acceptor : Cls K (CT 0)) (mk_Acceptor : Mk K (CT 0) f_Acceptor_init) (g_Acceptor : mg "Acceptor" = some (.ref (CT 0))) (mt_Acceptor_accept : Meth K (CT 0) (Str.ofString "accept") f_Acceptor_accept) (mt_Acceptor_fork : Meth K (CT 0) (Str.ofString "fork") f_Acceptor_fork) (mt_Acceptor_promise : Meth K (CT 0) (Str.ofString "promise") f_Acceptor_promise) :
    FnOk P w K mg base CX0 4 f fd ["_law_script"] (spM K CT 1 m_law) := by
  have nd := sc_law.nd
  obtain ⟨e_Acceptor_init_0, w_Acceptor_init_0, b_Acceptor_init_0⟩ := B_Acceptor_init_0
  obtain ⟨e_Acceptor_init_2, w_Acceptor_init_2, b_Acceptor_init_2⟩ := B_Acceptor_init_2
  refine fun_ok F sc_law fun cdv A outer s H wx hr => ?_
  exact mss_cons (mst_set (i := 1) nd rfl (Or.inl rfl) (by decide) (me_make0 mk_Acceptor G_Acceptor_init mDef_len (hr.mono (by decide)) (by rfl) g_Acceptor b_Acceptor_init_2 w_Acceptor_init_2 k_Acceptor_init_2 pass0))
    (mss_cons (mst_set (i := 2) nd rfl (Or.inl rfl) (by decide) (me_tup (ma_v (me_p (meq_int)) (ma_v (me_p (meq_int)) (ma_nil)))))
    (mss_cons (mst_set (i := 3) nd rfl (Or.inl rfl) (by decide) (me_p (meq_non)))
    (mss_cons (mst_if (mt_not (mt_v (meb_v (me_call G_law_agrees mDef_len (hr.mono (by decide)) (by rfl) g_law_agrees kp_law_agrees b_law_agrees .nil (fun _ _ => .nil) pass0 (ma_n (pv 1) (ma_n (pv 2) (ma_n (pv 3) (ma_nil)))))))) (mss_one (mst_rt (me_p (meq_bl)))) (mss_nil))
    (mss_cons (mst_set (i := 4) nd rfl (Or.inl rfl) (by decide) (me_lst (ma_v (me_call G_law_row mDef_len (hr.mono (by decide)) (by rfl) g_law_row kp_law_row b_law_row .nil (fun _ _ => .nil) pass0 (ma_n (pv 0) (ma_q (maq_cons (meq_int) (maq_nil))))) (ma_nil))))
    (mss_cons (mst_if (mt_cmp (od_eq hr.units) (me_call G_law_take mDef_len (hr.mono (by decide)) (by rfl) g_law_take kp_law_take b_law_take .nil (fun _ _ => .nil) pass0 (ma_n (pv 4) (ma_q (maq_cons (meq_int) (maq_nil))))) (meb_q (meq_int)) (nomark _)) (mss_cons (mst_set (i := 2) nd rfl (Or.inl rfl) (by decide) (me_tup (ma_v (me_bin od_add (me_p (meq_int)) (meb_v (me_call G_law_take mDef_len (hr.mono (by decide)) (by rfl) g_law_take kp_law_take b_law_take .nil (fun _ _ => .nil) pass0 (ma_n (pv 4) (ma_q (maq_cons (meq_int) (maq_nil))))))) (ma_v (me_call G_law_take mDef_len (hr.mono (by decide)) (by rfl) g_law_take kp_law_take b_law_take .nil (fun _ _ => .nil) pass0 (ma_n (pv 4) (ma_q (maq_cons (meq_int) (maq_nil))))) (ma_nil)))))
      (mss_cons (mst_set (i := 3) nd rfl (Or.inl rfl) (by decide) (me_ix (me_lst (ma_v (me_p (meq_non)) (ma_v (me_tup (ma_v (me_var (pv 2)) (ma_v (me_tup (ma_v (me_p (meq_str)) (ma_v (me_tup (ma_v (me_tup (ma_v (me_p (meq_str)) (ma_nil))) (ma_nil))) (ma_nil)))) (ma_nil)))) (ma_v (me_tup (ma_v (me_tup (ma_v (me_p (meq_int)) (ma_v (me_p (meq_int)) (ma_nil)))) (ma_v (me_p (meq_int)) (ma_nil)))) (ma_nil))))) (meb_v (me_call G_law_take mDef_len (hr.mono (by decide)) (by rfl) g_law_take kp_law_take b_law_take .nil (fun _ _ => .nil) pass0 (ma_n (pv 4) (ma_q (maq_cons (meq_int) (maq_nil)))))) (fun _ _ => rfl)))
      (mss_one (mst_set (i := 1) nd rfl (Or.inl rfl) (by decide) (me_make mk_Acceptor G_Acceptor_init mDef_len (hr.mono (by decide)) (by rfl) g_Acceptor b_Acceptor_init_0 w_Acceptor_init_0 k_Acceptor_init_0 pass0 (ma_n (pv 2) (ma_n (pv 3) (ma_nil)))))))) (mss_nil))
    (mss_cons (mst_for (pi := []) PassesOwn.never rfl (mi_r1 (by rfl) z_range (ma_q (maq_cons (meq_int) (maq_nil)))) (mg_name (i := 5) nd rfl (Or.inl rfl) (by decide)) (mss_cons (mst_set (i := 4) nd rfl (Or.inl rfl) (by decide) (me_lst (ma_v (me_call G_law_row mDef_len (hr.mono (by decide)) (by rfl) g_law_row kp_law_row b_law_row .nil (fun _ _ => .nil) pass0 (ma_n (pv 0) (ma_q (maq_cons (meq_bin od_add (meq_int) (meq_var (pv 5))) (maq_nil))))) (ma_nil))))
      (mss_cons (mst_set (i := 6) nd rfl (Or.inl rfl) (by decide) (me_tup (ma_v (me_cb (cd_max2 rfl) (by rfl) z_max (by decide +kernel) (ma_v (me_p (meq_int)) (ma_v (me_bin od_sub (me_bin od_add (me_p (meq_ix (meq_var (pv 2)) (meq_int) (fun _ _ => rfl))) (meb_v (me_call G_law_take mDef_len (hr.mono (by decide)) (by rfl) g_law_take kp_law_take b_law_take .nil (fun _ _ => .nil) pass0 (ma_n (pv 4) (ma_q (maq_cons (meq_int) (maq_nil))))))) (meb_q (meq_int))) (ma_nil)))) (ma_v (me_call G_law_take mDef_len (hr.mono (by decide)) (by rfl) g_law_take kp_law_take b_law_take .nil (fun _ _ => .nil) pass0 (ma_n (pv 4) (ma_q (maq_cons (meq_int) (maq_nil))))) (ma_nil)))))
      (mss_cons (mst_set (i := 7) nd rfl (Or.inl rfl) (by decide) (me_ix (me_lst (ma_v (me_tup (ma_v (me_p (meq_str)) (ma_v (me_tup (ma_v (me_tup (ma_v (me_p (meq_str)) (ma_v (me_p (meq_int)) (ma_nil)))) (ma_nil))) (ma_nil)))) (ma_v (me_tup (ma_v (me_p (meq_str)) (ma_v (me_tup (ma_v (me_p (meq_int)) (ma_nil))) (ma_nil)))) (ma_v (me_p (meq_str)) (ma_nil))))) (meb_v (me_call G_law_take mDef_len (hr.mono (by decide)) (by rfl) g_law_take kp_law_take b_law_take .nil (fun _ _ => .nil) pass0 (ma_n (pv 4) (ma_q (maq_cons (meq_int) (maq_nil)))))) (fun _ _ => rfl)))
      (mss_cons (mst_set (i := 8) nd rfl (Or.inl rfl) (by decide) (me_call G_law_take mDef_len (hr.mono (by decide)) (by rfl) g_law_take kp_law_take b_law_take .nil (fun _ _ => .nil) pass0 (ma_n (pv 4) (ma_q (maq_cons (meq_int) (maq_nil))))))
      (mss_cons (mst_set (i := 9) nd rfl (Or.inl rfl) (by decide) (me_p (meq_non)))
      (mss_cons (mst_set (i := 10) nd rfl (Or.inl rfl) (by decide) (me_tup (ma_v (me_var (pv 2)) (ma_v (me_var (pv 3)) (ma_nil)))))
      (mss_cons (mst_if (mt_cmpQ (od_eq hr.units) (meq_var (pv 8)) (meq_int) (nomark _)) (mss_cons (mst_set (i := 9) nd rfl (Or.inl rfl) (by decide) (me_var (pv 1)))
        (mss_one (mst_set (i := 1) nd rfl (Or.inl rfl) (by decide) (me_meth0 (c := 0) (mn := "fork") (meq_var (pv 9)) cl_Acceptor mt_Acceptor_fork G_Acceptor_fork mDef_len (hr.mono (by decide)) b_Acceptor_fork .nil (fun _ _ => .nil) pass0)))) (mss_nil))
      (mss_cons (mst_if (mt_not (mt_v (meb_v (me_call G_law_below mDef_len (hr.mono (by decide)) (by rfl) g_law_below kp_law_below b_law_below .nil (fun _ _ => .nil) pass0 (ma_n (pv 6) (ma_n (pv 2) (ma_nil))))))) (mss_cons (mst_set (i := 2) nd rfl (Or.inl rfl) (by decide) (me_var (pv 6)))
        (mss_one (mst_if (mt_cmpQ (od_ltT hr.units0) (meq_var (pv 8)) (meq_int) (nomark _)) (mss_one (mst_ex (me_meth (c := 0) (mn := "promise") (meq_var (pv 1)) cl_Acceptor mt_Acceptor_promise G_Acceptor_promise mDef_len (hr.mono (by decide)) b_Acceptor_promise .nil (fun _ _ => .nil) pass0 (ma_n (pv 6) (ma_nil))))) (mss_cons (mst_ex (me_meth (c := 0) (mn := "accept") (meq_var (pv 1)) cl_Acceptor mt_Acceptor_accept G_Acceptor_accept mDef_len (hr.mono (by decide)) b_Acceptor_accept .nil (fun _ _ => .nil) pass0 (ma_n (pv 6) (ma_n (pv 7) (ma_nil)))))
          (mss_one (mst_set (i := 3) nd rfl (Or.inl rfl) (by decide) (me_tup (ma_v (me_var (pv 6)) (ma_v (me_var (pv 7)) (ma_nil)))))))))) (mss_nil))
      (mss_cons (mst_if (mt_not (mt_v (meb_v (me_call G_law_agrees mDef_len (hr.mono (by decide)) (by rfl) g_law_agrees kp_law_agrees b_law_agrees .nil (fun _ _ => .nil) pass0 (ma_n (pv 1) (ma_n (pv 2) (ma_n (pv 3) (ma_nil)))))))) (mss_one (mst_rt (me_p (meq_bl)))) (mss_nil))
      (mss_one (mst_if (mt_w (mw_and (mt_cmpQ od_isnot (meq_var (pv 9)) (meq_non) (nomark _)) (mw_and1 (mt_not (mt_v (meb_v (me_call G_law_agrees mDef_len (hr.mono (by decide)) (by rfl) g_law_agrees kp_law_agrees b_law_agrees .nil (fun _ _ => .nil) pass0 (ma_n (pv 9) (ma_q (maq_cons (meq_ix (meq_var (pv 10)) (meq_int) (fun _ _ => rfl)) (maq_cons (meq_ix (meq_var (pv 10)) (meq_int) (fun _ _ => rfl)) (maq_nil)))))))))))) (mss_one (mst_rt (me_p (meq_bl)))) (mss_nil)))))))))))))
    (mss_one (mst_rt (me_p (meq_bl))))))))))
end Gen
namespace Gen
open PySem L2 E
theorem row_eq (o : Bool) (xs : List Int) (k : Int) (hk : 0 ≤ k) (hs : List Ob) : ∃ r, m_law_row [.lst o (xs.map .int), .int k] hs = .ok (.int r, [.lst o (xs.map .int), .int k], hs) := by
  by_cases h0 : 0 < xs.length
  · have h1 : 0 ≤ k % (xs.length : Int) := Int.emod_nonneg _ (by omega)
    have h2 : k % (xs.length : Int) < xs.length := Int.emod_lt_of_pos _ (by omega)
    have e := atI_nn h1 h2
    generalize hc : xs[(k % (xs.length : Int)).toNat]'(by omega) = c at e
    by_cases h3 : c < 0
    · by_cases h4 : 1000000000 ≤ 1 - 2 * c
      · by_cases h5 : k < xs.length <;> simp [m_law_row, h0, e, h3, h4, h5]
      · simp [m_law_row, h0, e, h3, h4]
    · by_cases h4 : 1000000000 ≤ c
      · by_cases h5 : k < xs.length <;> simp [m_law_row, h0, e, h3, h4, h5]
      · simp [m_law_row, h0, e, h3, h4]
  · simp [m_law_row, h0]
theorem take_eq (n s : Int) (h : 0 < s) (hw : wide s = true) (hs : List Ob) : m_law_take [.lst true [.int n], .int s] hs = .ok (.int (n % s), [.lst true [.int (n / s)], .int s], hs) := by
  have e : ∀ a : D, atI [a] 0 = some a := fun a => rfl
  have e2 : ixN 1 0 = some 0 := rfl
  simp [m_law_take, e, e2, h, hw]

theorem at_of {hs : List Ob} {n : Nat} {o : Ob} (h : hs[n]? = some o) : ∃ hn : n < hs.length, hs[n] = o := by
  rcases Nat.lt_or_ge n hs.length with h' | h'
  · rw [List.getElem?_eq_getElem h'] at h; cases h; exact ⟨h', rfl⟩
  · rw [List.getElem?_eq_none h'] at h; cases h
def acc (p0 p1 : Int) (a : D) : Ob := ⟨0, [("promised", .tup [.int p0, .int p1]), ("accepted", a)]⟩
def Good (a : D) : Prop := a.pure = true ∧ ∃ x, a.toPy = some x ∧ SeqAt.shaped x = true ∧ PyData.eqv x x = true
theorem init_eq (p0 p1 : Int) (a : D) (ha : a.pure = true) (hs : List Ob) : m_Acceptor_init [.loc hs.length, .tup [.int p0, .int p1], a] (hs ++ [⟨0, []⟩]) = .ok (.non, [.loc hs.length, .tup [.int p0, .int p1], a], hs ++ [acc p0 p1 a]) := by
  have e : ∀ x : Ob, (hs ++ [x])[hs.length]? = some x := fun x => by simp
  have e2 : ∀ x y : Ob, (hs ++ [x]).set hs.length y = hs ++ [y] := fun x y => by simp

  simp [m_Acceptor_init, e, e2, ha, setF, acc]
theorem hears_eq (n : Nat) (p0 p1 t i : Int) (a : D) (hs : List Ob) (h : hs[n]? = some (acc p0 p1 a)) : m_Acceptor_hears [.loc n, .tup [.int t, .int i]] hs = .ok (.bl (tupGe [t, i] [p0, p1]), [.loc n, .tup [.int t, .int i]], hs) := by
  simp [m_Acceptor_hears, h, acc, lookF, toInts]
theorem promise_eq (n : Nat) (p0 p1 t i : Int) (a : D) (hs : List Ob) (h : hs[n]? = some (acc p0 p1 a)) : m_Acceptor_promise [.loc n, .tup [.int t, .int i]] hs = .ok (.non, [.loc n, .tup [.int t, .int i]], hs.set n (acc t i a)) := by
  simp [m_Acceptor_promise, h, acc, setF]
theorem accept_eq (n : Nat) (p0 p1 t i : Int) (a e : D) (he : e.pure = true) (hs : List Ob) (h : hs[n]? = some (acc p0 p1 a)) : m_Acceptor_accept [.loc n, .tup [.int t, .int i], e] hs = .ok (.non, [.loc n, .tup [.int t, .int i], e], hs.set n (acc t i (.tup [.tup [.int t, .int i], e]))) := by
  obtain ⟨hn, h'⟩ := at_of h

  simp [m_Acceptor_accept, h', acc, setF, he, hn]
theorem fork_eq (n : Nat) (p0 p1 : Int) (a : D) (ha : a.pure = true) (hs : List Ob) (h : hs[n]? = some (acc p0 p1 a)) : m_Acceptor_fork [.loc n] hs = .ok (.loc hs.length, [.loc n], hs ++ [acc p0 p1 a]) := by
  have e := init_eq p0 p1 a ha hs
  simp [m_Acceptor_fork, h, acc, lookF, callTail, ha]
  simp [acc] at e
  simp [e]
def lt2 (a b c d : Int) : Bool := decide (a < c ∨ a = c ∧ b < d)
theorem below_eq (a b c d : Int) (hs : List Ob) : m_law_below [.tup [.int a, .int b], .tup [.int c, .int d]] hs = .ok (.bl (lt2 a b c d), [.tup [.int a, .int b], .tup [.int c, .int d]], hs) := by
  have e0 : ∀ x y : D, atI [x, y] 0 = some x := fun _ _ => rfl
  have e1 : ∀ x y : D, atI [x, y] 1 = some y := fun _ _ => rfl
  by_cases h1 : a < c
  · simp [m_law_below, e0, e1, lt2, h1]
  · by_cases h2 : a = c
    · subst h2
      simp [m_law_below, e0, e1, lt2]
    · simp [m_law_below, e0, e1, lt2, h1, h2]
theorem ge_lt (t i p q : Int) : tupGe [t, i] [p, q] = !lt2 t i p q := by
  unfold tupGe lt2
  by_cases h : t = p
  · subst h; by_cases h2 : i = q
    · subst h2; simp [lexB]
    · simp only [lexB, geI, h2, if_true, if_false, Int.lt_irrefl, false_or, true_and]
      by_cases h3 : i < q
      · simp [h3] <;> omega
      · simp [h3] <;> omega
  · by_cases h3 : t < p
    · simp [lexB, geI, h, h3]
    · simp [lexB, geI, h, h3] <;> omega

theorem agrees_eq (n : Nat) (p0 p1 : Int) (a : D) (ha : Good a) (hs : List Ob) (h : hs[n]? = some (acc p0 p1 a)) : m_law_agrees [.loc n, .tup [.int p0, .int p1], a] hs = .ok (.bl true, [.loc n, .tup [.int p0, .int p1], a], hs) := by
  obtain ⟨hp, x, ex, sx, vx⟩ := ha
  have e0 : ∀ x y : D, atI [x, y] 0 = some x := fun _ _ => rfl
  have st : SeqAt.shaped (.tuple [.int p0, .int p1]) = true := sh_intsT [p0, p1]
  have inner : ∀ (t : Int) (c d : D), ∃ c' d', E.forM (fun _ => True) (bName 4) (sSeq (sAsg (mMeth 0 "hears" m_Acceptor_hears [] (mqVar 0) (maV (mTup (maV (mVar 3) (maV (mVar 4) (maNil)))) (maNil))) (bName 5))
        (sIf (mtOr (mtNot (mtV (mB (mqCB dIsi (mqCons (mqVar 5) (mqCons (mqC (.ty "bool")) (mqNil))))))) (mtB (mOpN dEq 5 (mCall m_law_below [] (maV (mTup (maV (mVar 3) (maV (mVar 4) (maNil)))) (maN 1 (maNil))))))) (sRt (mP (mqC (.bl false)))) (sPass)))
      ((List.range 7).map fun (k : Nat) => D.int (0 + (k : Int))) ⟨[.loc n, .tup [.int p0, .int p1], a, .int t, c, d], hs⟩ = .ok (.nx, ⟨[.loc n, .tup [.int p0, .int p1], a, .int t, c', d'], hs⟩) := by
    intro t c d
    obtain ⟨m', e, c', d', rfl⟩ := forM_inv (α := Nat) (ok := fun _ => True) (b := bName 4) (body := (sSeq (sAsg (mMeth 0 "hears" m_Acceptor_hears [] (mqVar 0) (maV (mTup (maV (mVar 3) (maV (mVar 4) (maNil)))) (maNil))) (bName 5))
        (sIf (mtOr (mtNot (mtV (mB (mqCB dIsi (mqCons (mqVar 5) (mqCons (mqC (.ty "bool")) (mqNil))))))) (mtB (mOpN dEq 5 (mCall m_law_below [] (maV (mTup (maV (mVar 3) (maV (mVar 4) (maNil)))) (maN 1 (maNil))))))) (sRt (mP (mqC (.bl false)))) (sPass))))
      (fun k => .int (0 + (k : Int))) (fun p m => ∃ c' d', m = ⟨[.loc n, .tup [.int p0, .int p1], a, .int t, c', d'], hs⟩) (List.range 7) ⟨[.loc n, .tup [.int p0, .int p1], a, .int t, c, d], hs⟩ ⟨_, _, rfl⟩ (fun _ _ _ => trivial) (by
        rintro p k q m hpk ⟨c', d', rfl⟩
        have eh := hears_eq n p0 p1 t k a hs h
        have eb := below_eq t k p0 p1 hs
        rw [ge_lt] at eh
        refine ⟨_, ⟨[.loc n, .tup [.int p0, .int p1], a, .int t, .int k, .bl (!lt2 t k p0 p1)], hs⟩, rfl, by simp [isOf, h, acc, lookF, callTail, eh, eb], _, _, rfl⟩)
    exact ⟨c', d', e⟩
  obtain ⟨c1, d1, e1⟩ := inner (if p0 - 1 > 0 then p0 - 1 else 0) .und .und
  obtain ⟨c2, d2, e2⟩ := inner p0 c1 d1
  obtain ⟨c3, d3, e3⟩ := inner (p0 + 1) c2 d2
  simp at e1 e2 e3
  simp [m_law_agrees, h, acc, lookF, hp, ex, sx, vx, st, e0, rangeD_eq, e1, e2, e3]
end Gen
namespace Gen
open PySem L2 E
noncomputable def body31 : MS := (sSeq (sAsg (mLst (maV (mCall m_law_row [] (maN 0 (maQ (mqCons (mqOp2 dAdd (mqC (.int 1)) (mqVar 5)) (mqNil))))) (maNil))) (bName 4))
      (sSeq (sAsg (mTup (maV (mCB dMax2 (maV (mP (mqC (.int 0))) (maV (mOp2 dSub (mOp2 dAdd (mP (mqIx (mqVar 2) (mqC (.int 0)))) (mCall m_law_take [] (maN 4 (maQ (mqCons (mqC (.int 4)) (mqNil)))))) (mB (mqC (.int 1)))) (maNil)))) (maV (mCall m_law_take [] (maN 4 (maQ (mqCons (mqC (.int 7)) (mqNil))))) (maNil)))) (bName 6))
      (sSeq (sAsg (mIx (mLst (maV (mTup (maV (mP (mqC (.str "batch"))) (maV (mTup (maV (mTup (maV (mP (mqC (.str "a"))) (maV (mP (mqC (.int 1))) (maNil)))) (maNil))) (maNil)))) (maV (mTup (maV (mP (mqC (.str "members"))) (maV (mTup (maV (mP (mqC (.int 0))) (maNil))) (maNil)))) (maV (mP (mqC (.str "b"))) (maNil))))) (mCall m_law_take [] (maN 4 (maQ (mqCons (mqC (.int 3)) (mqNil)))))) (bName 7))
      (sSeq (sAsg (mCall m_law_take [] (maN 4 (maQ (mqCons (mqC (.int 5)) (mqNil))))) (bName 8))
      (sSeq (sAsg (mP (mqC .non)) (bName 9))
      (sSeq (sAsg (mTup (maV (mVar 2) (maV (mVar 3) (maNil)))) (bName 10))
      (sSeq (sIf (mtB (mOpQ dEq (mqVar 8) (mqC (.int 4)))) (sSeq (sAsg (mVar 1) (bName 9))
        (sAsg (mMeth 0 "fork" m_Acceptor_fork [] (mqVar 9) maNil) (bName 1))) (sPass))
      (sSeq (sIf (mtNot (mtV (mCall m_law_below [] (maN 6 (maN 2 (maNil)))))) (sSeq (sAsg (mVar 6) (bName 2))
        (sIf (mtB (mOpQ dLtT (mqVar 8) (mqC (.int 2)))) (sEx (mMeth 0 "promise" m_Acceptor_promise [] (mqVar 1) (maN 6 (maNil)))) (sSeq (sEx (mMeth 0 "accept" m_Acceptor_accept [] (mqVar 1) (maN 6 (maN 7 (maNil)))))
          (sAsg (mTup (maV (mVar 6) (maV (mVar 7) (maNil)))) (bName 3))))) (sPass))
      (sSeq (sIf (mtNot (mtV (mCall m_law_agrees [] (maN 1 (maN 2 (maN 3 (maNil))))))) (sRt (mP (mqC (.bl false)))) (sPass))
      (sIf (mtAnd (mtB (mOpQ dIsNot (mqVar 9) (mqC .non))) (mtNot (mtV (mCall m_law_agrees [] (maN 9 (maQ (mqCons (mqIx (mqVar 10) (mqC (.int 0))) (mqCons (mqIx (mqVar 10) (mqC (.int 1))) (mqNil))))))))) (sRt (mP (mqC (.bl false)))) (sPass)))))))))))
theorem shp (b0 b1 : Int) (x : PyData) (h : x.canLay0 = true ∧ x.depth ≤ 30) : SeqAt.shaped (.tuple [.tuple [.int b0, .int b1], x]) = true := by
  apply sh_tup
  intro d m
  simp at m
  rcases m with rfl | rfl
  · simp [PyData.canLay0, PyData.canLayAll0, PyData.depth, PyData.depthAll]
  · exact ⟨h.1, by omega⟩
theorem entry (b0 b1 j : Int) (h0 : 0 ≤ j) (h1 : j < 3) : ∃ e, atI [D.tup [.str "batch", .tup [.tup [.str "a", .int 1]]], .tup [.str "members", .tup [.int 0]], .str "b"] j = some e ∧ e.pure = true ∧ Good (.tup [.tup [.int b0, .int b1], e]) := by
  have h : j = 0 ∨ j = 1 ∨ j = 2 := by omega
  rcases h with rfl | rfl | rfl
  · exact ⟨_, rfl, by simp, by simp, _, rfl, shp _ _ _ (by simp [PyData.canLay0, PyData.canLayAll0, PyData.depth, PyData.depthAll] <;> decide +kernel), by simp⟩
  · exact ⟨_, rfl, by simp, by simp, _, rfl, shp _ _ _ (by simp [PyData.canLay0, PyData.canLayAll0, PyData.depth, PyData.depthAll] <;> decide +kernel), by simp⟩
  · exact ⟨_, rfl, by simp, by simp, _, rfl, shp _ _ _ (by simp [PyData.canLay0, PyData.canLayAll0, PyData.depth, PyData.depthAll] <;> decide +kernel), by simp⟩
theorem first (b0 b1 j : Int) (h0 : 0 ≤ j) (h1 : j < 3) : ∃ e, atI [D.non, .tup [.tup [.int b0, .int b1], .tup [.str "batch", .tup [.tup [.str "x"]]]], .tup [.tup [.int 1, .int 0], .int 7]] j = some e ∧ e.pure = true ∧ Good e := by
  have h : j = 0 ∨ j = 1 ∨ j = 2 := by omega
  rcases h with rfl | rfl | rfl
  · exact ⟨_, rfl, by simp, by simp, _, rfl, by simp, by simp⟩
  · exact ⟨_, rfl, by simp, by simp, _, rfl, shp _ _ _ (by simp [PyData.canLay0, PyData.canLayAll0, PyData.depth, PyData.depthAll] <;> decide +kernel), by simp⟩
  · exact ⟨_, rfl, by simp, by simp, _, rfl, shp _ _ _ (by simp [PyData.canLay0, PyData.canLayAll0, PyData.depth, PyData.depthAll] <;> decide +kernel), by simp⟩
def Inv31 (ns : List Int) (m : Mem) : Prop := ∃ n p0 p1 a box k b e kd lf kn hs, m = ⟨[.lst false (ns.map .int), .loc n, .tup [.int p0, .int p1], a, box, k, b, e, kd, lf, kn], hs⟩ ∧ hs[n]? = some (acc p0 p1 a) ∧ Good a
theorem step31 (ns : List Int) (k : Nat) (m : Mem) (hm : Inv31 ns m) : ∃ m1 m2, bName 5 (.int (0 + (k : Int))) m = .ok m1 ∧ body31 m1 = .ok (.nx, m2) ∧ Inv31 ns m2 := by
  obtain ⟨n, p0, p1, a, box, k0, b, e, kd, lf, kn, hs, rfl, ha, ga⟩ := hm
  obtain ⟨hn, ha'⟩ := at_of ha
  have hp := ga.1
  obtain ⟨r, er⟩ := row_eq false ns (1 + (k : Int)) (by omega) hs
  have hw : ∀ j : Int, j < 18446744073709551616 → wide j = true := fun j h => wide_lt h
  have t4 := fun n => take_eq n 4 (by omega) (hw _ (by omega)) hs
  have t7 := fun n => take_eq n 7 (by omega) (hw _ (by omega)) hs
  have t3 := fun n => take_eq n 3 (by omega) (hw _ (by omega)) hs
  have t5 := fun n => take_eq n 5 (by omega) (hw _ (by omega)) hs
  have a0 : ∀ x y : D, atI [x, y] 0 = some x := fun _ _ => rfl
  have a1 : ∀ x y : D, atI [x, y] 1 = some y := fun _ _ => rfl
  generalize hb0 : (if 0 < p0 + r % 4 - 1 then p0 + r % 4 - 1 else 0) = b0
  generalize hb1 : r / 4 % 7 = b1
  simp at hb0
  obtain ⟨en, ee, pe, ge⟩ := entry b0 b1 (r / 4 / 7 % 3) (by omega) (by omega)
  have bl := fun hs => below_eq b0 b1 p0 p1 hs
  by_cases k4 : r / 4 / 7 / 3 % 5 = 4
  · have fk := fork_eq n p0 p1 a hp hs ha
    have l1 : (hs ++ [acc p0 p1 a])[n]? = some (acc p0 p1 a) := by rw [List.getElem?_append_left hn]; exact ha
    have l2 : (hs ++ [acc p0 p1 a])[hs.length]? = some (acc p0 p1 a) := by simp
    by_cases lt : lt2 b0 b1 p0 p1 = true
    · have g1 := agrees_eq hs.length p0 p1 a ga _ l2
      have g2 := agrees_eq n p0 p1 a ga _ l1
      simp [acc] at fk g1 g2
      refine ⟨_, ⟨[.lst false (ns.map .int), .loc hs.length, .tup [.int p0, .int p1], a, .lst true [.int (r / 4 / 7 / 3 / 5)], .int k, .tup [.int b0, .int b1], en, .int 4, .loc n, .tup [.tup [.int p0, .int p1], a]], hs ++ [acc p0 p1 a]⟩, rfl, by simp [body31, er, t4, t7, t3, t5, a0, a1, hb0, hb1, ee, pe, isOf, ha', hn, hp, acc, lookF, callTail, k4, fk, bl, lt, g1, g2], _, _, _, _, _, _, _, _, _, _, _, _, rfl, l2, ga⟩
    · have l3 : ((hs ++ [acc p0 p1 a]).set hs.length (acc b0 b1 (.tup [.tup [.int b0, .int b1], en])))[hs.length]? = some (acc b0 b1 (.tup [.tup [.int b0, .int b1], en])) := by simp
      have l4 : ((hs ++ [acc p0 p1 a]).set hs.length (acc b0 b1 (.tup [.tup [.int b0, .int b1], en])))[n]? = some (acc p0 p1 a) := by
        rw [List.getElem?_set_ne (by omega)]; exact l1
      have lt := Bool.eq_false_iff.mpr lt
      have ac := accept_eq hs.length p0 p1 b0 b1 a en pe _ l2
      have g1 := agrees_eq hs.length b0 b1 _ ge _ l3
      have g2 := agrees_eq n p0 p1 a ga _ l4
      simp [acc] at fk ac g1 g2
      refine ⟨_, ⟨[.lst false (ns.map .int), .loc hs.length, .tup [.int b0, .int b1], .tup [.tup [.int b0, .int b1], en], .lst true [.int (r / 4 / 7 / 3 / 5)], .int k, .tup [.int b0, .int b1], en, .int 4, .loc n, .tup [.tup [.int p0, .int p1], a]], (hs ++ [acc p0 p1 a]).set hs.length (acc b0 b1 (.tup [.tup [.int b0, .int b1], en]))⟩, rfl, by simp [body31, er, t4, t7, t3, t5, a0, a1, hb0, hb1, ee, pe, isOf, ha', hn, hp, acc, lookF, callTail, k4, fk, bl, lt, ac, g1, g2], _, _, _, _, _, _, _, _, _, _, _, _, rfl, l3, ge⟩
  · by_cases lt : lt2 b0 b1 p0 p1 = true
    · have g1 := agrees_eq n p0 p1 a ga _ ha
      refine ⟨_, ⟨[.lst false (ns.map .int), .loc n, .tup [.int p0, .int p1], a, .lst true [.int (r / 4 / 7 / 3 / 5)], .int k, .tup [.int b0, .int b1], en, .int (r / 4 / 7 / 3 % 5), .non, .tup [.tup [.int p0, .int p1], a]], hs⟩, rfl, by simp [body31, er, t4, t7, t3, t5, a0, a1, hb0, hb1, ee, pe, isOf, ha', hn, hp, acc, lookF, callTail, k4, bl, lt, g1], _, _, _, _, _, _, _, _, _, _, _, _, rfl, ha, ga⟩
    · have lt := Bool.eq_false_iff.mpr lt
      by_cases k2 : r / 4 / 7 / 3 % 5 < 2
      · have l3 : (hs.set n (acc b0 b1 a))[n]? = some (acc b0 b1 a) := by simp [hn]
        have pr := promise_eq n p0 p1 b0 b1 a _ ha
        have g1 := agrees_eq n b0 b1 a ga _ l3
        simp [acc] at pr g1
        refine ⟨_, ⟨[.lst false (ns.map .int), .loc n, .tup [.int b0, .int b1], a, .lst true [.int (r / 4 / 7 / 3 / 5)], .int k, .tup [.int b0, .int b1], en, .int (r / 4 / 7 / 3 % 5), .non, .tup [.tup [.int p0, .int p1], a]], hs.set n (acc b0 b1 a)⟩, rfl, by simp [body31, er, t4, t7, t3, t5, a0, a1, hb0, hb1, ee, pe, isOf, ha', hn, hp, acc, lookF, callTail, k4, k2, bl, lt, pr, g1], _, _, _, _, _, _, _, _, _, _, _, _, rfl, l3, ga⟩
      · have l3 : (hs.set n (acc b0 b1 (.tup [.tup [.int b0, .int b1], en])))[n]? = some (acc b0 b1 (.tup [.tup [.int b0, .int b1], en])) := by simp [hn]
        have ac := accept_eq n p0 p1 b0 b1 a en pe _ ha
        have g1 := agrees_eq n b0 b1 _ ge _ l3
        simp [acc] at ac g1
        refine ⟨_, ⟨[.lst false (ns.map .int), .loc n, .tup [.int b0, .int b1], .tup [.tup [.int b0, .int b1], en], .lst true [.int (r / 4 / 7 / 3 / 5)], .int k, .tup [.int b0, .int b1], en, .int (r / 4 / 7 / 3 % 5), .non, .tup [.tup [.int p0, .int p1], a]], hs.set n (acc b0 b1 (.tup [.tup [.int b0, .int b1], en]))⟩, rfl, by simp [body31, er, t4, t7, t3, t5, a0, a1, hb0, hb1, ee, pe, isOf, ha', hn, hp, acc, lookF, callTail, k4, k2, bl, lt, ac, g1], _, _, _, _, _, _, _, _, _, _, _, _, rfl, l3, ge⟩
theorem law_true (ns : List Int) (hl : ns.length ≤ 63) : ∃ ds hs, m_law [.lst false (ns.map .int)] [] = .ok (.bl true, ds, hs) := by
  have hw : ∀ j : Int, j < 18446744073709551616 → wide j = true := fun j h => wide_lt h
  have gn : Good .non := ⟨rfl, _, rfl, by simp, by simp⟩
  have i0 := init_eq 0 0 .non rfl []
  have h0 : ([acc 0 0 .non])[0]? = some (acc 0 0 .non) := rfl
  have g0 := agrees_eq 0 0 0 .non gn [acc 0 0 .non] h0
  obtain ⟨r, er⟩ := row_eq false ns 0 (by omega) [acc 0 0 .non]
  have t2 := fun n => take_eq n 2 (by omega) (hw _ (by omega)) [acc 0 0 .non]
  have t7 := fun n => take_eq n 7 (by omega) (hw _ (by omega)) [acc 0 0 .non]
  have t3 := fun n => take_eq n 3 (by omega) (hw _ (by omega)) [acc 0 0 .non]
  have t9 := fun n => take_eq n 9000 (by omega) (hw _ (by omega)) [acc 0 0 .non]
  have loop : ∀ m, Inv31 ns m → ∃ m', E.forM (fun _ => True) (bName 5) body31 ((List.range 30).map fun (k : Nat) => D.int (0 + (k : Int))) m = .ok (.nx, m') ∧ Inv31 ns m' := fun m hm =>
    forM_inv (α := Nat) (fun k => .int (0 + (k : Int))) (fun _ m => Inv31 ns m) (List.range 30) m hm (fun _ _ _ => trivial) (fun p k q m _ hm => step31 ns k m hm)
  simp only [body31] at loop
  by_cases k2 : r % 2 = 0
  · obtain ⟨e, ee, pe, ge⟩ := first (1 + r / 2 % 9000) (r / 2 / 9000 % 7) (r / 2 / 9000 / 7 % 3) (by omega) (by omega)
    have i1 := init_eq (1 + r / 2 % 9000) (r / 2 / 9000 % 7) e pe [acc 0 0 .non]
    obtain ⟨m', el, n, p0, p1, a, box, k, b, e', kd, lf, kn, hs, rfl, _, _⟩ := loop ⟨[.lst false (ns.map .int), .loc 1, .tup [.int (1 + r / 2 % 9000), .int (r / 2 / 9000 % 7)], e, .lst true [.int (r / 2 / 9000 / 7 / 3)], .und, .und, .und, .und, .und, .und], [acc 0 0 .non, acc (1 + r / 2 % 9000) (r / 2 / 9000 % 7) e]⟩ ⟨_, _, _, _, _, _, _, _, _, _, _, _, rfl, rfl, ge⟩
    simp at el i0 i1
    refine ⟨[.lst false (ns.map .int)], hs, ?_⟩
    simp [m_law, callTail, i0, g0, er, t2, t9, t7, t3, k2, ee, pe, i1, rangeD_eq, el]
  · obtain ⟨m', el, n, p0, p1, a, box, k, b, e', kd, lf, kn, hs, rfl, _, _⟩ := loop ⟨[.lst false (ns.map .int), .loc 0, .tup [.int 0, .int 0], .non, .lst true [.int (r / 2)], .und, .und, .und, .und, .und, .und], [acc 0 0 .non]⟩ ⟨_, _, _, _, _, _, _, _, _, _, _, _, rfl, rfl, gn⟩
    simp at el i0
    refine ⟨[.lst false (ns.map .int)], hs, ?_⟩
    simp [m_law, callTail, i0, g0, er, t2, k2, rangeD_eq, el]
end Gen
namespace Gen
open PySem L2 E PySem.Spec PyProof.Rows
/-! ### the top -/
theorem all_mk {l : PySem.W.OpenLaw} {w : World} {K : PySem.W.Frag} {h : Heap} {mg : Str → Option Value} {fa : Addr} (X : K.In h) (G : h.Ns mainGlobals mg) (hfa : mg "law" = some (.ref fa))
    {C_Acceptor : Addr} (a_Acceptor : PySem.W.nsIn K mainGlobals "Acceptor" = some (some (.ref C_Acceptor))) (pg_Acceptor : PySem.W.plainGet K C_Acceptor Str.empty = true) (hd_Acceptor : PySem.W.hasDictIn K C_Acceptor = true) (po_Acceptor : PySem.W.plainOver K C_Acceptor = true) (sa_Acceptor : PySem.W.findIn K (.ref C_Acceptor) "__setattr__" = some (some (.builtin "object.__setattr__"))) (ma_Acceptor : PySem.W.makesIn K C_Acceptor = true) (kc_Acceptor : PySem.W.keepIn K (.ref C_Acceptor) = true)
    (na_Acceptor_accepted : PySem.W.findIn K (.ref C_Acceptor) (Str.ofString "accepted") = some none)
    (na_Acceptor_promised : PySem.W.findIn K (.ref C_Acceptor) (Str.ofString "promised") = some none)
    {f_Acceptor_init : Addr} {od_Acceptor_init an_Acceptor_init : Option Addr} {sl_Acceptor_init : Array (Option Value)} {oc_Acceptor_init kV_Acceptor_init dc_Acceptor_init pm_Acceptor_init cd_Acceptor_init ct_Acceptor_init : Value}
    (a_Acceptor_init : PySem.W.findIn K (.ref C_Acceptor) (Str.ofString "__init__") = some (some (.ref f_Acceptor_init))) (i_Acceptor_init : PySem.W.isFn K (.ref f_Acceptor_init) = true)
    {T_Acceptor_init : Addr}
    (l_Acceptor_init : K.lookup f_Acceptor_init = some ⟨oc_Acceptor_init, od_Acceptor_init, .func (PySem.W.fnOf "__init__" "Acceptor.__init__" (defArgs s_Acceptor_init) (defBody s_Acceptor_init) (defScope s_Acceptor_init) (.ref T_Acceptor_init) kV_Acceptor_init dc_Acceptor_init pm_Acceptor_init an_Acceptor_init cd_Acceptor_init ct_Acceptor_init), sl_Acceptor_init⟩) (c_Acceptor_init : PySem.W.codeIn K cd_Acceptor_init "Acceptor.__init__" = true) (kp_Acceptor_init : PySem.W.keepIn K (.ref f_Acceptor_init) = true)
    {f_Acceptor_hears : Addr} {od_Acceptor_hears an_Acceptor_hears : Option Addr} {sl_Acceptor_hears : Array (Option Value)} {oc_Acceptor_hears kV_Acceptor_hears dc_Acceptor_hears pm_Acceptor_hears cd_Acceptor_hears ct_Acceptor_hears : Value}
    (a_Acceptor_hears : PySem.W.findIn K (.ref C_Acceptor) (Str.ofString "hears") = some (some (.ref f_Acceptor_hears))) (i_Acceptor_hears : PySem.W.isFn K (.ref f_Acceptor_hears) = true)
    (l_Acceptor_hears : K.lookup f_Acceptor_hears = some ⟨oc_Acceptor_hears, od_Acceptor_hears, .func (PySem.W.fnOf "hears" "Acceptor.hears" (defArgs s_Acceptor_hears) (defBody s_Acceptor_hears) (defScope s_Acceptor_hears) .none kV_Acceptor_hears dc_Acceptor_hears pm_Acceptor_hears an_Acceptor_hears cd_Acceptor_hears ct_Acceptor_hears), sl_Acceptor_hears⟩) (c_Acceptor_hears : PySem.W.codeIn K cd_Acceptor_hears "Acceptor.hears" = true) (kp_Acceptor_hears : PySem.W.keepIn K (.ref f_Acceptor_hears) = true)
    {f_Acceptor_promise : Addr} {od_Acceptor_promise an_Acceptor_promise : Option Addr} {sl_Acceptor_promise : Array (Option Value)} {oc_Acceptor_promise kV_Acceptor_promise dc_Acceptor_promise pm_Acceptor_promise cd_Acceptor_promise ct_Acceptor_promise : Value}
    (a_Acceptor_promise : PySem.W.findIn K (.ref C_Acceptor) (Str.ofString "promise") = some (some (.ref f_Acceptor_promise))) (i_Acceptor_promise : PySem.W.isFn K (.ref f_Acceptor_promise) = true)
    (l_Acceptor_promise : K.lookup f_Acceptor_promise = some ⟨oc_Acceptor_promise, od_Acceptor_promise, .func (PySem.W.fnOf "promise" "Acceptor.promise" (defArgs s_Acceptor_promise) (defBody s_Acceptor_promise) (defScope s_Acceptor_promise) .none kV_Acceptor_promise dc_Acceptor_promise pm_Acceptor_promise an_Acceptor_promise cd_Acceptor_promise ct_Acceptor_promise), sl_Acceptor_promise⟩) (c_Acceptor_promise : PySem.W.codeIn K cd_Acceptor_promise "Acceptor.promise" = true) (kp_Acceptor_promise : PySem.W.keepIn K (.ref f_Acceptor_promise) = true)
    {f_Acceptor_accept : Addr} {od_Acceptor_accept an_Acceptor_accept : Option Addr} {sl_Acceptor_accept : Array (Option Value)} {oc_Acceptor_accept kV_Acceptor_accept dc_Acceptor_accept pm_Acceptor_accept cd_Acceptor_accept ct_Acceptor_accept : Value}
    (a_Acceptor_accept : PySem.W.findIn K (.ref C_Acceptor) (Str.ofString "accept") = some (some (.ref f_Acceptor_accept))) (i_Acceptor_accept : PySem.W.isFn K (.ref f_Acceptor_accept) = true)
    (l_Acceptor_accept : K.lookup f_Acceptor_accept = some ⟨oc_Acceptor_accept, od_Acceptor_accept, .func (PySem.W.fnOf "accept" "Acceptor.accept" (defArgs s_Acceptor_accept) (defBody s_Acceptor_accept) (defScope s_Acceptor_accept) .none kV_Acceptor_accept dc_Acceptor_accept pm_Acceptor_accept an_Acceptor_accept cd_Acceptor_accept ct_Acceptor_accept), sl_Acceptor_accept⟩) (c_Acceptor_accept : PySem.W.codeIn K cd_Acceptor_accept "Acceptor.accept" = true) (kp_Acceptor_accept : PySem.W.keepIn K (.ref f_Acceptor_accept) = true)
    {f_law_row : Addr} {od_law_row an_law_row : Option Addr} {sl_law_row : Array (Option Value)} {oc_law_row kV_law_row dc_law_row pm_law_row cd_law_row ct_law_row : Value}
    (a_law_row : PySem.W.nsIn K mainGlobals "_law_row" = some (some (.ref f_law_row)))
    (l_law_row : K.lookup f_law_row = some ⟨oc_law_row, od_law_row, .func (PySem.W.fnOf "_law_row" "_law_row" (defArgs s_law_row) (defBody s_law_row) (defScope s_law_row) .none kV_law_row dc_law_row pm_law_row an_law_row cd_law_row ct_law_row), sl_law_row⟩) (c_law_row : PySem.W.codeIn K cd_law_row "_law_row" = true) (kp_law_row : PySem.W.keepIn K (.ref f_law_row) = true)
    {f_law_take : Addr} {od_law_take an_law_take : Option Addr} {sl_law_take : Array (Option Value)} {oc_law_take kV_law_take dc_law_take pm_law_take cd_law_take ct_law_take : Value}
    (a_law_take : PySem.W.nsIn K mainGlobals "_law_take" = some (some (.ref f_law_take)))
    (l_law_take : K.lookup f_law_take = some ⟨oc_law_take, od_law_take, .func (PySem.W.fnOf "_law_take" "_law_take" (defArgs s_law_take) (defBody s_law_take) (defScope s_law_take) .none kV_law_take dc_law_take pm_law_take an_law_take cd_law_take ct_law_take), sl_law_take⟩) (c_law_take : PySem.W.codeIn K cd_law_take "_law_take" = true) (kp_law_take : PySem.W.keepIn K (.ref f_law_take) = true)
    {f_law_below : Addr} {od_law_below an_law_below : Option Addr} {sl_law_below : Array (Option Value)} {oc_law_below kV_law_below dc_law_below pm_law_below cd_law_below ct_law_below : Value}
    (a_law_below : PySem.W.nsIn K mainGlobals "_law_below" = some (some (.ref f_law_below)))
    (l_law_below : K.lookup f_law_below = some ⟨oc_law_below, od_law_below, .func (PySem.W.fnOf "_law_below" "_law_below" (defArgs s_law_below) (defBody s_law_below) (defScope s_law_below) .none kV_law_below dc_law_below pm_law_below an_law_below cd_law_below ct_law_below), sl_law_below⟩) (c_law_below : PySem.W.codeIn K cd_law_below "_law_below" = true) (kp_law_below : PySem.W.keepIn K (.ref f_law_below) = true)
    {f_law_agrees : Addr} {od_law_agrees an_law_agrees : Option Addr} {sl_law_agrees : Array (Option Value)} {oc_law_agrees kV_law_agrees dc_law_agrees pm_law_agrees cd_law_agrees ct_law_agrees : Value}
    (a_law_agrees : PySem.W.nsIn K mainGlobals "_law_agrees" = some (some (.ref f_law_agrees)))
    (l_law_agrees : K.lookup f_law_agrees = some ⟨oc_law_agrees, od_law_agrees, .func (PySem.W.fnOf "_law_agrees" "_law_agrees" (defArgs s_law_agrees) (defBody s_law_agrees) (defScope s_law_agrees) .none kV_law_agrees dc_law_agrees pm_law_agrees an_law_agrees cd_law_agrees ct_law_agrees), sl_law_agrees⟩) (c_law_agrees : PySem.W.codeIn K cd_law_agrees "_law_agrees" = true) (kp_law_agrees : PySem.W.keepIn K (.ref f_law_agrees) = true)
    {f_Acceptor_fork : Addr} {od_Acceptor_fork an_Acceptor_fork : Option Addr} {sl_Acceptor_fork : Array (Option Value)} {oc_Acceptor_fork kV_Acceptor_fork dc_Acceptor_fork pm_Acceptor_fork cd_Acceptor_fork ct_Acceptor_fork : Value}
    (a_Acceptor_fork : PySem.W.findIn K (.ref C_Acceptor) (Str.ofString "fork") = some (some (.ref f_Acceptor_fork))) (i_Acceptor_fork : PySem.W.isFn K (.ref f_Acceptor_fork) = true)
    (l_Acceptor_fork : K.lookup f_Acceptor_fork = some ⟨oc_Acceptor_fork, od_Acceptor_fork, .func (PySem.W.fnOf "fork" "Acceptor.fork" (defArgs s_Acceptor_fork) (defBody s_Acceptor_fork) (defScope s_Acceptor_fork) .none kV_Acceptor_fork dc_Acceptor_fork pm_Acceptor_fork an_Acceptor_fork cd_Acceptor_fork ct_Acceptor_fork), sl_Acceptor_fork⟩) (c_Acceptor_fork : PySem.W.codeIn K cd_Acceptor_fork "Acceptor.fork" = true) (kp_Acceptor_fork : PySem.W.keepIn K (.ref f_Acceptor_fork) = true)
    {f_law : Addr} {od_law an_law : Option Addr} {sl_law : Array (Option Value)} {oc_law kV_law dc_law pm_law cd_law ct_law : Value}
    (a_law : PySem.W.nsIn K mainGlobals "law" = some (some (.ref f_law)))
    (l_law : K.lookup f_law = some ⟨oc_law, od_law, .func (PySem.W.fnOf "law" "law" (defArgs s_law) (defBody s_law) (defScope s_law) .none kV_law dc_law pm_law an_law cd_law ct_law), sl_law⟩) (c_law : PySem.W.codeIn K cd_law "law" = true) (kp_law : PySem.W.keepIn K (.ref f_law) = true)
    {A_NO_BALLOT : Addr} {t0_NO_BALLOT t1_NO_BALLOT : Tok} {od_NO_BALLOT : Option Addr} {n_NO_BALLOT : Nat} {sl_NO_BALLOT : Array (Option Value)} (e_NO_BALLOT : PySem.W.nsIn K mainGlobals "NO_BALLOT" = some (some (.ref A_NO_BALLOT))) (l_NO_BALLOT : K.lookup A_NO_BALLOT = some ⟨.type "tuple", od_NO_BALLOT, .seq #[.int 0 t0_NO_BALLOT, .int 0 t1_NO_BALLOT] n_NO_BALLOT, sl_NO_BALLOT⟩)
    {oT_Acceptor_init : Value} {dT_Acceptor_init : Option Addr} {nT_Acceptor_init : Nat} {sT_Acceptor_init : Array (Option Value)}  (lT_Acceptor_init : K.lookup T_Acceptor_init = some ⟨oT_Acceptor_init, dT_Acceptor_init, .seq #[.ref A_NO_BALLOT, .none] nT_Acceptor_init, sT_Acceptor_init⟩)
    (z_bool : PySem.W.nsIn K mainGlobals "bool" = some none)
    (z_int : PySem.W.nsIn K mainGlobals "int" = some none)
    (z_isinstance : PySem.W.nsIn K mainGlobals "isinstance" = some none)
    (z_len : PySem.W.nsIn K mainGlobals "len" = some none)
    (z_max : PySem.W.nsIn K mainGlobals "max" = some none)
    (z_range : PySem.W.nsIn K mainGlobals "range" = some none) :
    ∃ fd : FuncData, (∀ (s : Shared) (v : Value), BindsTo s fd ⟨[v], []⟩ [("_law_script", v)]) ∧ ∀ base : Heap, K.In base → base.Ns mainGlobals mg → FnOk l.prog w K mg base CX0 4 fa fd ["_law_script"] (spLaw K) := by
  have e := hfa.symm.trans (PySem.W.mg_of X G a_law)
  cases e
  let CT : Nat → Addr := fun n => ([C_Acceptor] : List Addr).getD n 0
  refine law_end (CT := CT) law_true ?_
  have cl_Acceptor : Cls K (CT 0) := ⟨pg_Acceptor, hd_Acceptor, po_Acceptor, sa_Acceptor⟩
  have at_accepted : Attr K CT [0] "accepted" := fun c hc => by
    simp only [List.mem_cons, List.mem_nil_iff, or_false, List.not_mem_nil] at hc
    subst hc; exact ⟨cl_Acceptor, na_Acceptor_accepted⟩
  have at_promised : Attr K CT [0] "promised" := fun c hc => by
    simp only [List.mem_cons, List.mem_nil_iff, or_false, List.not_mem_nil] at hc
    subst hc; exact ⟨cl_Acceptor, na_Acceptor_promised⟩
  have KT_NO_BALLOT : KT K A_NO_BALLOT [.int 0, .int 0] := ⟨_, _, _, l_NO_BALLOT, rfl, rfl, by show 2 ≤ sizeLine; rw [sizeLine_eq]; omega, (.cons ⟨_, rfl⟩ (.cons ⟨_, rfl⟩ .nil))⟩
  have KR_NO_BALLOT : ∀ W H, RepL K W H [.int 0, .int 0] [.int 0, .int 0] [] := fun _ _ => (RepL.cons (f := []) (g := []) .int (RepL.cons (f := []) (g := []) .int .nil))
  have K_NO_BALLOT : ∃ v, RelV v (.ref A_NO_BALLOT) ∧ ∀ W H, RepD K W H v c_NO_BALLOT [] := KD.tupI KT_NO_BALLOT KR_NO_BALLOT
  have F_Acceptor_init : FunD K "__init__" "Acceptor.__init__" (defArgs s_Acceptor_init) (defBody s_Acceptor_init) (defScope s_Acceptor_init) [.ref A_NO_BALLOT, .non] [] f_Acceptor_init _ := ⟨⟨_, _, _, _, _, _, _, _, _, _, rfl, l_Acceptor_init, c_Acceptor_init, .inr ⟨by simp, T_Acceptor_init, _, [.ref A_NO_BALLOT, .none], _, rfl, lT_Acceptor_init, rfl, (.cons rfl (.cons rfl .nil))⟩, .inl rfl⟩, kp_Acceptor_init⟩
  have B_Acceptor_init_0 := F_Acceptor_init.binds1 (ps := ["self", "promised", "accepted"]) 3 2 (by simp) (by rfl) (fun T kV doc pm an cdv ct us its h1 h2 => match us, its, h1, h2 with | [_, _, _], [_, _], _, _ => ⟨_, rfl, rfl⟩)
  have k_Acceptor_init_0 : Consts K ([.ref A_NO_BALLOT, .non].drop 2) [] := fun _ _ => .nil
  have B_Acceptor_init_2 := F_Acceptor_init.binds1 (ps := ["self", "promised", "accepted"]) 1 0 (by simp) (by rfl) (fun T kV doc pm an cdv ct us its h1 h2 => match us, its, h1, h2 with | [_], [_, _], _, _ => ⟨_, rfl, rfl⟩)
  have k_Acceptor_init_2 : Consts K ([.ref A_NO_BALLOT, .non].drop 0) [.tup [.int 0, .int 0], .non] := fun _ _ => (RepL.cons (f := []) (g := []) (.tup (.inr KT_NO_BALLOT) (KR_NO_BALLOT _ _)) (RepL.cons (f := []) (g := []) .non .nil))
  have mk_Acceptor : Mk K (CT 0) f_Acceptor_init := ⟨ma_Acceptor, a_Acceptor_init, i_Acceptor_init, kc_Acceptor⟩
  have F_Acceptor_hears := fun_mk (st := s_Acceptor_hears) l_Acceptor_hears c_Acceptor_hears kp_Acceptor_hears
  have b_Acceptor_hears := F_Acceptor_hears.binds (ps := ["self", "ballot"]) fun _ _ _ _ _ _ us hl => match us, hl with | [_, _], _ => rfl
  have mt_Acceptor_hears : Meth K (CT 0) (Str.ofString "hears") f_Acceptor_hears := ⟨a_Acceptor_hears, i_Acceptor_hears, kp_Acceptor_hears⟩
  have F_Acceptor_promise := fun_mk (st := s_Acceptor_promise) l_Acceptor_promise c_Acceptor_promise kp_Acceptor_promise
  have b_Acceptor_promise := F_Acceptor_promise.binds (ps := ["self", "ballot"]) fun _ _ _ _ _ _ us hl => match us, hl with | [_, _], _ => rfl
  have mt_Acceptor_promise : Meth K (CT 0) (Str.ofString "promise") f_Acceptor_promise := ⟨a_Acceptor_promise, i_Acceptor_promise, kp_Acceptor_promise⟩
  have F_Acceptor_accept := fun_mk (st := s_Acceptor_accept) l_Acceptor_accept c_Acceptor_accept kp_Acceptor_accept
  have b_Acceptor_accept := F_Acceptor_accept.binds (ps := ["self", "ballot", "entry"]) fun _ _ _ _ _ _ us hl => match us, hl with | [_, _, _], _ => rfl
  have mt_Acceptor_accept : Meth K (CT 0) (Str.ofString "accept") f_Acceptor_accept := ⟨a_Acceptor_accept, i_Acceptor_accept, kp_Acceptor_accept⟩
  have F_law_row := fun_mk (st := s_law_row) l_law_row c_law_row kp_law_row
  have b_law_row := F_law_row.binds (ps := ["_law_script", "_law_k"]) fun _ _ _ _ _ _ us hl => match us, hl with | [_, _], _ => rfl
  have F_law_take := fun_mk (st := s_law_take) l_law_take c_law_take kp_law_take
  have b_law_take := F_law_take.binds (ps := ["_law_box", "_law_size"]) fun _ _ _ _ _ _ us hl => match us, hl with | [_, _], _ => rfl
  have F_law_below := fun_mk (st := s_law_below) l_law_below c_law_below kp_law_below
  have b_law_below := F_law_below.binds (ps := ["_law_one", "_law_other"]) fun _ _ _ _ _ _ us hl => match us, hl with | [_, _], _ => rfl
  have F_law_agrees := fun_mk (st := s_law_agrees) l_law_agrees c_law_agrees kp_law_agrees
  have b_law_agrees := F_law_agrees.binds (ps := ["_law_acceptor", "_law_promised", "_law_accepted"]) fun _ _ _ _ _ _ us hl => match us, hl with | [_, _, _], _ => rfl
  have F_Acceptor_fork := fun_mk (st := s_Acceptor_fork) l_Acceptor_fork c_Acceptor_fork kp_Acceptor_fork
  have b_Acceptor_fork := F_Acceptor_fork.binds (ps := ["self"]) fun _ _ _ _ _ _ us hl => match us, hl with | [_], _ => rfl
  have mt_Acceptor_fork : Meth K (CT 0) (Str.ofString "fork") f_Acceptor_fork := ⟨a_Acceptor_fork, i_Acceptor_fork, kp_Acceptor_fork⟩
  have F_law := fun_mk (st := s_law) l_law c_law kp_law
  refine ⟨PySem.W.fnOf "law" "law" (defArgs s_law) (defBody s_law) (defScope s_law) .none kV_law dc_law pm_law an_law cd_law ct_law, fun s v => .of_eq rfl, fun base _ _ => ?_⟩
  have G_Acceptor_init : FnOk l.prog w K mg base CX0 1 f_Acceptor_init _ ["self", "promised", "accepted"] (spM K CT 3 m_Acceptor_init) := ok_Acceptor_init F_Acceptor_init at_accepted at_promised
  have G_Acceptor_hears : FnOk l.prog w K mg base CX0 1 f_Acceptor_hears _ ["self", "ballot"] (spM K CT 2 m_Acceptor_hears) := ok_Acceptor_hears F_Acceptor_hears at_promised
  have G_Acceptor_promise : FnOk l.prog w K mg base CX0 1 f_Acceptor_promise _ ["self", "ballot"] (spM K CT 2 m_Acceptor_promise) := ok_Acceptor_promise F_Acceptor_promise at_promised
  have G_Acceptor_accept : FnOk l.prog w K mg base CX0 1 f_Acceptor_accept _ ["self", "ballot", "entry"] (spM K CT 3 m_Acceptor_accept) := ok_Acceptor_accept F_Acceptor_accept at_accepted at_promised
  have G_law_row : FnOk l.prog w K mg base CX0 1 f_law_row _ ["_law_script", "_law_k"] (spM K CT 2 m_law_row) := ok_law_row F_law_row (PySem.W.mg_none_of X G z_int) (PySem.W.mg_none_of X G z_len)
  have G_law_take : FnOk l.prog w K mg base CX0 1 f_law_take _ ["_law_box", "_law_size"] (spM K CT 2 m_law_take) := ok_law_take F_law_take (PySem.W.mg_none_of X G z_int)
  have G_law_below : FnOk l.prog w K mg base CX0 1 f_law_below _ ["_law_one", "_law_other"] (spM K CT 2 m_law_below) := ok_law_below F_law_below 
  have G_law_agrees : FnOk l.prog w K mg base CX0 2 f_law_agrees _ ["_law_acceptor", "_law_promised", "_law_accepted"] (spM K CT 3 m_law_agrees) := ok_law_agrees F_law_agrees at_accepted at_promised G_Acceptor_hears b_Acceptor_hears G_law_below (PySem.W.mg_of X G a_law_below) kp_law_below b_law_below (PySem.W.mg_none_of X G z_bool) (PySem.W.mg_none_of X G z_isinstance) (PySem.W.mg_none_of X G z_max) (PySem.W.mg_none_of X G z_range) cl_Acceptor mt_Acceptor_hears
  have G_Acceptor_fork : FnOk l.prog w K mg base CX0 3 f_Acceptor_fork _ ["self"] (spM K CT 1 m_Acceptor_fork) := ok_Acceptor_fork F_Acceptor_fork at_accepted at_promised G_Acceptor_init B_Acceptor_init_0 k_Acceptor_init_0 mk_Acceptor (PySem.W.mg_of X G a_Acceptor)
  exact ok_law F_law G_Acceptor_init B_Acceptor_init_0 k_Acceptor_init_0 B_Acceptor_init_2 k_Acceptor_init_2 G_Acceptor_accept b_Acceptor_accept G_Acceptor_fork b_Acceptor_fork G_Acceptor_promise b_Acceptor_promise G_law_agrees (PySem.W.mg_of X G a_law_agrees) kp_law_agrees b_law_agrees G_law_below (PySem.W.mg_of X G a_law_below) kp_law_below b_law_below G_law_row (PySem.W.mg_of X G a_law_row) kp_law_row b_law_row G_law_take (PySem.W.mg_of X G a_law_take) kp_law_take b_law_take (PySem.W.mg_none_of X G z_max) (PySem.W.mg_none_of X G z_range) cl_Acceptor mk_Acceptor (PySem.W.mg_of X G a_Acceptor) mt_Acceptor_accept mt_Acceptor_fork mt_Acceptor_promise
end Gen
open PySem PySem.W PyProof.Rows
set_option maxRecDepth 100000 in
set_option maxHeartbeats 0 in
theorem PySem.Challenge.cw_crosskeep_k31_acceptors_holds : PySem.Challenge.rw_crosskeep_k31_acceptors.Holds := by
  w_on; o_law; k_head; (case hw => w_witness2)
  k_fill
  refine L2.walk_of (l := PySem.Challenge.rw_crosskeep_k31_acceptors) (n := 63) (k := 4) (x := "_law_script") (CX := fun _ => L2.CX0) (sp := fun w => E.spLaw _) rfl (by decide) rfl ⟨rfl, by decide, by decide⟩ (fun w h Y => PySem.W.kIn_of Y) ?F (fun _ _ a ns hl _ hS => ⟨a, ns, rfl, hS, hl, fun _ => rfl⟩) (fun _ _ _ _ _ h => h)
  case F =>
    intro w mg fa h KX G hmg
    refine' Gen.all_mk KX G hmg ?a_Acceptor ?pg_Acceptor ?hd_Acceptor ?po_Acceptor ?sa_Acceptor ?ma_Acceptor ?kc_Acceptor ?na_Acceptor_accepted ?na_Acceptor_promised ?a_Acceptor_init ?i_Acceptor_init ?l_Acceptor_init ?c_Acceptor_init ?kp_Acceptor_init ?a_Acceptor_hears ?i_Acceptor_hears ?l_Acceptor_hears ?c_Acceptor_hears ?kp_Acceptor_hears ?a_Acceptor_promise ?i_Acceptor_promise ?l_Acceptor_promise ?c_Acceptor_promise ?kp_Acceptor_promise ?a_Acceptor_accept ?i_Acceptor_accept ?l_Acceptor_accept ?c_Acceptor_accept ?kp_Acceptor_accept ?a_law_row ?l_law_row ?c_law_row ?kp_law_row ?a_law_take ?l_law_take ?c_law_take ?kp_law_take ?a_law_below ?l_law_below ?c_law_below ?kp_law_below ?a_law_agrees ?l_law_agrees ?c_law_agrees ?kp_law_agrees ?a_Acceptor_fork ?i_Acceptor_fork ?l_Acceptor_fork ?c_Acceptor_fork ?kp_Acceptor_fork ?a_law ?l_law ?c_law ?kp_law ?e_NO_BALLOT ?l_NO_BALLOT ?lT_Acceptor_init ?z_bool ?z_int ?z_isinstance ?z_len ?z_max ?z_range
    (case a_Acceptor => k_is); (case pg_Acceptor => k_is); (case hd_Acceptor => k_is); (case po_Acceptor => k_is); (case sa_Acceptor => k_is); (case ma_Acceptor => k_is); (case kc_Acceptor => k_is); (case na_Acceptor_accepted => k_is); (case na_Acceptor_promised => k_is); (case a_Acceptor_init => k_is); (case i_Acceptor_init => k_is); (case l_Acceptor_init => k_is); (case c_Acceptor_init => k_is); (case kp_Acceptor_init => k_is); (case a_Acceptor_hears => k_is); (case i_Acceptor_hears => k_is); (case l_Acceptor_hears => k_is); (case c_Acceptor_hears => k_is); (case kp_Acceptor_hears => k_is); (case a_Acceptor_promise => k_is); (case i_Acceptor_promise => k_is); (case l_Acceptor_promise => k_is); (case c_Acceptor_promise => k_is); (case kp_Acceptor_promise => k_is); (case a_Acceptor_accept => k_is); (case i_Acceptor_accept => k_is); (case l_Acceptor_accept => k_is); (case c_Acceptor_accept => k_is); (case kp_Acceptor_accept => k_is); (case a_law_row => k_is); (case l_law_row => k_is); (case c_law_row => k_is); (case kp_law_row => k_is); (case a_law_take => k_is); (case l_law_take => k_is); (case c_law_take => k_is); (case kp_law_take => k_is); (case a_law_below => k_is); (case l_law_below => k_is); (case c_law_below => k_is); (case kp_law_below => k_is); (case a_law_agrees => k_is); (case l_law_agrees => k_is); (case c_law_agrees => k_is); (case kp_law_agrees => k_is); (case a_Acceptor_fork => k_is); (case i_Acceptor_fork => k_is); (case l_Acceptor_fork => k_is); (case c_Acceptor_fork => k_is); (case kp_Acceptor_fork => k_is); (case a_law => k_is); (case l_law => k_is); (case c_law => k_is); (case kp_law => k_is); (case e_NO_BALLOT => k_is); (case l_NO_BALLOT => k_is); (case lT_Acceptor_init => k_is); (case z_bool => k_is); (case z_int => k_is); (case z_isinstance => k_is); (case z_len => k_is); (case z_max => k_is); (case z_range => k_is)
