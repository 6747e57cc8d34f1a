import PyProof.Rows.All
import Wide.All
import OpenK.AllK
import Wide.FinOn
import HandS.ForMost
import HandS.Deep
import HandS.TupAny
import HandS.Wide
import KE.DataEq
import HandS.Text
import HandS.Dict
import HandS.NoneIn
import HandS.IsInst
import HandS.SortInts
import HandS.Conv
import HandS.TupLe
import HandS.Defaults
import HandS.Rev
import HandS.Iter
import HandS.SetBool
import HandS.TupSets
import HandS.SetKeys
import HandS.SetFor
import HandS.Strs
import PyProof.StrOps2
import HandS.Property
import HandS.Zip
import HandS.SortRule
import HandS.Small
import HandS.More
import HandS.WordsDict
import HandS.SetTxt0
import PySem.Challenge.RW_crosskeep_k03_parts_of_deals
set_option Elab.async false
set_option linter.all false
set_option maxRecDepth 100000
set_option maxHeartbeats 4000000
/-! EngA: data by value (D), how an abstract heap holds it (RepD), how states follow one another (Ext) -/
namespace E
open PySem L2

/-- data by value: a list or dict bears a mark whether it is owned (may be changed through its one owner) -/
inductive D where
  | non | bl (b : Bool) | int (i : Int) | str (x : Str)
  | tup (xs : List D) | lst (o : Bool) (xs : List D) | dic (o t : Bool) (kvs : List (D × D)) | loc (n : Nat) | ty (n : String) | und

mutual
/-- nothing owned within -/
@[simp] def D.pure : D → Bool
  | .tup xs => pureL xs
  | .lst o xs => !o && pureL xs
  | .dic o _ kvs => !o && pureK kvs
  | .und => false
  | .non => true
  | .bl _ => true
  | .int _ => true
  | .str _ => true
  | .loc _ => true
  | .ty _ => true
def pureL : List D → Bool
  | [] => true
  | x :: xs => x.pure && pureL xs
def pureK : List (D × D) → Bool
  | [] => true
  | (_, x) :: xs => x.pure && pureK xs
end
mutual
/-- what is owned becomes fixed -/
@[simp] def D.fz : D → D
  | .tup xs => .tup (fzL xs)
  | .lst _ xs => .lst false (fzL xs)
  | .dic _ t kvs => .dic false t (fzK kvs)
  | .non => .non
  | .bl b => .bl b
  | .int i => .int i
  | .str x => .str x
  | .loc n => .loc n
  | .ty n => .ty n
  | .und => .und
def fzL : List D → List D
  | [] => []
  | x :: xs => x.fz :: fzL xs
def fzK : List (D × D) → List (D × D)
  | [] => []
  | (k, x) :: xs => (k, x.fz) :: fzK xs
end
mutual
def D.toPy : D → Option PyData
  | .non => some .none
  | .bl b => some (.bool b)
  | .int i => some (.int i)
  | .str x => some (.str x)
  | .tup xs => (toPyL xs).map .tuple
  | .lst _ xs => (toPyL xs).map .list
  | _ => none
def toPyL : List D → Option (List PyData)
  | [] => some []
  | x :: xs => match x.toPy, toPyL xs with
    | some a, some b => some (a :: b)
    | _, _ => none
end

structure Wd where
  F : Addr → Prop
  ι : List Addr

/-- a list (tuple) that the module's top has written -/
def KL (K : PySem.W.Frag) (a : Addr) (xs : List V) : Prop :=
  ∃ (o : Obj) (its : Array Value) (n : Nat), K.lookup a = some o ∧ o.cls = .type "list" ∧ o.dict = none ∧ o.data = .seq its n ∧ its.size ≤ sizeLine ∧ Vals xs its.toList
def KT (K : PySem.W.Frag) (a : Addr) (xs : List V) : Prop :=
  ∃ (o : Obj) (its : Array Value) (n : Nat), K.lookup a = some o ∧ o.cls = .type "tuple" ∧ o.data = .seq its n ∧ its.size ≤ sizeLine ∧ Vals xs its.toList
def FzL (K : PySem.W.Frag) (W : Wd) (H : Hp) (a : Addr) (xs : List V) : Prop := (W.F a ∧ Rd H a (.lst xs)) ∨ KL K a xs
def FzT (K : PySem.W.Frag) (W : Wd) (H : Hp) (a : Addr) (xs : List V) : Prop := (W.F a ∧ Rd H a (.tup xs)) ∨ KT K a xs
theorem FzL.sq {K : PySem.W.Frag} {W : Wd} {H : Hp} {a : Addr} {xs : List V} (h : FzL K W H a xs) : SqL K H a xs := by
  rcases h with ⟨_, h⟩ | h
  · exact .inl h
  · exact .inr h
theorem FzT.sq {K : PySem.W.Frag} {W : Wd} {H : Hp} {a : Addr} {xs : List V} (h : FzT K W H a xs) : SqT K H a xs := by
  rcases h with ⟨_, h⟩ | h
  · exact .inl h
  · exact .inr h

def kD : Key → D
  | .inl i => .int i
  | .inr x => .str x
def kDT (ks : List Key) : D := .tup (ks.map kD)

mutual
/-- v is d in H; the owned addresses of it -/
inductive RepD (K : PySem.W.Frag) (W : Wd) (H : Hp) : V → D → List Addr → Prop
  | non : RepD K W H .non .non []
  | bl {b} : RepD K W H (.bl b) (.bl b) []
  | int {i} : RepD K W H (.int i) (.int i) []
  | str {x} : RepD K W H (.str x) (.str x) []
  | loc {n a} : W.ι[n]? = some a → RepD K W H (.ref a) (.loc n) []
  | ty {n} : RepD K W H (.ty n) (.ty n) []
  | tup {a vs ds fp} : FzT K W H a vs → RepL K W H vs ds fp → RepD K W H (.ref a) (.tup ds) fp
  | lstF {a vs ds} : FzL K W H a vs → RepL K W H vs ds [] → RepD K W H (.ref a) (.lst false ds) []
  | lstO {a vs ds fp} : H a = some (.lst vs) → RepL K W H vs ds fp → RepD K W H (.ref a) (.lst true ds) (a :: fp)
  | dkF {a} {kvs : List (Key × V)} {dd : List (D × D)} : W.F a → H a = some (.dK kvs) → kvs.map (fun p => kD p.1) = dd.map (·.1) → RepL K W H (kvs.map (·.2)) (dd.map (·.2)) [] → RepD K W H (.ref a) (.dic false false dd) []
  | dtF {a} {kvs : List (List Key × V)} {dd : List (D × D)} : W.F a → H a = some (.dT kvs) → kvs.map (fun p => kDT p.1) = dd.map (·.1) → RepL K W H (kvs.map (·.2)) (dd.map (·.2)) [] → RepD K W H (.ref a) (.dic false true dd) []
  | dkO {a fp} {kvs : List (Key × V)} {dd : List (D × D)} : H a = some (.dK kvs) → kvs.map (fun p => kD p.1) = dd.map (·.1) → RepL K W H (kvs.map (·.2)) (dd.map (·.2)) fp → RepD K W H (.ref a) (.dic true false dd) (a :: fp)
  | dtO {a fp} {kvs : List (List Key × V)} {dd : List (D × D)} : H a = some (.dT kvs) → kvs.map (fun p => kDT p.1) = dd.map (·.1) → RepL K W H (kvs.map (·.2)) (dd.map (·.2)) fp → RepD K W H (.ref a) (.dic true true dd) (a :: fp)
inductive RepL (K : PySem.W.Frag) (W : Wd) (H : Hp) : List V → List D → List Addr → Prop
  | nil : RepL K W H [] [] []
  | cons {v d f vs ds g} : RepD K W H v d f → RepL K W H vs ds g → RepL K W H (v :: vs) (d :: ds) (f ++ g)
end

/-- from (W, H) to (W', H'), where only fp may be changed -/
structure Ext (W : Wd) (H : Hp) (W' : Wd) (H' : Hp) (fp : List Addr) : Prop where
  fm : ∀ a, W.F a → W'.F a
  im : ∀ (n : Nat) a, W.ι[n]? = some a → W'.ι[n]? = some a
  keep : ∀ a o, H a = some o → a ∉ fp → H' a = some o
  fnew : ∀ a, W'.F a → W.F a ∨ a ∈ fp ∨ H a = none
  there : ∀ a, H' a = none → H a = none
/-- owned ones are there and not fixed -/
def Own (W : Wd) (H : Hp) (fp : List Addr) : Prop := ∀ a ∈ fp, ¬ W.F a ∧ H a ≠ none
/-- fixed ones are there -/
def Fix (W : Wd) (H : Hp) : Prop := ∀ a, W.F a → H a ≠ none

theorem Ext.refl (W : Wd) (H : Hp) (fp : List Addr) : Ext W H W H fp := ⟨fun _ h => h, fun _ _ h => h, fun _ _ h _ => h, fun _ h => .inl h, fun _ h => h⟩
theorem Ext.trans {W W1 W2 : Wd} {H H1 H2 : Hp} {fp fq : List Addr} (e : Ext W H W1 H1 fp) (f : Ext W1 H1 W2 H2 fq) (s : ∀ a ∈ fq, a ∈ fp ∨ H a = none) : Ext W H W2 H2 fp where
  fm := fun a h => f.fm a (e.fm a h)
  im := fun n a h => f.im n a (e.im n a h)
  keep := fun a o h q => f.keep a o (e.keep a o h q) fun z => by
    rcases s a z with z | z
    · exact q z
    · rw [h] at z; cases z
  fnew := fun a h => by
    rcases f.fnew a h with z | z | z
    · exact e.fnew a z
    · rcases s a z with y | y
      · exact .inr (.inl y)
      · exact .inr (.inr y)
    · exact .inr (.inr (e.there a z))
  there := fun a h => e.there a (f.there a h)
theorem Ext.sub {W W1 : Wd} {H H1 : Hp} {fp fq : List Addr} (e : Ext W H W1 H1 fp) (s : ∀ a ∈ fp, a ∈ fq) : Ext W H W1 H1 fq where
  fm := e.fm
  im := e.im
  keep := fun a o h q => e.keep a o h fun z => q (s a z)
  fnew := fun a h => by
    rcases e.fnew a h with z | z | z
    · exact .inl z
    · exact .inr (.inl (s a z))
    · exact .inr (.inr z)
  there := e.there
theorem Own.app {W : Wd} {H : Hp} {f g : List Addr} : Own W H (f ++ g) ↔ Own W H f ∧ Own W H g := by
  unfold Own
  constructor
  · intro h
    exact ⟨fun a m => h a (List.mem_append_left _ m), fun a m => h a (List.mem_append_right _ m)⟩
  · rintro ⟨h, k⟩ a m
    rcases List.mem_append.mp m with m | m
    · exact h a m
    · exact k a m
theorem Own.nil {W : Wd} {H : Hp} : Own W H [] := fun a m => by cases m
/-- what is owned apart stays owned -/
theorem Own.ext {W W1 : Wd} {H H1 : Hp} {fp g : List Addr} (o : Own W H g) (e : Ext W H W1 H1 fp) (d : ∀ a ∈ g, a ∉ fp) : Own W1 H1 g := fun a m => by
  obtain ⟨h1, h2⟩ := o a m
  refine ⟨fun z => ?_, fun z => h2 (e.there a z)⟩
  rcases e.fnew a z with y | y | y
  · exact h1 y
  · exact d a m y
  · exact h2 y

section
variable {K : PySem.W.Frag} {W W' : Wd} {H H' : Hp} {fp : List Addr}
theorem rd_ext {a : Addr} {o : HO} (h : Rd H a o) (k : ∀ o, H a = some o → H' a = some o) : Rd H' a o := by
  rcases h with h | ⟨u, h⟩
  · exact .inl (k _ h)
  · exact .inr ⟨u, k _ h⟩
/-- fixed addresses don't lie in fp -/
def Off (W : Wd) (fp : List Addr) : Prop := ∀ a ∈ fp, ¬ W.F a
theorem FzL.ext {a : Addr} {xs : List V} (h : FzL K W H a xs) (e : Ext W H W' H' fp) (o : Off W fp) : FzL K W' H' a xs := by
  rcases h with ⟨h1, h2⟩ | h
  · exact .inl ⟨e.fm a h1, rd_ext h2 fun u q => e.keep a u q fun m => o a m h1⟩
  · exact .inr h
theorem FzT.ext {a : Addr} {xs : List V} (h : FzT K W H a xs) (e : Ext W H W' H' fp) (o : Off W fp) : FzT K W' H' a xs := by
  rcases h with ⟨h1, h2⟩ | h
  · exact .inl ⟨e.fm a h1, rd_ext h2 fun u q => e.keep a u q fun m => o a m h1⟩
  · exact .inr h
mutual
theorem RepD.ext (e : Ext W H W' H' fp) (o : Off W fp) : ∀ {v : V} {d : D} {g : List Addr}, RepD K W H v d g → (∀ a ∈ g, a ∉ fp) → RepD K W' H' v d g
  | _, _, _, .non, _ => .non
  | _, _, _, .bl, _ => .bl
  | _, _, _, .int, _ => .int
  | _, _, _, .str, _ => .str
  | _, _, _, .loc h, _ => .loc (e.im _ _ h)
  | _, _, _, .ty, _ => .ty
  | _, _, _, .tup h l, n => .tup (h.ext e o) (RepL.ext e o l n)
  | _, _, _, .lstF h l, n => .lstF (h.ext e o) (RepL.ext e o l n)
  | _, _, _, .lstO h l, n => .lstO (e.keep _ _ h (n _ (List.mem_cons_self ..))) (RepL.ext e o l fun a m => n a (List.mem_cons_of_mem _ m))
  | _, _, _, .dkF f h k l, n => .dkF (e.fm _ f) (e.keep _ _ h fun m => o _ m f) k (RepL.ext e o l n)
  | _, _, _, .dtF f h k l, n => .dtF (e.fm _ f) (e.keep _ _ h fun m => o _ m f) k (RepL.ext e o l n)
  | _, _, _, .dkO h k l, n => .dkO (e.keep _ _ h (n _ (List.mem_cons_self ..))) k (RepL.ext e o l fun a m => n a (List.mem_cons_of_mem _ m))
  | _, _, _, .dtO h k l, n => .dtO (e.keep _ _ h (n _ (List.mem_cons_self ..))) k (RepL.ext e o l fun a m => n a (List.mem_cons_of_mem _ m))
theorem RepL.ext (e : Ext W H W' H' fp) (o : Off W fp) : ∀ {vs : List V} {ds : List D} {g : List Addr}, RepL K W H vs ds g → (∀ a ∈ g, a ∉ fp) → RepL K W' H' vs ds g
  | _, _, _, .nil, _ => .nil
  | _, _, _, .cons h l, n => .cons (RepD.ext e o h fun a m => n a (List.mem_append_left _ m)) (RepL.ext e o l fun a m => n a (List.mem_append_right _ m))
end
mutual
/-- pure data owns nothing -/
theorem RepD.pure : ∀ {v : V} {d : D} {g : List Addr}, RepD K W H v d g → d.pure = true → g = []
  | _, _, _, .non, _ => rfl
  | _, _, _, .bl, _ => rfl
  | _, _, _, .int, _ => rfl
  | _, _, _, .str, _ => rfl
  | _, _, _, .loc _, _ => rfl
  | _, _, _, .ty, _ => rfl
  | _, _, _, .tup _ l, p => RepL.pure l p
  | _, _, _, .lstF _ _, _ => rfl
  | _, _, _, .lstO _ _, p => by simp [D.pure] at p
  | _, _, _, .dkF _ _ _ _, _ => rfl
  | _, _, _, .dtF _ _ _ _, _ => rfl
  | _, _, _, .dkO _ _ _, p => by simp [D.pure] at p
  | _, _, _, .dtO _ _ _, p => by simp [D.pure] at p
theorem RepL.pure : ∀ {vs : List V} {ds : List D} {g : List Addr}, RepL K W H vs ds g → pureL ds = true → g = []
  | _, _, _, .nil, _ => rfl
  | _, _, _, .cons h l, p => by
    have p' : _ ∧ _ := Bool.and_eq_true_iff.mp p
    rw [RepD.pure h p'.1, RepL.pure l p'.2]
    rfl
end
theorem pureL_all : ∀ {ds : List D}, pureL ds = ds.all D.pure
  | [] => rfl
  | d :: ds => by rw [pureL, List.all_cons, pureL_all]
theorem pureK_all : ∀ {kvs : List (D × D)}, pureK kvs = (kvs.map (·.2)).all D.pure
  | [] => rfl
  | (k, d) :: r => by rw [pureK, List.map_cons, List.all_cons, pureK_all]
theorem fzL_map : ∀ {ds : List D}, fzL ds = ds.map D.fz
  | [] => rfl
  | d :: ds => by rw [fzL, List.map_cons, fzL_map]
theorem fzK_map : ∀ {kvs : List (D × D)}, fzK kvs = kvs.map fun p => (p.1, p.2.fz)
  | [] => rfl
  | (k, d) :: r => by rw [fzK, List.map_cons, fzK_map]
mutual
theorem fz_pure : ∀ d : D, d ≠ .und → (∀ d', d'=d → True) → d.pure = true → d.fz = d
  | .non, _, _, _ => rfl
  | .bl _, _, _, _ => rfl
  | .int _, _, _, _ => rfl
  | .str _, _, _, _ => rfl
  | .loc _, _, _, _ => rfl
  | .ty _, _, _, _ => rfl
  | .und, h, _, _ => rfl
  | .tup xs, _, _, p => by
    have p' : pureL xs = true := by simpa [D.pure] using p
    rw [D.fz, fzL_pure xs p']
  | .lst o xs, _, _, p => by
    have p' : o = false ∧ pureL xs = true := by simpa [D.pure] using p
    rw [D.fz, fzL_pure xs p'.2, p'.1]
  | .dic o t xs, _, _, p => by
    have p' : o = false ∧ pureK xs = true := by simpa [D.pure] using p
    rw [D.fz, fzK_pure xs p'.2, p'.1]
theorem fzL_pure : ∀ ds : List D, pureL ds = true → fzL ds = ds
  | [], _ => rfl
  | d :: ds, p => by
    have p' : d.pure = true ∧ pureL ds = true := by simpa [pureL] using p
    rw [fzL, fz_pure d (by intro e; subst e; exact absurd p'.1 (by simp [D.pure])) (fun _ _ => trivial) p'.1, fzL_pure ds p'.2]
theorem fzK_pure : ∀ ds : List (D × D), pureK ds = true → fzK ds = ds
  | [], _ => rfl
  | (k, d) :: ds, p => by
    have p' : d.pure = true ∧ pureK ds = true := by simpa [pureK] using p
    rw [fzK, fz_pure d (by intro e; subst e; exact absurd p'.1 (by simp [D.pure])) (fun _ _ => trivial) p'.1, fzK_pure ds p'.2]
end
end
end E
/-! EngB: states, the judgement of an expression, names, constants -/
namespace E
open PySem L2

structure Ob where
  cls : Nat
  fs : List (String × D)
structure Mem where
  env : List D
  hs : List Ob
inductive Res (α : Type) where
  | ok (a : α)
  | exc (x : D) (m : Mem)
  | fail
def Res.bind {α β : Type} (r : Res α) (f : α → Res β) : Res β := match r with
  | .ok a => f a
  | .exc x m => .exc x m
  | .fail => .fail
@[simp] theorem Res.bind_ok {α β : Type} (a : α) (f : α → Res β) : (Res.ok a).bind f = f a := rfl
@[simp] theorem Res.bind_fail {α β : Type} (f : α → Res β) : (Res.fail : Res α).bind f = .fail := rfl
@[simp] theorem Res.bind_exc {α β : Type} (x : D) (m : Mem) (f : α → Res β) : (Res.exc x m : Res α).bind f = .exc x m := rfl
theorem Res.bind_eq {α β : Type} {r : Res α} {f : α → Res β} {b : β} (h : r.bind f = .ok b) : ∃ a, r = .ok a ∧ f a = .ok b := by
  cases r with
  | ok a => exact ⟨a, rfl, h⟩
  | exc x m => cases h
  | fail => cases h
/-- what follows is not looked at before its time -/
theorem Res.bind_congr {α β : Type} {r r' : Res α} {f : α → Res β} (h : r = r') : r.bind f = r'.bind f := by rw [h]
abbrev M (α : Type) := Mem → Res (α × Mem)
abbrev MQ (α : Type) := Mem → Res α
/-- a value that is there, or nothing -/
def Res.of {α : Type} : Option α → Res α
  | some a => .ok a
  | none => .fail
@[simp] theorem Res.of_some {α : Type} (a : α) : Res.of (some a) = .ok a := rfl
@[simp] theorem Res.of_none {α : Type} : Res.of (none : Option α) = .fail := rfl
theorem Res.of_eq {α : Type} {o : Option α} {a : α} (h : Res.of o = .ok a) : o = some a := by
  cases o with
  | none => cases h
  | some b => cases h; rfl
/-- a truth that no evaluation opens -/
noncomputable def cdec (p : Prop) : Bool := @decide p (Classical.propDecidable p)
theorem cdec_of {p : Prop} (h : p) : cdec p = true := @decide_eq_true p (Classical.propDecidable p) h
theorem of_cdec {p : Prop} (h : cdec p = true) : p := @of_decide_eq_true p (Classical.propDecidable p) h
def Res.when {α : Type} (b : Bool) (r : Res α) : Res α := if b = true then r else .fail
@[simp] theorem Res.when_true {α : Type} (r : Res α) : Res.when true r = r := rfl
@[simp] theorem Res.when_false {α : Type} (r : Res α) : Res.when false r = .fail := rfl
theorem Res.when_congr {α : Type} {b b' : Bool} {r : Res α} (h : b = b') : Res.when b r = Res.when b' r := by rw [h]
theorem Res.when_eq {α : Type} {b : Bool} {r : Res α} {a : α} (h : Res.when b r = .ok a) : b = true ∧ r = .ok a := by
  cases b with
  | false => cases h
  | true => exact ⟨rfl, h⟩

section
variable {K : PySem.W.Frag} {W W' : Wd} {H H' : Hp} {fp : List Addr}
mutual
theorem RepD.frz (f : ∀ a, W.F a → W'.F a) (i : W'.ι = W.ι) : ∀ {v : V} {d : D} {g : List Addr}, RepD K W H v d g → (∀ a ∈ g, W'.F a) → RepD K W' H v d.fz []
  | _, _, _, .non, _ => .non
  | _, _, _, .bl, _ => .bl
  | _, _, _, .int, _ => .int
  | _, _, _, .str, _ => .str
  | _, _, _, .loc h, _ => .loc (by rw [i]; exact h)
  | _, _, _, .ty, _ => .ty
  | _, _, _, .tup h l, n => .tup (h.imp (fun q => ⟨f _ q.1, q.2⟩) id) (RepL.frz f i l n)
  | _, _, _, .lstF h l, n => .lstF (h.imp (fun q => ⟨f _ q.1, q.2⟩) id) (RepL.frz f i l n)
  | _, _, _, .lstO h l, n => .lstF (.inl ⟨n _ (List.mem_cons_self ..), .inl h⟩) (RepL.frz f i l fun a m => n a (List.mem_cons_of_mem _ m))
  | _, _, _, .dkF g h k l, n => by
    refine .dkF (f _ g) h ?_ ?_
    · rw [k, fzK_map, List.map_map]; rfl
    · have := RepL.frz f i l n
      rw [fzL_map] at this
      rw [fzK_map, List.map_map]
      rw [List.map_map] at this
      exact this
  | _, _, _, .dtF g h k l, n => by
    refine .dtF (f _ g) h ?_ ?_
    · rw [k, fzK_map, List.map_map]; rfl
    · have := RepL.frz f i l n
      rw [fzL_map] at this
      rw [fzK_map, List.map_map]
      rw [List.map_map] at this
      exact this
  | _, _, _, .dkO h k l, n => by
    refine .dkF (n _ (List.mem_cons_self ..)) h ?_ ?_
    · rw [k, fzK_map, List.map_map]; rfl
    · have := RepL.frz f i l fun a m => n a (List.mem_cons_of_mem _ m)
      rw [fzL_map] at this
      rw [fzK_map, List.map_map]
      rw [List.map_map] at this
      exact this
  | _, _, _, .dtO h k l, n => by
    refine .dtF (n _ (List.mem_cons_self ..)) h ?_ ?_
    · rw [k, fzK_map, List.map_map]; rfl
    · have := RepL.frz f i l fun a m => n a (List.mem_cons_of_mem _ m)
      rw [fzL_map] at this
      rw [fzK_map, List.map_map]
      rw [List.map_map] at this
      exact this
theorem RepL.frz (f : ∀ a, W.F a → W'.F a) (i : W'.ι = W.ι) : ∀ {vs : List V} {ds : List D} {g : List Addr}, RepL K W H vs ds g → (∀ a ∈ g, W'.F a) → RepL K W' H vs (fzL ds) []
  | _, _, _, .nil, _ => .nil
  | _, _, _, .cons h l, n => .cons (f := []) (g := []) (RepD.frz f i h fun a m => n a (List.mem_append_left _ m)) (RepL.frz f i l fun a m => n a (List.mem_append_right _ m))
end
/-- to fix owned addresses -/
def Wd.fixed (W : Wd) (g : List Addr) : Wd := ⟨fun a => W.F a ∨ a ∈ g, W.ι⟩
theorem Ext.fixed {g : List Addr} (s : ∀ a ∈ g, a ∈ fp) : Ext W H (W.fixed g) H fp :=
  ⟨fun _ h => .inl h, fun _ _ h => h, fun _ _ h _ => h, fun a h => h.elim .inl fun m => .inr (.inl (s a m)), fun _ h => h⟩
theorem RepD.fixed {v : V} {d : D} {g : List Addr} (r : RepD K W H v d g) : RepD K (W.fixed g) H v d.fz [] := RepD.frz (W' := W.fixed g) (fun _ h => Or.inl h) rfl r fun _ m => Or.inr m

/-! ### slots -/
inductive RepS (K : PySem.W.Frag) (W : Wd) (H : Hp) : L2.St → List D → List Addr → Prop
  | nil : RepS K W H [] [] []
  | und {x σ env g} : RepS K W H σ env g → RepS K W H (x :: σ) (.und :: env) g
  | cons {v σ d env f g} : RepD K W H v d f → RepS K W H σ env g → RepS K W H (some v :: σ) (d :: env) (f ++ g)
theorem RepS.ext (e : Ext W H W' H' fp) (o : Off W fp) {σ : L2.St} {env : List D} {g : List Addr} (h : RepS K W H σ env g) (n : ∀ a ∈ g, a ∉ fp) : RepS K W' H' σ env g := by
  induction h with
  | nil => exact .nil
  | und _ ih => exact .und (ih n)
  | cons r _ ih => exact .cons (r.ext e o fun a m => n a (List.mem_append_left _ m)) (ih fun a m => n a (List.mem_append_right _ m))
theorem RepD.nund {v : V} {g : List Addr} (h : RepD K W H v .und g) : False := by cases h
/-- one slot in view: others may move on as long as theirs isn't touched -/
theorem RepS.at {σ : L2.St} {env : List D} {g : List Addr} (h : RepS K W H σ env g) : ∀ {i : Nat} {d : D}, env[i]? = some d → d ≠ .und →
    ∃ v A f B, g = A ++ f ++ B ∧ σ[i]? = some (some v) ∧ RepD K W H v d f ∧
      ∀ {W' : Wd} {H' : Hp} {fq : List Addr} {v' : V} {d' : D} {f' : List Addr}, Ext W H W' H' fq → Off W fq → (∀ a ∈ A ++ B, a ∉ fq) → RepD K W' H' v' d' f' → RepS K W' H' (σ.set i (some v')) (env.set i d') (A ++ f' ++ B) := by
  induction h with
  | nil => intro i d e; simp at e
  | @und x σ env g hs ih =>
    intro i d e nd
    cases i with
    | zero => simp at e; exact absurd e.symm nd
    | succ i =>
      obtain ⟨v, A, f, B, e1, e2, e3, k⟩ := ih (by simpa using e) nd
      exact ⟨v, A, f, B, e1, by simpa using e2, e3, fun a b c d => .und (k a b c d)⟩
  | @cons v σ d0 env f g r hs ih =>
    intro i d e nd
    cases i with
    | zero =>
      obtain rfl : d0 = d := by simpa using e
      refine ⟨v, [], f, g, rfl, rfl, r, fun a b c q => ?_⟩
      exact .cons q (hs.ext a b fun z m => c z (by simpa using m))
    | succ i =>
      obtain ⟨v', A, f', B, e1, e2, e3, k⟩ := ih (by simpa using e) nd
      refine ⟨v', f ++ A, f', B, by rw [e1]; simp, by simpa using e2, e3, fun a b c q => ?_⟩
      have := RepS.cons (r.ext a b fun z m => c z (by simp [m])) (k a b (fun z m => c z (by
        rcases List.mem_append.mp m with m | m
        · simp [m]
        · simp [m])) q)
      simpa using this
/-- a slot stored anew: what it held is given up -/
theorem RepS.put {σ : L2.St} {env : List D} {g : List Addr} (h : RepS K W H σ env g) : ∀ {i : Nat}, i < env.length →
    ∃ A f B, g = A ++ f ++ B ∧ ∀ {v' : V} {d' : D} {f' : List Addr}, RepD K W H v' d' f' → RepS K W H (σ.set i (some v')) (env.set i d') (A ++ f' ++ B) := by
  induction h with
  | nil => intro i e; simp at e
  | @und x σ env g hs ih =>
    intro i e
    cases i with
    | zero => exact ⟨[], [], g, rfl, fun q => .cons q hs⟩
    | succ i =>
      obtain ⟨A, f, B, e1, k⟩ := ih (by simpa using e)
      exact ⟨A, f, B, e1, fun q => .und (k q)⟩
  | @cons v σ d0 env f g r hs ih =>
    intro i e
    cases i with
    | zero => exact ⟨[], f, g, rfl, fun q => .cons q hs⟩
    | succ i =>
      obtain ⟨A, f', B, e1, k⟩ := ih (by simpa using e)
      refine ⟨f ++ A, f', B, by rw [e1]; simp, fun q => ?_⟩
      have := RepS.cons r (k q)
      simpa using this
theorem RepS.length {σ : L2.St} {env : List D} {g : List Addr} (h : RepS K W H σ env g) : σ.length = env.length := by
  induction h with
  | nil => rfl
  | und _ ih => simp [ih]
  | cons _ _ ih => simp [ih]

/-! ### objects, and boxes that hold a list or a dict -/
abbrev BOXC : Nat := 1000000
inductive RepH (K : PySem.W.Frag) (CT : Nat → Addr) (W : Wd) (H : Hp) : List Addr → List Ob → List Addr → Prop
  | nil : RepH K CT W H [] [] []
  | box {a d f ι hs g} : RepD K W H (.ref a) d (a :: f) → RepH K CT W H ι hs g → RepH K CT W H (a :: ι) (⟨BOXC, [("", d)]⟩ :: hs) ((a :: f) ++ g)
  | cons {a c dx fvs fs f ι hs g} : c ≠ BOXC → H a = some (.ins (CT c) dx fvs) → fvs.map (·.1) = fs.map (fun p => Str.ofString p.1) → RepL K W H (fvs.map (·.2)) (fs.map (·.2)) f → RepH K CT W H ι hs g → RepH K CT W H (a :: ι) (⟨c, fs⟩ :: hs) ((a :: f) ++ g)
theorem RepH.ext {CT : Nat → Addr} (e : Ext W H W' H' fp) (o : Off W fp) {ι : List Addr} {hs : List Ob} {g : List Addr} (h : RepH K CT W H ι hs g) (n : ∀ a ∈ g, a ∉ fp) : RepH K CT W' H' ι hs g := by
  induction h with
  | nil => exact .nil
  | box h1 _ ih => exact .box (h1.ext e o fun a m => n a (by simp at m ⊢; rcases m with m | m <;> simp [m])) (ih fun a m => n a (List.mem_append_right _ m))
  | cons h0 h1 h2 h3 _ ih =>
    refine .cons h0 (e.keep _ _ h1 (n _ (by simp))) h2 (h3.ext e o fun a m => n a (by simp [m])) (ih fun a m => n a ?_)
    exact List.mem_append_right _ m

structure Rel (K : PySem.W.Frag) (CT : Nat → Addr) (W : Wd) (H : Hp) (σ : L2.St) (m : Mem) (fp : List Addr) : Prop where
  s : ∃ f g, fp = f ++ g ∧ RepS K W H σ m.env f ∧ RepH K CT W H W.ι m.hs g
  nd : fp.Nodup
  own : Own W H fp
  fix : Fix W H
theorem Rel.off {CT : Nat → Addr} {σ : L2.St} {m : Mem} (r : Rel K CT W H σ m fp) : Off W fp := fun a m => (r.own a m).1
/-- what lies apart from it may change -/
theorem Rel.ext {CT : Nat → Addr} {σ : L2.St} {m : Mem} {fq : List Addr} (r : Rel K CT W H σ m fp) (e : Ext W H W' H' fq) (o : Off W fq) (n : ∀ a ∈ fp, a ∉ fq) (i : W'.ι = W.ι) (x : Fix W' H') : Rel K CT W' H' σ m fp := by
  obtain ⟨f, g, rfl, h1, h2⟩ := r.s
  refine ⟨⟨f, g, rfl, h1.ext e o fun a m => n a (List.mem_append_left _ m), ?_⟩, r.nd, r.own.ext e n, x⟩
  rw [i]
  exact h2.ext e o fun a m => n a (List.mem_append_right _ m)
end

/-! ### the judgements -/
section
variable (K : PySem.W.Frag) (CT : Nat → Addr)
/-- behind an expression: v is d, apart from what the state owns -/
structure Post (W : Wd) (H : Hp) (σ : L2.St) (fp : List Addr) (v : V) (d : D) (m' : Mem) (W' : Wd) (H' : Hp) (fp' fd : List Addr) : Prop where
  rel : Rel K CT W' H' σ m' fp'
  rep : RepD K W' H' v d fd
  nd : (fp' ++ fd).Nodup
  own : Own W' H' fd
  ext : Ext W H W' H' fp
  sub : ∀ a ∈ fp' ++ fd, a ∈ fp ∨ H a = none
def tM (e : M D) : TE := fun σ H Q => ∃ W m fp d m', Rel K CT W H σ m fp ∧ e m = .ok (d, m') ∧ ∀ v W' H' fp' fd, Post K CT W H σ fp v d m' W' H' fp' fd → Q v H'
/-- an expression that changes nothing; its value may be a part of the state -/
structure PostQ (W : Wd) (H : Hp) (σ : L2.St) (m : Mem) (fp : List Addr) (v : V) (d : D) (W' : Wd) (H' : Hp) (fd : List Addr) : Prop where
  rel : Rel K CT W' H' σ m fp
  rep : RepD K W' H' v d fd
  ext : Ext W H W' H' []
  sub : ∀ a ∈ fd, a ∈ fp
def tQ (e : MQ D) : TE := fun σ H Q => ∃ W m fp d, Rel K CT W H σ m fp ∧ e m = .ok d ∧ ∀ v W' H' fd, PostQ K CT W H σ m fp v d W' H' fd → Q v H'
/-- argument lists -/
structure PostL (W : Wd) (H : Hp) (σ : L2.St) (fp : List Addr) (vs : List V) (ds : List D) (m' : Mem) (W' : Wd) (H' : Hp) (fp' fd : List Addr) : Prop where
  rel : Rel K CT W' H' σ m' fp'
  rep : RepL K W' H' vs ds fd
  nd : (fp' ++ fd).Nodup
  own : Own W' H' fd
  ext : Ext W H W' H' fp
  sub : ∀ a ∈ fp' ++ fd, a ∈ fp ∨ H a = none
end
def ME (X : Cx) (CT : Nat → Addr) (e : Expr) (m : M D) : Prop := PE X e (tM X.K CT m)
def MEQ (X : Cx) (CT : Nat → Addr) (e : Expr) (q : MQ D) : Prop := PE X e (tQ X.K CT q)

theorem pe_weak {X : Cx} {e : Expr} {t t' : TE} (h : PE X e t) (k : ∀ σ H Q, t' σ H Q → t σ H Q) : PE X e t' := ⟨fun pins s σ H Q I q => h.run pins s σ H Q I (k σ H Q q)⟩
theorem pt_weak {X : Cx} {e : Expr} {t t' : TT} (h : PT X e t) (k : ∀ σ H Q, t' σ H Q → t σ H Q) : PT X e t' := ⟨fun pins s σ H Q I q => h.run pins s σ H Q I (k σ H Q q)⟩
theorem pw_weak {X : Cx} {e : Expr} {t t' : TT} (h : PW X e t) (k : ∀ σ H Q, t' σ H Q → t σ H Q) : PW X e t' := ⟨fun w pins s σ H Q I q => h.run w pins s σ H Q I (k σ H Q q)⟩
theorem pa_weak {X : Cx} {e : List Expr} {t t' : TA} (h : PA X e t) (k : ∀ σ H Q, t' σ H Q → t σ H Q) : PA X e t' := ⟨fun p pins s σ H Q I q => h.run p pins s σ H Q I (k σ H Q q)⟩
theorem ps_weak {X : Cx} {e : Stmt} {t t' : TS} (h : PS X e t) (k : ∀ D σ H, t' D σ H → t D σ H) : PS X e t' := ⟨fun pins s σ H D I q => h.run pins s σ H D I (k D σ H q)⟩
theorem pss_weak {X : Cx} {e : List Stmt} {t t' : TS} (h : PSs X e t) (k : ∀ D σ H, t' D σ H → t D σ H) : PSs X e t' := ⟨fun pins s σ H D I q => h.run pins s σ H D I (k D σ H q)⟩

section
variable {K : PySem.W.Frag} {CT : Nat → Addr} {W W' W1 W2 : Wd} {H H' H1 H2 : Hp} {σ : L2.St} {m m' m1 m2 : Mem} {fp fp' fd fp1 fp2 fd1 fd2 : List Addr} {v v1 v2 : V} {d d1 d2 : D}
theorem Post.mk0 (r : Rel K CT W H σ m fp) (h : RepD K W H v d []) : Post K CT W H σ fp v d m W H fp [] :=
  ⟨r, h, by rw [List.append_nil]; exact r.nd, Own.nil, Ext.refl _ _ _, fun a z => .inl (by simpa using z)⟩
theorem PostQ.mk0 (r : Rel K CT W H σ m fp) (h : RepD K W H v d fd) (s : ∀ a ∈ fd, a ∈ fp) : PostQ K CT W H σ m fp v d W H fd := ⟨r, h, Ext.refl _ _ _, s⟩
end

/-! ### names and constants -/
def mqC (d : D) : MQ D := fun _ => .ok d
def mqVar (i : Nat) : MQ D := fun m => match m.env[i]? with
  | some .und => .fail
  | some d => .ok d
  | none => .fail
theorem mqVar_eq {i : Nat} {m : Mem} {d : D} (h : mqVar i m = .ok d) : m.env[i]? = some d ∧ d ≠ .und := by
  unfold mqVar at h
  split at h
  · cases h
  · rename_i d' hd e
    cases h
    exact ⟨e, hd⟩
  · cases h
/-- a value out of a thing that is looked at: it must be pure -/
def mP (q : MQ D) : M D := fun m => (q m).bind fun d => Res.when d.pure (.ok (d, m))
/-- a name's value: what it owned is fixed then -/
def mVar (i : Nat) : M D := fun m => (mqVar i m).bind fun d => if d.pure = true then .ok (d, m) else .ok (d.fz, { m with env := m.env.set i d.fz })
section
variable {X : Cx} {CT : Nat → Addr} {e : Expr}
theorem meq_c {v : V} {d : D} (h : PE X e (tC v)) (r : ∀ W H, RepD X.K W H v d []) : MEQ X CT e (mqC d) := pe_weak h fun σ H Q ⟨W, m, fp, d', rel, e, k⟩ => by
  cases e
  exact k v W H [] (PostQ.mk0 rel (r W H) fun a m => by cases m)
theorem meq_int {i : Int} {j pos} : MEQ X CT (.Constant (.int i) j pos) (mqC (.int i)) := meq_c pe_int fun _ _ => .int
theorem meq_bl {b : Bool} {j pos} : MEQ X CT (.Constant (.bool b) j pos) (mqC (.bl b)) := meq_c pe_bl fun _ _ => .bl
theorem meq_non {j pos} : MEQ X CT (.Constant .none j pos) (mqC .non) := meq_c pe_non fun _ _ => .non
theorem meq_str {x : Str} {j pos} : MEQ X CT (.Constant (.str x) j pos) (mqC (.str x)) := meq_c pe_str fun _ _ => .str
theorem meq_var {i : Nat} (h : PE X e (tVar i)) : MEQ X CT e (mqVar i) := pe_weak h fun σ H Q ⟨W, m, fp, d, rel, e, k⟩ => by
  obtain ⟨e1, e2⟩ := mqVar_eq e
  obtain ⟨f, g, rfl, h1, h2⟩ := rel.s
  obtain ⟨v, A, f1, B, rfl, s, r, _⟩ := h1.at e1 e2
  exact ⟨v, s, k v W H f1 (PostQ.mk0 rel r fun a z => by simp [z])⟩
theorem me_p {q : MQ D} (h : MEQ X CT e q) : ME X CT e (mP q) := pe_weak h fun σ H Q ⟨W, m, fp, d, m', rel, e, k⟩ => by
  obtain ⟨d1, e1, e2⟩ := Res.bind_eq e
  obtain ⟨p, e3⟩ := Res.when_eq e2
  cases e3
  refine ⟨W, m, fp, d, rel, e1, fun v W' H' fd q => ?_⟩
  obtain rfl := q.rep.pure p
  exact k v W' H' fp [] ⟨q.rel, q.rep, by rw [List.append_nil]; exact q.rel.nd, Own.nil, q.ext.sub (fun a m => by cases m), fun a z => .inl (by simpa using z)⟩
theorem me_var {i : Nat} (h : PE X e (tVar i)) : ME X CT e (mVar i) := pe_weak h fun σ H Q ⟨W, m, fp, d, m', rel, e, k⟩ => by
  obtain ⟨d1, e1, e2⟩ := Res.bind_eq e
  obtain ⟨e3, nu⟩ := mqVar_eq e1
  obtain ⟨f, g, rfl, h1, h2⟩ := rel.s
  obtain ⟨v, A, f1, B, rfl, s, r, kk⟩ := h1.at e3 nu
  refine ⟨v, s, ?_⟩
  by_cases p : d1.pure = true
  · rw [if_pos p] at e2
    cases e2
    obtain rfl := r.pure p
    exact k v W H _ [] (Post.mk0 rel r)
  · rw [if_neg p] at e2
    cases e2
    have hs : σ.set i (some v) = σ := by
      apply List.ext_getElem?
      intro j
      rw [List.getElem?_set]
      split
      · rename_i ej; subst ej
        have : i < σ.length := (List.getElem?_eq_some_iff.mp s).1
        rw [if_pos this, s]
      · rfl
    have nd := rel.nd
    have x : Ext W H (W.fixed f1) H f1 := Ext.fixed fun a m => m
    have of1 : Off W f1 := fun a m => rel.off a (by simp [m])
    have dA : ∀ a ∈ A ++ B, a ∉ f1 := fun a ma mf => by
      simp only [List.nodup_append, List.append_assoc] at nd
      rcases List.mem_append.mp ma with ma | ma
      · exact nd.2.2 a ma a (by simp [mf]) rfl
      · exact nd.2.1.2.2 a mf a (by simp [ma]) rfl
    have dg : ∀ a ∈ g, a ∉ f1 := fun a ma mf => by
      simp only [List.nodup_append, List.append_assoc] at nd
      exact nd.2.1.2.2 a mf a (by simp [ma]) rfl
    have ns : RepS X.K (W.fixed f1) H σ (m.env.set i d1.fz) (A ++ [] ++ B) := by
      have := kk (v' := v) x of1 dA r.fixed
      rw [hs] at this
      exact this
    have sub : ∀ a ∈ (A ++ [] ++ B) ++ g, a ∈ A ++ f1 ++ B ++ g := fun a z => by
      simp only [List.append_nil, List.mem_append] at z ⊢
      rcases z with (z | z) | z
      · exact .inl (.inl (.inl z))
      · exact .inl (.inr z)
      · exact .inr z
    have nd2 : ((A ++ [] ++ B) ++ g).Nodup := by
      simp only [List.nodup_append, List.append_assoc, List.append_nil] at nd ⊢
      refine ⟨nd.1, nd.2.1.2.1, fun a ma b mb => nd.2.2 a ma b (by simp only [List.mem_append] at mb ⊢; exact .inr mb)⟩
    have own2 : Own (W.fixed f1) H ((A ++ [] ++ B) ++ g) := fun a z => by
      refine ⟨fun y => ?_, (rel.own a (sub a z)).2⟩
      rcases y with y | y
      · exact (rel.own a (sub a z)).1 y
      · simp only [List.append_nil, List.mem_append] at z
        rcases z with z | z
        · exact dA a (List.mem_append.mpr z) y
        · exact dg a z y
    have fx : Fix (W.fixed f1) H := fun a y => by
      rcases y with y | y
      · exact rel.fix a y
      · exact (rel.own a (by simp [y])).2
    refine k v (W.fixed f1) H _ [] ⟨⟨⟨_, g, rfl, ns, h2.ext x of1 dg⟩, nd2, own2, fx⟩, r.fixed, ?_, Own.nil, x.sub (fun a z => by simp [z]), fun a z => .inl (sub a (by simpa using z))⟩
    rw [List.append_nil]
    exact nd2
end
end E
/-! EngC: operators by data -/
namespace E
open PySem L2

/-- a new thing: v is d, what d owns is new -/
structure New (K : PySem.W.Frag) (W : Wd) (H : Hp) (v : V) (d : D) (W' : Wd) (H' : Hp) (fd : List Addr) : Prop where
  rep : RepD K W' H' v d fd
  ext : Ext W H W' H' []
  ι : W'.ι = W.ι
  fix : Fix W' H'
  nd : fd.Nodup
  own : Own W' H' fd
  fresh : ∀ a ∈ fd, H a = none
section
variable {K : PySem.W.Frag} {CT : Nat → Addr} {W W' W1 W2 : Wd} {H H' H1 H2 : Hp} {σ : L2.St} {m m' m1 m2 : Mem} {fp fp' fd fp1 fp2 fd1 fd2 g : List Addr} {v v1 v2 : V} {d d1 d2 : D}
theorem off_nil : Off W [] := fun a m => by cases m
theorem New.sc (x : Fix W H) (h : RepD K W H v d []) : New K W H v d W H [] := ⟨h, Ext.refl _ _ _, rfl, x, List.nodup_nil, Own.nil, fun a m => by cases m⟩
/-- a new object -/
theorem ext_upd {p : Addr} {o : HO} (hp : H p = none) : Ext W H W (upd H p o) [] := ⟨fun _ h => h, fun _ _ h => h, fun a u h _ => by rw [upd_ne (ne_of_none h hp)]; exact h, fun _ h => .inl h, fun a h => by
  by_cases e : a = p
  · subst e; exact hp
  · rw [upd_ne e] at h; exact h⟩
theorem fix_upd {p : Addr} {o : HO} (x : Fix W H) : Fix W (upd H p o) := fun a h => by
  by_cases e : a = p
  · subst e; rw [upd_same]; exact fun z => by cases z
  · rw [upd_ne e]; exact x a h
/-- a new object that is fixed at once -/
theorem ext_updF {p : Addr} {o : HO} (hp : H p = none) : Ext W H (W.fixed [p]) (upd H p o) [] := ⟨fun _ h => .inl h, fun _ _ h => h, (ext_upd (W := W) hp).keep, fun a h => by
  rcases h with h | h
  · exact .inl h
  · obtain rfl : a = p := by simpa using h
    exact .inr (.inr hp), (ext_upd (W := W) hp).there⟩
theorem fix_updF {p : Addr} {o : HO} (x : Fix W H) : Fix (W.fixed [p]) (upd H p o) := fun a h => by
  rcases h with h | h
  · exact fix_upd x a h
  · obtain rfl : a = p := by simpa using h
    rw [upd_same]; exact fun z => by cases z
/-- a new tuple of things that stand -/
theorem New.tup {p : Addr} {vs : List V} {ds : List D} (x : Fix W H) (hp : H p = none) (h : RepL K W H vs ds []) : New K W H (.ref p) (.tup ds) (W.fixed [p]) (upd H p (.tup vs)) [] :=
  ⟨.tup (.inl ⟨.inr (by simp), .inl upd_same⟩) (h.ext (ext_updF hp) off_nil fun a m => by cases m), ext_updF hp, rfl, fix_updF x, List.nodup_nil, Own.nil, fun a m => by cases m⟩
/-- a new list of fixed things -/
theorem New.lst {p : Addr} {vs : List V} {ds : List D} (x : Fix W H) (hp : H p = none) (h : RepL K W H vs ds []) : New K W H (.ref p) (.lst true ds) W (upd H p (.lst vs)) [p] :=
  ⟨.lstO upd_same (h.ext (ext_upd hp) off_nil fun a m => by cases m), ext_upd hp, rfl, fix_upd x, by simp, fun a m => by
    obtain rfl : a = p := by simpa using m
    exact ⟨fun z => x a z hp, by rw [upd_same]; exact fun z => by cases z⟩, fun a m => by
    obtain rfl : a = p := by simpa using m
    exact hp⟩
/-- behind an operation: a new thing over a state -/
theorem New.post {m' : Mem} (n : New K W1 H1 v d W' H' fd) (r : Rel K CT W1 H1 σ m' fp1) (e : Ext W H W1 H1 fp) (s : ∀ a ∈ fp1, a ∈ fp ∨ H a = none) : Post K CT W H σ fp v d m' W' H' fp1 fd where
  rel := r.ext n.ext off_nil (fun a _ z => by cases z) n.ι n.fix
  rep := n.rep
  nd := by
    rw [List.nodup_append]
    refine ⟨r.nd, n.nd, fun a ma b mb z => ?_⟩
    subst z
    exact (r.own a ma).2 (n.fresh a mb)
  own := n.own
  ext := e.trans n.ext fun a z => by cases z
  sub := fun a z => by
    rcases List.mem_append.mp z with z | z
    · exact s a z
    · exact .inr (e.there a (n.fresh a z))
theorem New.postQ (n : New K W1 H1 v d W' H' fd) (p : d.pure = true) (r : Rel K CT W1 H1 σ m fp) (e : Ext W H W1 H1 []) : PostQ K CT W H σ m fp v d W' H' [] where
  rel := r.ext n.ext off_nil (fun a _ z => by cases z) n.ι n.fix
  rep := by have := n.rep.pure p; subst this; exact n.rep
  ext := e.trans n.ext fun a z => by cases z
  sub := fun a z => by cases z

theorem RepD.lst {o : Bool} {ds : List D} (h : RepD K W H v (.lst o ds) g) : ∃ a vs g', v = .ref a ∧ SqL K H a vs ∧ RepL K W H vs ds g' ∧ ∀ a ∈ g', a ∈ g := by
  cases h with
  | lstF h l => exact ⟨_, _, [], rfl, h.sq, l, fun a m => m⟩
  | lstO h l => exact ⟨_, _, _, rfl, .inl (.inl h), l, fun a m => List.mem_cons_of_mem _ m⟩
theorem RepD.tupl {ds : List D} (h : RepD K W H v (.tup ds) g) : ∃ a vs, v = .ref a ∧ SqT K H a vs ∧ FzT K W H a vs ∧ RepL K W H vs ds g := by
  cases h with
  | tup h l => exact ⟨_, _, rfl, h.sq, h, l⟩
theorem RepL.length {vs : List V} {ds : List D} : ∀ {g : List Addr}, RepL K W H vs ds g → vs.length = ds.length := by
  induction vs generalizing ds with
  | nil => intro g h; cases h; rfl
  | cons v vs ih => intro g h; cases h with
    | cons _ l => simp [ih l]
theorem RepL.get {vs : List V} {ds : List D} : ∀ {g : List Addr}, RepL K W H vs ds g → ∀ {i : Nat} {d : D}, ds[i]? = some d → ∃ v f, vs[i]? = some v ∧ RepD K W H v d f ∧ ∀ a ∈ f, a ∈ g := by
  induction vs generalizing ds with
  | nil => intro g h i d e; cases h; simp at e
  | cons v vs ih => intro g h i d e; cases h with
    | cons r l =>
      cases i with
      | zero =>
        simp at e; subst e
        exact ⟨v, _, rfl, r, fun a m => List.mem_append_left _ m⟩
      | succ i =>
        obtain ⟨v', f, e1, r', s⟩ := ih l (by simpa using e)
        exact ⟨v', f, by simpa using e1, r', fun a m => List.mem_append_right _ (s a m)⟩
theorem RepL.app {vs ws : List V} {ds es : List D} : ∀ {f g : List Addr}, RepL K W H vs ds f → RepL K W H ws es g → RepL K W H (vs ++ ws) (ds ++ es) (f ++ g) := by
  induction vs generalizing ds with
  | nil => intro f g h k; cases h; exact k
  | cons v vs ih => intro f g h k; cases h with
    | cons r l =>
      have := RepL.cons r (ih l k)
      simpa using this
/-- pure items, picked -/
theorem RepL.pick {vs : List V} {ds : List D} : RepL K W H vs ds [] → ∀ n k, RepL K W H ((vs.drop n).take k) ((ds.drop n).take k) [] := by
  induction vs generalizing ds with
  | nil => intro h n k; cases h; simp; exact .nil
  | cons v vs ih =>
    intro h n k
    generalize hg : ([] : List Addr) = g at h
    cases h with
    | cons r l =>
      obtain ⟨rfl, rfl⟩ := List.nil_eq_append_iff.mp hg
      cases n with
      | succ n => simpa using ih l n k
      | zero =>
        cases k with
        | zero => simp; exact .nil
        | succ k =>
          have := ih l 0 k
          simp only [List.drop_zero, List.take_succ_cons] at this ⊢
          exact RepL.cons (f := []) (g := []) r this
mutual
theorem RepD.dp : ∀ {v : V} {d : D} {g : List Addr}, RepD K W H v d g → ∀ {p : PyData}, d.toPy = some p → Dp K H v p
  | _, _, _, .non, _, e => by cases e; exact .non
  | _, _, _, .bl, _, e => by cases e; exact .bl _
  | _, _, _, .int, _, e => by cases e; exact .int _
  | _, _, _, .str, _, e => by cases e; exact .str _
  | _, _, _, .loc _, _, e => by cases e
  | _, _, _, .ty, _, e => by cases e
  | _, _, _, .tup h l, p, e => by
    simp only [D.toPy, Option.map_eq_some_iff] at e
    obtain ⟨ps, e1, rfl⟩ := e
    exact .tup h.sq (RepL.dp l e1)
  | _, _, _, .lstF h l, p, e => by
    simp only [D.toPy, Option.map_eq_some_iff] at e
    obtain ⟨ps, e1, rfl⟩ := e
    exact .lst h.sq (RepL.dp l e1)
  | _, _, _, .lstO h l, p, e => by
    simp only [D.toPy, Option.map_eq_some_iff] at e
    obtain ⟨ps, e1, rfl⟩ := e
    exact .lst (.inl (.inl h)) (RepL.dp l e1)
  | _, _, _, .dkF _ _ _ _, _, e => by cases e
  | _, _, _, .dtF _ _ _ _, _, e => by cases e
  | _, _, _, .dkO _ _ _, _, e => by cases e
  | _, _, _, .dtO _ _ _, _, e => by cases e
theorem RepL.dp : ∀ {vs : List V} {ds : List D} {g : List Addr}, RepL K W H vs ds g → ∀ {ps : List PyData}, toPyL ds = some ps → DpAll K H vs ps
  | _, _, _, .nil, _, e => by cases e; exact .nil
  | _, _, _, .cons (d := d) (ds := ds) h l, ps, e => by
    unfold toPyL at e
    split at e
    · rename_i a b e1 e2
      cases e
      exact .cons (RepD.dp h e1) (RepL.dp l e2)
    · cases e
end
end

/-! ### operators as data -/
def OpD (X : Cx) (f : Value → Value → Sem Value) (g : D → D → Res D) : Prop :=
  ∃ r : R2, OpR X f r ∧ ∀ W H x y d1 d2 f1 f2 d Q, Fix W H → RepD X.K W H x d1 f1 → RepD X.K W H y d2 f2 → g d1 d2 = .ok d → (∀ v W' H' fd, New X.K W H v d W' H' fd → Q v H') → r x y H Q
def Scal (g : D → D → Res D) : Prop := ∀ d1 d2 d, g d1 d2 = .ok d → d.pure = true
theorem OpR.or {X : Cx} {f : Value → Value → Sem Value} {r1 r2 : R2} (h1 : OpR X f r1) (h2 : OpR X f r2) : OpR X f (fun x y H Q => r1 x y H Q ∨ r2 x y H Q) := fun pins s σ H x y v u Q I rx ry h => by
  rcases h with h | h
  · exact h1 pins s σ H x y v u Q I rx ry h
  · exact h2 pins s σ H x y v u Q I rx ry h
/-- an operation of two forms: where the first has no answer, the second is asked -/
def opElse (g1 g2 : D → D → Res D) : D → D → Res D := fun a b => match g1 a b with
  | .ok d => .ok d
  | _ => g2 a b
theorem OpD.or {X : Cx} {f : Value → Value → Sem Value} {g1 g2 : D → D → Res D} (h1 : OpD X f g1) (h2 : OpD X f g2) : OpD X f (opElse g1 g2) := by
  obtain ⟨r1, o1, k1⟩ := h1
  obtain ⟨r2, o2, k2⟩ := h2
  refine ⟨_, OpR.or o1 o2, fun W H x y d1 d2 f1 f2 d Q x0 a b e k => ?_⟩
  unfold opElse at e
  split at e
  · rename_i d' e1
    cases e
    exact .inl (k1 W H x y d1 d2 f1 f2 d Q x0 a b e1 k)
  · exact .inr (k2 W H x y d1 d2 f1 f2 d Q x0 a b e k)

@[simp] def dAddI : D → D → Res D
  | .int i, .int j => .ok (.int (i + j))
  | _, _ => .fail
def dAddS : D → D → Res D
  | .str i, .str j => .when (decide (i.length + j.length ≤ sizeLine)) (.ok (.str (i ++ j)))
  | _, _ => .fail
def dAddT : D → D → Res D
  | .tup xs, .tup ys => .when (pureL xs && pureL ys && decide (xs.length + ys.length ≤ sizeLine)) (.ok (.tup (xs ++ ys)))
  | _, _ => .fail
@[simp] def dAdd : D → D → Res D
  | .int i, .int j => .ok (.int (i + j))
  | .str i, .str j => .when (decide (i.length + j.length ≤ sizeLine)) (.ok (.str (i ++ j)))
  | .tup xs, .tup ys => .when (pureL xs && pureL ys && decide (xs.length + ys.length ≤ sizeLine)) (.ok (.tup (xs ++ ys)))
  | .lst _ xs, .lst _ ys => .when (pureL xs && pureL ys && decide (xs.length + ys.length ≤ sizeLine)) (.ok (.lst true (xs ++ ys)))
  | _, _ => .fail
@[simp] def dSub : D → D → Res D
  | .int i, .int j => .ok (.int (i - j))
  | _, _ => .fail
noncomputable def small (i : Int) : Bool := cdec (-18446744073709551616 < i ∧ i < 18446744073709551616)
@[simp] noncomputable def dMul : D → D → Res D
  | .int i, .int j => .when (small i || small j) (.ok (.int (i * j)))
  | _, _ => .fail
noncomputable def wide (j : Int) : Bool := cdec (j < ((2 ^ 8000 : Nat) : Int))
@[simp] noncomputable def dFdiv : D → D → Res D
  | .int i, .int j => .when (decide (0 < j) && wide j) (.ok (.int (i / j)))
  | _, _ => .fail
@[simp] def dMod : D → D → Res D
  | .int i, .int j => .when (decide (0 < j)) (.ok (.int (i % j)))
  | _, _ => .fail
@[simp] def dPow : D → D → Res D
  | .int i, .int j => .when (decide (0 ≤ j ∧ j ≤ 1000000 ∧ i.natAbs < 2 ^ 64)) (.ok (.int (i ^ j.toNat)))
  | _, _ => .fail
def ltL : List Nat → List Nat → Bool := fun a b => decide (a < b)
@[simp] def dLt : D → D → Res D
  | .int i, .int j => .ok (.bl (decide (i < j)))
  | .str i, .str j => .ok (.bl (decide (i.cps.toList < j.cps.toList)))
  | _, _ => .fail
@[simp] def dLe : D → D → Res D
  | .int i, .int j => .ok (.bl (decide (i ≤ j)))
  | _, _ => .fail
@[simp] def dGt : D → D → Res D
  | .int i, .int j => .ok (.bl (decide (j < i)))
  | _, _ => .fail
@[simp] def dGe : D → D → Res D
  | .int i, .int j => .ok (.bl (decide (j ≤ i)))
  | _, _ => .fail
/-- data without dicts, not too deep -/
def shp (p : PyData) : Bool := p.plain && decide (p.depth ≤ 64)
theorem shp_of {p : PyData} (h : shp p = true) : p.plain = true ∧ p.depth ≤ 64 := by
  unfold shp at h
  rw [Bool.and_eq_true, decide_eq_true_eq] at h
  exact h
@[simp] def dEq (a b : D) : Res D := match a.toPy, b.toPy with
  | some p, some q => .when (shp p && shp q) (.ok (.bl (PyData.eqv p q)))
  | _, _ => .fail
@[simp] def dNe (a b : D) : Res D := match a.toPy, b.toPy with
  | some p, some q => .when (shp p && shp q) (.ok (.bl (!PyData.eqv p q)))
  | _, _ => .fail
@[simp] def isNone : D → Bool
  | .non => true
  | _ => false
@[simp] def dIs : D → D → Res D
  | a, .non => .ok (.bl (isNone a))
  | _, _ => .fail
@[simp] def dIsNot : D → D → Res D
  | a, .non => .ok (.bl (!isNone a))
  | _, _ => .fail

section
variable {X : Cx}
theorem opd_I {f : Value → Value → Sem Value} {k : Int → Int → V} {kd : Int → Int → D} {g : D → D → Res D} (h : OpR X f (rI0 k)) (hk : ∀ i j W H, RepD X.K W H (k i j) (kd i j) []) (hg : ∀ a b d, g a b = .ok d → ∃ i j, a = .int i ∧ b = .int j ∧ d = kd i j) : OpD X f g := by
  refine ⟨_, h, fun W H x y d1 d2 f1 f2 d Q x0 a b e q => ?_⟩
  obtain ⟨i, j, rfl, rfl, rfl⟩ := hg _ _ _ e
  cases a; cases b
  exact ⟨i, j, rfl, rfl, q _ W H [] (New.sc x0 (hk i j W H))⟩
theorem opd_IC {f : Value → Value → Sem Value} {C : Int → Int → Prop} {k : Int → Int → V} {kd : Int → Int → D} {g : D → D → Res D} (h : OpR X f (rI C k)) (hk : ∀ i j W H, RepD X.K W H (k i j) (kd i j) []) (hg : ∀ a b d, g a b = .ok d → ∃ i j, a = .int i ∧ b = .int j ∧ C i j ∧ d = kd i j) : OpD X f g := by
  refine ⟨_, h, fun W H x y d1 d2 f1 f2 d Q x0 a b e q => ?_⟩
  obtain ⟨i, j, rfl, rfl, c, rfl⟩ := hg _ _ _ e
  cases a; cases b
  exact ⟨i, j, rfl, rfl, c, q _ W H [] (New.sc x0 (hk i j W H))⟩
theorem od_sub : OpD X (binaryOp .Sub) dSub := opd_I (kd := fun i j => .int (i - j)) op_sub (fun _ _ _ _ => .int) fun a b d e => by
  unfold dSub at e; split at e <;> cases e; exact ⟨_, _, rfl, rfl, rfl⟩
theorem od_mul : OpD X (binaryOp .Mult) dMul := opd_IC (kd := fun i j => .int (i * j)) op_mul (fun _ _ _ _ => .int) fun a b d e => by
  unfold dMul at e; split at e
  · obtain ⟨h, e⟩ := Res.when_eq e
    cases e
    refine ⟨_, _, rfl, rfl, ?_, rfl⟩
    rcases Bool.or_eq_true_iff.mp h with h | h
    · exact .inl (of_cdec h)
    · exact .inr (of_cdec h)
  · cases e
theorem od_fdiv : OpD X (binaryOp .FloorDiv) dFdiv := opd_IC (kd := fun i j => .int (i / j)) op_fdivW (fun _ _ _ _ => .int) fun a b d e => by
  unfold dFdiv at e; split at e
  · obtain ⟨h, e⟩ := Res.when_eq e
    cases e
    rw [Bool.and_eq_true] at h
    have h1 : (0 : Int) < _ := of_decide_eq_true h.1
    have h2 := of_cdec h.2
    exact ⟨_, _, rfl, rfl, wide_div (b := 8000) h1 (by generalize (2 ^ 8000 : Nat) = N at h2 ⊢; omega) (by decide) (by decide), rfl⟩
  · cases e
theorem od_mod : OpD X (binaryOp .Mod) dMod := opd_IC (kd := fun i j => .int (i % j)) op_mod (fun _ _ _ _ => .int) fun a b d e => by
  unfold dMod at e; split at e
  · obtain ⟨h, e⟩ := Res.when_eq e
    cases e
    exact ⟨_, _, rfl, rfl, of_decide_eq_true h, rfl⟩
  · cases e
theorem od_pow : OpD X (binaryOp .Pow) dPow := opd_IC (kd := fun i j => .int (i ^ j.toNat)) op_pow (fun _ _ _ _ => .int) fun a b d e => by
  unfold dPow at e; split at e
  · obtain ⟨h, e⟩ := Res.when_eq e
    cases e
    have h' := decide_eq_true_eq.mp h
    exact ⟨_, _, rfl, rfl, h', rfl⟩
  · cases e
theorem od_le : OpD X (compareOp .LtE) dLe := opd_I (kd := fun i j => .bl (decide (i ≤ j))) op_le (fun _ _ _ _ => .bl) fun a b d e => by
  unfold dLe at e; split at e <;> cases e; exact ⟨_, _, rfl, rfl, rfl⟩
theorem od_gt : OpD X (compareOp .Gt) dGt := opd_I (kd := fun i j => .bl (decide (j < i))) op_gt (fun _ _ _ _ => .bl) fun a b d e => by
  unfold dGt at e; split at e <;> cases e; exact ⟨_, _, rfl, rfl, rfl⟩
theorem od_ge : OpD X (compareOp .GtE) dGe := opd_I (kd := fun i j => .bl (decide (j ≤ i))) op_ge (fun _ _ _ _ => .bl) fun a b d e => by
  unfold dGe at e; split at e <;> cases e; exact ⟨_, _, rfl, rfl, rfl⟩
theorem od_lt : OpD X (compareOp .Lt) dLt := by
  refine ⟨_, OpR.or op_lt op_lt_str, fun W H x y d1 d2 f1 f2 d Q x0 a b e q => ?_⟩
  unfold dLt at e; split at e
  · cases e; cases a; cases b
    exact .inl ⟨_, _, rfl, rfl, q _ W H [] (New.sc x0 .bl)⟩
  · cases e; cases a; cases b
    exact .inr ⟨_, _, rfl, rfl, q _ W H [] (New.sc x0 .bl)⟩
  · cases e
/-- list + list, wherever they stand -/
def rCatS (K : PySem.W.Frag) : R2 := fun x y H Q => ∃ l b xs zs, x = .ref l ∧ y = .ref b ∧ SqL K H l xs ∧ SqL K H b zs ∧ xs.length + zs.length ≤ sizeLine ∧ ∀ p, H p = none → Q (.ref p) (upd H p (.lst (xs ++ zs)))
theorem op_catS : OpR X (binaryOp .Add) (rCatS X.K) := by
  intro pins s σ H x y v u Q I rx ry h
  obtain ⟨l, b, xs, zs, rfl, rfl, hl, hb, hz, q⟩ := h
  cases rx
  cases ry
  obtain ⟨i1, r1, ⟨⟨c1, dd1, data1, sl1⟩, n1, ho1, hc1, _, hd1⟩, _⟩ := I.list hl
  obtain ⟨i2, r2, ⟨⟨c2, dd2, data2, sl2⟩, n2, ho2, hc2, _, hd2⟩, _⟩ := I.list hb
  simp only at hc1 hd1 hc2 hd2
  subst hc1 hd1 hc2 hd2
  have ea : i1.toArray ++ i2.toArray = (i1 ++ i2).toArray := by simp
  have hlen : i1.toArray.size + i2.toArray.size ≤ sizeLine := by
    rw [List.size_toArray, List.size_toArray, ← r1.length, ← r2.length]
    exact hz
  refine concat_meets ⟨_, ho1, rfl⟩ ⟨_, ho2, rfl⟩ noFill_list_add seq_list_add PySem.F.slot_list_add PySem.F.entry_list_add (PySem.F.args_list_add_2 _ _) (PyProof.Rows.list_addW l b i1.toArray i2.toArray n1 n2 dd1 dd2 sl1 sl2 hlen) ⟨ho1, ho2, ?_⟩
  rw [ea]
  exact ⟨.ref _, _, I.lnew (t' := s.toks) (r1.append r2) (by rw [List.length_append]; exact hz), rfl, q _ I.fresh⟩
theorem od_add : OpD X (binaryOp .Add) dAdd := by
  refine ⟨_, OpR.or op_add (OpR.or op_add_str (OpR.or op_catA op_catS)), fun W H x y d1 d2 f1 f2 d Q x0 a b e q => ?_⟩
  unfold dAdd at e; split at e
  · cases e; cases a; cases b
    exact .inl ⟨_, _, rfl, rfl, q _ W H [] (New.sc x0 .int)⟩
  · obtain ⟨h, e⟩ := Res.when_eq e
    cases e; cases a; cases b
    exact .inr (.inl ⟨_, _, rfl, rfl, of_decide_eq_true h, q _ W H [] (New.sc x0 .str)⟩)
  · obtain ⟨h, e⟩ := Res.when_eq e
    cases e
    simp only [Bool.and_eq_true, decide_eq_true_eq] at h
    obtain ⟨⟨h2, h3⟩, h4⟩ := h
    obtain ⟨a1, vs1, rfl, s1, z1, l1⟩ := a.tupl
    obtain ⟨a2, vs2, rfl, s2, z2, l2⟩ := b.tupl
    obtain rfl := l1.pure h2
    obtain rfl := l2.pure h3
    have l := l1.app l2
    refine .inr (.inr (.inl ⟨a1, a2, vs1, vs2, rfl, rfl, s1, s2, by rw [l1.length, l2.length]; exact h4, fun z => ?_, fun _ z => ?_, fun _ _ p hp => ?_⟩))
    · subst z
      have e2 : _ = [] := List.length_eq_zero_iff.mp l1.length.symm
      subst e2
      rw [List.nil_append] at q
      exact q _ W H [] (New.sc x0 (.tup z2 l2))
    · subst z
      have e2 : _ = [] := List.length_eq_zero_iff.mp l2.length.symm
      subst e2
      rw [List.append_nil] at q
      exact q _ W H [] (New.sc x0 (.tup z1 l1))
    · exact q _ _ _ _ (New.tup x0 hp l)
  · obtain ⟨h, e⟩ := Res.when_eq e
    cases e
    simp only [Bool.and_eq_true, decide_eq_true_eq] at h
    obtain ⟨⟨h2, h3⟩, h4⟩ := h
    obtain ⟨a1, vs1, g1, rfl, s1, l1, _⟩ := a.lst
    obtain ⟨a2, vs2, g2, rfl, s2, l2, _⟩ := b.lst
    obtain rfl := l1.pure h2
    obtain rfl := l2.pure h3
    exact .inr (.inr (.inr ⟨_, _, _, _, rfl, rfl, s1, s2, by rw [l1.length, l2.length]; exact h4, fun p hp => q _ _ _ _ (New.lst x0 hp (l1.app l2))⟩))
  · cases e
def rEqP (K : PySem.W.Frag) : R2 := fun x y H Q => ∃ d e, Dp K H x d ∧ Dp K H y e ∧ shp d = true ∧ shp e = true ∧ Q (.bl (PyData.eqv d e)) H
def rNeP (K : PySem.W.Frag) : R2 := fun x y H Q => ∃ d e, Dp K H x d ∧ Dp K H y e ∧ shp d = true ∧ shp e = true ∧ Q (.bl (!PyData.eqv d e)) H
theorem op_eqP (hu : X.A.units + 64 < cLine) : OpR X (compareOp .Eq) (rEqP X.K) := by
  intro pins s σ H x y v u Q I rx ry h
  obtain ⟨d, e, hd, he, sd, se, q⟩ := h
  obtain ⟨as, r1⟩ := Dp.reads I d x v hd rx
  obtain ⟨bs, r2⟩ := Dp.reads I e y u he ry
  have := (shp_of sd).2
  exact SeqAt.eq_plain r1 r2 (shp_of sd).1 (shp_of se).1 (by omega) ⟨.bl _, H, I, rfl, q⟩
theorem op_neP (hu : X.A.units + 64 < cLine) : OpR X (compareOp .NotEq) (rNeP X.K) := by
  intro pins s σ H x y v u Q I rx ry h
  obtain ⟨d, e, hd, he, sd, se, q⟩ := h
  obtain ⟨as, r1⟩ := Dp.reads I d x v hd rx
  obtain ⟨bs, r2⟩ := Dp.reads I e y u he ry
  have := (shp_of sd).2
  exact SeqAt.ne_plain r1 r2 (shp_of sd).1 (shp_of se).1 (by omega) ⟨.bl _, H, I, rfl, q⟩
theorem od_eq (hu : X.A.units + 64 < cLine) : OpD X (compareOp .Eq) dEq := by
  refine ⟨_, op_eqP hu, fun W H x y d1 d2 f1 f2 d Q x0 a b e q => ?_⟩
  unfold dEq at e; split at e
  · rename_i p p' e1 e2
    obtain ⟨h, e⟩ := Res.when_eq e
    cases e
    rw [Bool.and_eq_true] at h
    exact ⟨p, p', a.dp e1, b.dp e2, h.1, h.2, q _ W H [] (New.sc x0 .bl)⟩
  · cases e
theorem od_ne (hu : X.A.units + 64 < cLine) : OpD X (compareOp .NotEq) dNe := by
  refine ⟨_, op_neP hu, fun W H x y d1 d2 f1 f2 d Q x0 a b e q => ?_⟩
  unfold dNe at e; split at e
  · rename_i p p' e1 e2
    obtain ⟨h, e⟩ := Res.when_eq e
    cases e
    rw [Bool.and_eq_true] at h
    exact ⟨p, p', a.dp e1, b.dp e2, h.1, h.2, q _ W H [] (New.sc x0 .bl)⟩
  · cases e
theorem isNone_rep {K : PySem.W.Frag} {W : Wd} {H : Hp} {x : V} {d : D} {g : List Addr} (h : RepD K W H x d g) : decide (x = .non) = isNone d := by
  cases h <;> simp [isNone]
theorem od_is : OpD X (compareOp .Is) dIs := by
  refine ⟨_, op_isN, fun W H x y d1 d2 f1 f2 d Q x0 a b e q => ?_⟩
  unfold dIs at e; split at e
  · cases e
    cases b
    refine ⟨rfl, ?_⟩
    rw [isNone_rep a]
    exact q _ W H [] (New.sc x0 .bl)
  · cases e
theorem od_isnot : OpD X (compareOp .IsNot) dIsNot := by
  refine ⟨_, op_notN, fun W H x y d1 d2 f1 f2 d Q x0 a b e q => ?_⟩
  unfold dIsNot at e; split at e
  · cases e
    cases b
    refine ⟨rfl, ?_⟩
    rw [isNone_rep a]
    exact q _ W H [] (New.sc x0 .bl)
  · cases e
end
end E
/-! EngD: expressions over operands, argument lists, displays, calls of defs -/
namespace E
open PySem L2

section
variable (K : PySem.W.Frag) (CT : Nat → Addr)
structure PostB (W : Wd) (H : Hp) (σ : L2.St) (fp : List Addr) (v : V) (d : D) (m' : Mem) (W' : Wd) (H' : Hp) (fp' fd : List Addr) : Prop where
  rel : Rel K CT W' H' σ m' fp'
  rep : RepD K W' H' v d fd
  ext : Ext W H W' H' fp
  sub : ∀ a ∈ fp', a ∈ fp ∨ H a = none
def tB' (e : M D) : TE := fun σ H Q => ∃ W m fp d m', Rel K CT W H σ m fp ∧ e m = .ok (d, m') ∧ ∀ v W' H' fp' fd, PostB K CT W H σ fp v d m' W' H' fp' fd → Q v H'
end
def MEB (X : Cx) (CT : Nat → Addr) (e : Expr) (m : M D) : Prop := PE X e (tB' X.K CT m)
def mB (q : MQ D) : M D := fun m => (q m).bind fun d => .ok (d, m)
section
variable {X : Cx} {CT : Nat → Addr} {e a b : Expr} {pos : Pos}
theorem meb_v {q : M D} (h : ME X CT e q) : MEB X CT e q := pe_weak h fun σ H Q ⟨W, m, fp, d, m', rel, e, k⟩ =>
  ⟨W, m, fp, d, m', rel, e, fun v W' H' fp' fd p => k v W' H' fp' fd ⟨p.rel, p.rep, p.ext, fun a z => p.sub a (List.mem_append_left _ z)⟩⟩
theorem meb_q {q : MQ D} (h : MEQ X CT e q) : MEB X CT e (mB q) := pe_weak h fun σ H Q ⟨W, m, fp, d, m', rel, e, k⟩ => by
  obtain ⟨d1, e1, e2⟩ := Res.bind_eq e
  cases e2
  exact ⟨W, m, fp, d, rel, e1, fun v W' H' fd p => k v W' H' fp fd ⟨p.rel, p.rep, p.ext.sub (fun a z => by cases z), fun a z => .inl z⟩⟩

/-! ### two operands -/
def mOp2 (g : D → D → Res D) (ma mb : M D) : M D := fun m => (ma m).bind fun r1 => (mb r1.2).bind fun r2 => (g r1.1 r2.1).bind fun d => .ok (d, r2.2)
def mOpN (g : D → D → Res D) (i : Nat) (mb : M D) : M D := fun m => (mqVar i m).bind fun _ => (mb m).bind fun r2 => (mqVar i r2.2).bind fun d1 => (g d1 r2.1).bind fun d => .ok (d, r2.2)
def mqOp2 (g : D → D → Res D) (qa qb : MQ D) : MQ D := fun m => (qa m).bind fun d1 => (qb m).bind fun d2 => (g d1 d2).bind fun d => Res.when d.pure (.ok d)
theorem fin2 {K : PySem.W.Frag} {W W1 W2 : Wd} {H H1 H2 : Hp} {fp fp1 fd1 : List Addr} {σ : L2.St} {v : V} {d : D} {m1 : Mem} (p : Post K CT W H σ fp v d m1 W1 H1 fp1 fd1) (e : Ext W1 H1 W2 H2 fp1) : RepD K W2 H2 v d fd1 :=
  p.rep.ext e p.rel.off fun a ma mf => by
    have := p.nd
    rw [List.nodup_append] at this
    exact this.2.2 a mf a ma rfl
theorem subT {H H1 : Hp} {fp fp1 fp2 : List Addr} (s1 : ∀ a ∈ fp1, a ∈ fp ∨ H a = none) (s2 : ∀ a ∈ fp2, a ∈ fp1 ∨ H1 a = none) (t : ∀ a, H1 a = none → H a = none) : ∀ a ∈ fp2, a ∈ fp ∨ H a = none := fun a z => by
  rcases s2 a z with y | y
  · exact s1 a y
  · exact .inr (t a y)
/-- the shape of a rule for two operands -/
theorem pe2 {r : R2} {f : Value → Value → Sem Value} {g : D → D → Res D} {ma mb : M D} {t : TE → TE → Prop}
    (hr : ∀ W H x y d1 d2 f1 f2 d Q, Fix W H → RepD X.K W H x d1 f1 → RepD X.K W H y d2 f2 → g d1 d2 = .ok d → (∀ v W' H' fd, New X.K W H v d W' H' fd → Q v H') → r x y H Q) :
    ∀ σ H Q, tM X.K CT (mOp2 g ma mb) σ H Q → tOp r (tM X.K CT ma) (tB' X.K CT mb) σ H Q := fun σ H Q ⟨W, m, fp, d, m', rel, e, k⟩ => by
  obtain ⟨⟨d1, m1⟩, e1, e⟩ := Res.bind_eq e
  obtain ⟨⟨d2, m2⟩, e2, e⟩ := Res.bind_eq e
  obtain ⟨d3, e3, e⟩ := Res.bind_eq e
  cases e
  refine ⟨W, m, fp, d1, m1, rel, e1, fun v1 W1 H1 fp1 fd1 P1 => ⟨W1, m1, fp1, d2, m2, P1.rel, e2, fun v2 W2 H2 fp2 fd2 P2 => ?_⟩⟩
  have s1 : ∀ a ∈ fp1, a ∈ fp ∨ H a = none := fun a z => P1.sub a (List.mem_append_left _ z)
  exact hr W2 H2 v1 v2 d1 d2 fd1 fd2 d Q P2.rel.fix (fin2 P1 P2.ext) P2.rep e3 fun v W' H' fd n => k v W' H' fp2 fd (n.post P2.rel (P1.ext.trans P2.ext s1) (subT s1 P2.sub P1.ext.there))
theorem peN {r : R2} {g : D → D → Res D} {i : Nat} {mb : M D}
    (hr : ∀ W H x y d1 d2 f1 f2 d Q, Fix W H → RepD X.K W H x d1 f1 → RepD X.K W H y d2 f2 → g d1 d2 = .ok d → (∀ v W' H' fd, New X.K W H v d W' H' fd → Q v H') → r x y H Q) :
    ∀ σ H Q, tM X.K CT (mOpN g i mb) σ H Q → tOp r (tVar i) (tB' X.K CT mb) σ H Q := fun σ H Q ⟨W, m, fp, d, m', rel, e, k⟩ => by
  obtain ⟨d0, e0, e⟩ := Res.bind_eq e
  obtain ⟨⟨d2, m2⟩, e2, e⟩ := Res.bind_eq e
  obtain ⟨d1, e1, e⟩ := Res.bind_eq e
  obtain ⟨d3, e3, e⟩ := Res.bind_eq e
  cases e
  obtain ⟨q1, q2⟩ := mqVar_eq e1
  obtain ⟨q3, q4⟩ := mqVar_eq e0
  obtain ⟨v1, hv⟩ : ∃ v, σ[i]? = some (some v) := by
    obtain ⟨f, g, rfl, h1, h2⟩ := rel.s
    obtain ⟨v, _, _, _, _, s, _⟩ := h1.at q3 q4
    exact ⟨v, s⟩
  refine ⟨v1, hv, W, m, fp, d2, m2, rel, e2, fun v2 W2 H2 fp2 fd2 P2 => ?_⟩
  obtain ⟨f, g', rfl, h1, h2⟩ := P2.rel.s
  obtain ⟨v1', A, f1, B, rfl, s, r1, _⟩ := h1.at q1 q2
  rw [hv] at s
  cases s
  exact hr W2 H2 v1 v2 d1 d2 f1 fd2 d Q P2.rel.fix r1 P2.rep e3 fun v W' H' fd n => k v W' H' _ fd (n.post P2.rel P2.ext P2.sub)
theorem peQ {r : R2} {g : D → D → Res D} {qa qb : MQ D}
    (hr : ∀ W H x y d1 d2 f1 f2 d Q, Fix W H → RepD X.K W H x d1 f1 → RepD X.K W H y d2 f2 → g d1 d2 = .ok d → (∀ v W' H' fd, New X.K W H v d W' H' fd → Q v H') → r x y H Q) :
    ∀ σ H Q, tQ X.K CT (mqOp2 g qa qb) σ H Q → tOp r (tQ X.K CT qa) (tQ X.K CT qb) σ H Q := fun σ H Q ⟨W, m, fp, d, rel, e, k⟩ => by
  obtain ⟨d1, e1, e⟩ := Res.bind_eq e
  obtain ⟨d2, e2, e⟩ := Res.bind_eq e
  obtain ⟨d3, e3, e⟩ := Res.bind_eq e
  obtain ⟨p, e⟩ := Res.when_eq e
  cases e
  refine ⟨W, m, fp, d1, rel, e1, fun v1 W1 H1 fd1 P1 => ⟨W1, m, fp, d2, P1.rel, e2, fun v2 W2 H2 fd2 P2 => ?_⟩⟩
  exact hr W2 H2 v1 v2 d1 d2 fd1 fd2 d Q P2.rel.fix (P1.rep.ext P2.ext off_nil fun a _ z => by cases z) P2.rep e3 fun v W' H' fd n => k v W' H' [] (n.postQ p P2.rel (P1.ext.trans P2.ext fun a z => by cases z))
/-- both looked at, the value may be a new list -/
def mOpQ (g : D → D → Res D) (qa qb : MQ D) : M D := fun m => (qa m).bind fun d1 => (qb m).bind fun d2 => (g d1 d2).bind fun d => .ok (d, m)
theorem peQV {r : R2} {g : D → D → Res D} {qa qb : MQ D}
    (hr : ∀ W H x y d1 d2 f1 f2 d Q, Fix W H → RepD X.K W H x d1 f1 → RepD X.K W H y d2 f2 → g d1 d2 = .ok d → (∀ v W' H' fd, New X.K W H v d W' H' fd → Q v H') → r x y H Q) :
    ∀ σ H Q, tM X.K CT (mOpQ g qa qb) σ H Q → tOp r (tQ X.K CT qa) (tQ X.K CT qb) σ H Q := fun σ H Q ⟨W, m, fp, d, m', rel, e, k⟩ => by
  obtain ⟨d1, e1, e⟩ := Res.bind_eq e
  obtain ⟨d2, e2, e⟩ := Res.bind_eq e
  obtain ⟨d3, e3, e⟩ := Res.bind_eq e
  cases e
  refine ⟨W, m, fp, d1, rel, e1, fun v1 W1 H1 fd1 P1 => ⟨W1, m, fp, d2, P1.rel, e2, fun v2 W2 H2 fd2 P2 => ?_⟩⟩
  exact hr W2 H2 v1 v2 d1 d2 fd1 fd2 d Q P2.rel.fix (P1.rep.ext P2.ext off_nil fun a _ z => by cases z) P2.rep e3 fun v W' H' fd n => k v W' H' _ fd (n.post P2.rel ((P1.ext.trans P2.ext fun a z => by cases z).sub fun a z => by cases z) fun a z => .inl z)

/-! the operators in the text -/
variable {op : Operator} {cop : CmpOp} {g : D → D → Res D} {ma mb : M D} {qa qb : MQ D} {i : Nat}
theorem me_bin (o : OpD X (binaryOp op) g) (ha : ME X CT a ma) (hb : MEB X CT b mb) : ME X CT (.BinOp a op b pos) (mOp2 g ma mb) := by
  obtain ⟨r, h, k⟩ := o
  exact pe_weak (pe_op h ha hb) (pe2 (t := fun _ _ => True) (f := binaryOp op) k)
theorem me_binN (o : OpD X (binaryOp op) g) (ha : PE X a (tVar i)) (hb : MEB X CT b mb) : ME X CT (.BinOp a op b pos) (mOpN g i mb) := by
  obtain ⟨r, h, k⟩ := o
  exact pe_weak (pe_op h ha hb) (peN k)
theorem me_binQ (o : OpD X (binaryOp op) g) (ha : MEQ X CT a qa) (hb : MEQ X CT b qb) : ME X CT (.BinOp a op b pos) (mOpQ g qa qb) := by
  obtain ⟨r, h, k⟩ := o
  exact pe_weak (pe_op h ha hb) (peQV k)
theorem meq_bin (o : OpD X (binaryOp op) g) (ha : MEQ X CT a qa) (hb : MEQ X CT b qb) : MEQ X CT (.BinOp a op b pos) (mqOp2 g qa qb) := by
  obtain ⟨r, h, k⟩ := o
  exact pe_weak (pe_op h ha hb) (peQ k)
theorem me_cmp (o : OpD X (compareOp cop) g) (ha : ME X CT a ma) (hb : MEB X CT b mb) (hm : behindInMarks cop b = false) : ME X CT (.Compare a [cop] [b] pos) (mOp2 g ma mb) := by
  obtain ⟨r, h, k⟩ := o
  exact pe_weak (pe_cmpR h ha hb hm) (pe2 (t := fun _ _ => True) (f := compareOp cop) k)
theorem me_cmpN (o : OpD X (compareOp cop) g) (ha : PE X a (tVar i)) (hb : MEB X CT b mb) (hm : behindInMarks cop b = false) : ME X CT (.Compare a [cop] [b] pos) (mOpN g i mb) := by
  obtain ⟨r, h, k⟩ := o
  exact pe_weak (pe_cmpR h ha hb hm) (peN k)
theorem meq_cmp (o : OpD X (compareOp cop) g) (ha : MEQ X CT a qa) (hb : MEQ X CT b qb) (hm : behindInMarks cop b = false) : MEQ X CT (.Compare a [cop] [b] pos) (mqOp2 g qa qb) := by
  obtain ⟨r, h, k⟩ := o
  exact pe_weak (pe_cmpR h ha hb hm) (peQ k)

/-! ### tests -/
end
section
variable (K : PySem.W.Frag) (CT : Nat → Addr)
/-- a test -/
structure PostT (W : Wd) (H : Hp) (σ : L2.St) (fp : List Addr) (m' : Mem) (W' : Wd) (H' : Hp) (fp' : List Addr) : Prop where
  rel : Rel K CT W' H' σ m' fp'
  ext : Ext W H W' H' fp
  sub : ∀ a ∈ fp', a ∈ fp ∨ H a = none
def tT (e : M Bool) : TT := fun σ H Q => ∃ W m fp b m', Rel K CT W H σ m fp ∧ e m = .ok (b, m') ∧ ∀ W' H' fp', PostT K CT W H σ fp m' W' H' fp' → Q b H'
end
def MT (X : Cx) (CT : Nat → Addr) (e : Expr) (m : M Bool) : Prop := PT X e (tT X.K CT m)
def MW (X : Cx) (CT : Nat → Addr) (e : Expr) (m : M Bool) : Prop := PW X e (tT X.K CT m)
/-- a truth value as such -/
@[simp] def D.isB : D → Res Bool
  | .bl b => .ok b
  | _ => .fail
/-- a thing's truth -/
@[simp] def D.tru : D → Res Bool
  | .non => .ok false
  | .bl b => .ok b
  | .int i => .ok (i != 0)
  | .str y => .when (decide (y.length ≤ sizeLine)) (.ok ((y.length : Int) != 0))
  | .lst _ xs => .ok (!xs.isEmpty)
  | .tup xs => .ok (!xs.isEmpty)
  | _ => .fail
def mtB (e : M D) : M Bool := fun m => (e m).bind fun r => r.1.isB.bind fun b => .ok (b, r.2)
def mtV (e : M D) : M Bool := fun m => (e m).bind fun r => r.1.tru.bind fun b => .ok (b, r.2)
def mtAnd (a b : M Bool) : M Bool := fun m => (a m).bind fun r => if r.1 = true then b r.2 else .ok (false, r.2)
def mtOr (a b : M Bool) : M Bool := fun m => (a m).bind fun r => if r.1 = true then .ok (true, r.2) else b r.2
def mtNot (a : M Bool) : M Bool := fun m => (a m).bind fun r => .ok (!r.1, r.2)
section
variable {X : Cx} {CT : Nat → Addr} {e a b : Expr} {pos : Pos} {op : Operator} {cop : CmpOp} {g : D → D → Res D} {ma mb : M D} {qa qb : MQ D} {i : Nat}
theorem isB_rep {K : PySem.W.Frag} {W : Wd} {H : Hp} {x : V} {d : D} {f : List Addr} {c : Bool} (h : RepD K W H x d f) (e : d.isB = .ok c) : x = .bl c := by
  cases h <;> simp [D.isB] at e
  subst e; rfl
theorem isEmpty_rep {K : PySem.W.Frag} {W : Wd} {H : Hp} {vs : List V} {ds : List D} {f : List Addr} (h : RepL K W H vs ds f) : vs.isEmpty = ds.isEmpty := by
  cases h <;> rfl
theorem tru_rep {K : PySem.W.Frag} {W : Wd} {H : Hp} {x : V} {d : D} {f : List Addr} {c : Bool} (h : RepD K W H x d f) (e : d.tru = .ok c) : TruV K x H c := by
  cases h with
  | non => cases e; rfl
  | bl => cases e; rfl
  | int => cases e; rfl
  | str =>
    obtain ⟨h, e⟩ := Res.when_eq e
    cases e
    exact ⟨of_decide_eq_true h, rfl⟩
  | loc h => cases e
  | ty => cases e
  | tup h l =>
    cases e
    refine .inr (.inl ⟨_, h.sq, ?_⟩)
    rw [isEmpty_rep l]
  | lstF h l =>
    cases e
    refine .inl ⟨_, h.sq, ?_⟩
    rw [isEmpty_rep l]
  | lstO h l =>
    cases e
    refine .inl ⟨_, .inl (.inl h), ?_⟩
    rw [isEmpty_rep l]
  | dkF => cases e
  | dtF => cases e
  | dkO => cases e
  | dtO => cases e
/-- a comparison as a test -/
theorem mt_cmp (o : OpD X (compareOp cop) g) (ha : ME X CT a ma) (hb : MEB X CT b mb) (hm : behindInMarks cop b = false) : MT X CT (.Compare a [cop] [b] pos) (mtB (mOp2 g ma mb)) := by
  obtain ⟨r, h, k⟩ := o
  refine pt_weak (pt_cmpR h ha hb hm) fun σ H Q ⟨W, m, fp, c, m', rel, e, q⟩ => ?_
  obtain ⟨⟨d, m1⟩, e1, e⟩ := Res.bind_eq e
  obtain ⟨c', e2, e⟩ := Res.bind_eq e
  cases e
  refine pe2 (t := fun _ _ => True) (f := compareOp cop) k σ H _ ⟨W, m, fp, d, _, rel, e1, fun v W' H' fp' fd p => ?_⟩
  exact ⟨c, isB_rep p.rep e2, q W' H' fp' ⟨p.rel, p.ext, fun a z => p.sub a (List.mem_append_left _ z)⟩⟩
theorem mt_cmpN (o : OpD X (compareOp cop) g) (ha : PE X a (tVar i)) (hb : MEB X CT b mb) (hm : behindInMarks cop b = false) : MT X CT (.Compare a [cop] [b] pos) (mtB (mOpN g i mb)) := by
  obtain ⟨r, h, k⟩ := o
  refine pt_weak (pt_cmpR h ha hb hm) fun σ H Q ⟨W, m, fp, c, m', rel, e, q⟩ => ?_
  obtain ⟨⟨d, m1⟩, e1, e⟩ := Res.bind_eq e
  obtain ⟨c', e2, e⟩ := Res.bind_eq e
  cases e
  refine peN k σ H _ ⟨W, m, fp, d, _, rel, e1, fun v W' H' fp' fd p => ?_⟩
  exact ⟨c, isB_rep p.rep e2, q W' H' fp' ⟨p.rel, p.ext, fun a z => p.sub a (List.mem_append_left _ z)⟩⟩
theorem mt_cmpQ (o : OpD X (compareOp cop) g) (ha : MEQ X CT a qa) (hb : MEQ X CT b qb) (hm : behindInMarks cop b = false) : MT X CT (.Compare a [cop] [b] pos) (mtB (mOpQ g qa qb)) := by
  obtain ⟨r, h, k⟩ := o
  refine pt_weak (pt_cmpR h ha hb hm) fun σ H Q ⟨W, m, fp, c, m', rel, e, q⟩ => ?_
  obtain ⟨⟨d, m1⟩, e1, e⟩ := Res.bind_eq e
  obtain ⟨c', e2, e⟩ := Res.bind_eq e
  cases e
  refine peQV k σ H _ ⟨W, m, fp, d, _, rel, e1, fun v W' H' fp' fd p => ?_⟩
  exact ⟨c, isB_rep p.rep e2, q W' H' fp' ⟨p.rel, p.ext, fun a z => p.sub a (List.mem_append_left _ z)⟩⟩
/-- any other expression as a test: its truth -/
theorem mt_v (ha : MEB X CT a ma) (he : ∀ whole, isTrue a X.env whole = (do let v ← whole; standAt a.pos; holding [v] (truthy v)) := by intro _; rfl) : MT X CT a (mtV ma) :=
  pt_weak (pt_truth ha he) fun σ H Q ⟨W, m, fp, c, m', rel, e, q⟩ => by
    obtain ⟨⟨d, m1⟩, e1, e⟩ := Res.bind_eq e
    obtain ⟨c', e2, e⟩ := Res.bind_eq e
    cases e
    exact ⟨W, m, fp, d, _, rel, e1, fun v W' H' fp' fd p => ⟨c, tru_rep p.rep e2, q W' H' fp' ⟨p.rel, p.ext, p.sub⟩⟩⟩
end
end E
/-! EngE: and, or, not, conditional expressions, chains, subscripts, slices -/
namespace E
open PySem L2
section
variable {X : Cx} {CT : Nat → Addr} {e a b c : Expr} {rest : List Expr} {pos : Pos} {op : Operator} {cop : CmpOp} {g : D → D → Res D} {ma mb : M D} {qa qb qc : MQ D} {ta tb : M Bool} {i : Nat}
theorem PostT.trans {K : PySem.W.Frag} {W W1 W2 : Wd} {H H1 H2 : Hp} {fp fp1 fp2 : List Addr} {σ : L2.St} {m1 m2 : Mem} (p : PostT K CT W H σ fp m1 W1 H1 fp1) (q : PostT K CT W1 H1 σ fp1 m2 W2 H2 fp2) : PostT K CT W H σ fp m2 W2 H2 fp2 :=
  ⟨q.rel, p.ext.trans q.ext p.sub, subT p.sub q.sub p.ext.there⟩
theorem PostT.post {K : PySem.W.Frag} {W W1 W2 : Wd} {H H1 H2 : Hp} {fp fp1 fp2 fd : List Addr} {σ : L2.St} {m1 m2 : Mem} {v : V} {d : D} (p : PostT K CT W H σ fp m1 W1 H1 fp1) (q : Post K CT W1 H1 σ fp1 v d m2 W2 H2 fp2 fd) : Post K CT W H σ fp v d m2 W2 H2 fp2 fd :=
  ⟨q.rel, q.rep, q.nd, q.own, p.ext.trans q.ext p.sub, subT p.sub q.sub p.ext.there⟩
theorem Post.t {K : PySem.W.Frag} {W W1 : Wd} {H H1 : Hp} {fp fp1 fd : List Addr} {σ : L2.St} {m1 : Mem} {v : V} {d : D} (p : Post K CT W H σ fp v d m1 W1 H1 fp1 fd) : PostT K CT W H σ fp m1 W1 H1 fp1 :=
  ⟨p.rel, p.ext, fun a z => p.sub a (List.mem_append_left _ z)⟩
theorem PostT.postB {K : PySem.W.Frag} {W W1 W2 : Wd} {H H1 H2 : Hp} {fp fp1 fp2 fd : List Addr} {σ : L2.St} {m1 m2 : Mem} {v : V} {d : D} (p : PostT K CT W H σ fp m1 W1 H1 fp1) (q : PostB K CT W1 H1 σ fp1 v d m2 W2 H2 fp2 fd) : PostB K CT W H σ fp v d m2 W2 H2 fp2 fd :=
  ⟨q.rel, q.rep, p.ext.trans q.ext p.sub, subT p.sub q.sub p.ext.there⟩
theorem mw_and1 (h : MT X CT a ta) : MW X CT (.BoolOp .And [a] pos) ta := pw_and1 h
theorem mw_or1 (h : MT X CT a ta) : MW X CT (.BoolOp .Or [a] pos) ta := pw_or1 h
theorem mw_and (ha : MT X CT a ta) (hb : MW X CT (.BoolOp .And (b :: rest) pos) tb) : MW X CT (.BoolOp .And (a :: b :: rest) pos) (mtAnd ta tb) :=
  pw_weak (pw_and ha hb) fun σ H Q ⟨W, m, fp, c, m', rel, e, q⟩ => by
    obtain ⟨⟨c1, m1⟩, e1, e⟩ := Res.bind_eq e
    refine ⟨W, m, fp, c1, m1, rel, e1, fun W1 H1 fp1 p => ?_⟩
    cases c1 with
    | true =>
      refine iteT ⟨W1, m1, fp1, c, m', p.rel, e, fun W2 H2 fp2 p2 => q W2 H2 fp2 (p.trans p2)⟩
    | false =>
      cases e
      exact iteF (q W1 H1 fp1 p)
theorem mw_or (ha : MT X CT a ta) (hb : MW X CT (.BoolOp .Or (b :: rest) pos) tb) : MW X CT (.BoolOp .Or (a :: b :: rest) pos) (mtOr ta tb) :=
  pw_weak (pw_or ha hb) fun σ H Q ⟨W, m, fp, c, m', rel, e, q⟩ => by
    obtain ⟨⟨c1, m1⟩, e1, e⟩ := Res.bind_eq e
    refine ⟨W, m, fp, c1, m1, rel, e1, fun W1 H1 fp1 p => ?_⟩
    cases c1 with
    | false =>
      refine iteF ⟨W1, m1, fp1, c, m', p.rel, e, fun W2 H2 fp2 p2 => q W2 H2 fp2 (p.trans p2)⟩
    | true =>
      cases e
      exact iteT (q W1 H1 fp1 p)
theorem mt_w (h : MW X CT a ta) : MT X CT a ta := h.pt
theorem mt_not (h : MT X CT a ta) : MT X CT (.UnaryOp .Not a pos) (mtNot ta) :=
  pt_weak (pt_not h) fun σ H Q ⟨W, m, fp, c, m', rel, e, q⟩ => by
    obtain ⟨⟨c1, m1⟩, e1, e⟩ := Res.bind_eq e
    cases e
    exact ⟨W, m, fp, c1, m1, rel, e1, fun W1 H1 fp1 p => q W1 H1 fp1 p⟩

/-! values -/
def mAnd (a b : M D) : M D := fun m => (a m).bind fun r => r.1.isB.bind fun c => if c = true then b r.2 else .ok (.bl false, r.2)
def mOr (a b : M D) : M D := fun m => (a m).bind fun r => r.1.isB.bind fun c => if c = true then .ok (.bl true, r.2) else b r.2
def mNot (a : M D) : M D := fun m => (a m).bind fun r => r.1.isB.bind fun c => .ok (.bl (!c), r.2)
def mIf (t : M Bool) (a b : M D) : M D := fun m => (t m).bind fun r => if r.1 = true then a r.2 else b r.2
theorem Post.bl {K : PySem.W.Frag} {W W1 : Wd} {H H1 : Hp} {fp fp1 fd : List Addr} {σ : L2.St} {m1 : Mem} {v : V} {d : D} (p : Post K CT W H σ fp v d m1 W1 H1 fp1 fd) {v' : V} {d' : D} (r : RepD K W1 H1 v' d' []) : Post K CT W H σ fp v' d' m1 W1 H1 fp1 [] :=
  p.t.post (Post.mk0 p.rel r)
theorem me_one {op} (h : ME X CT a ma) : ME X CT (.BoolOp op [a] pos) ma := pe_one h
theorem me_and (ha : ME X CT a ma) (hb : ME X CT (.BoolOp .And (b :: rest) pos) mb) : ME X CT (.BoolOp .And (a :: b :: rest) pos) (mAnd ma mb) :=
  pe_weak (pe_and ha hb) fun σ H Q ⟨W, m, fp, d, m', rel, e, q⟩ => by
    obtain ⟨⟨d1, m1⟩, e1, e⟩ := Res.bind_eq e
    obtain ⟨c, e2, e⟩ := Res.bind_eq e
    refine ⟨W, m, fp, d1, m1, rel, e1, fun v1 W1 H1 fp1 fd1 p => ⟨c, isB_rep p.rep e2, ?_⟩⟩
    cases c with
    | true => exact iteT ⟨W1, m1, fp1, d, m', p.rel, e, fun v2 W2 H2 fp2 fd2 p2 => q v2 W2 H2 fp2 fd2 (p.t.post p2)⟩
    | false =>
      cases e
      exact iteF (q _ W1 H1 fp1 [] (p.bl .bl))
theorem me_or (ha : ME X CT a ma) (hb : ME X CT (.BoolOp .Or (b :: rest) pos) mb) : ME X CT (.BoolOp .Or (a :: b :: rest) pos) (mOr ma mb) :=
  pe_weak (pe_or ha hb) fun σ H Q ⟨W, m, fp, d, m', rel, e, q⟩ => by
    obtain ⟨⟨d1, m1⟩, e1, e⟩ := Res.bind_eq e
    obtain ⟨c, e2, e⟩ := Res.bind_eq e
    refine ⟨W, m, fp, d1, m1, rel, e1, fun v1 W1 H1 fp1 fd1 p => ⟨c, isB_rep p.rep e2, ?_⟩⟩
    cases c with
    | false => exact iteF ⟨W1, m1, fp1, d, m', p.rel, e, fun v2 W2 H2 fp2 fd2 p2 => q v2 W2 H2 fp2 fd2 (p.t.post p2)⟩
    | true =>
      cases e
      exact iteT (q _ W1 H1 fp1 [] (p.bl .bl))
theorem me_not (ha : ME X CT a ma) : ME X CT (.UnaryOp .Not a pos) (mNot ma) :=
  pe_weak (pe_not ha) fun σ H Q ⟨W, m, fp, d, m', rel, e, q⟩ => by
    obtain ⟨⟨d1, m1⟩, e1, e⟩ := Res.bind_eq e
    obtain ⟨c, e2, e⟩ := Res.bind_eq e
    cases e
    exact ⟨W, m, fp, d1, m1, rel, e1, fun v1 W1 H1 fp1 fd1 p => ⟨c, isB_rep p.rep e2, q _ W1 H1 fp1 [] (p.bl .bl)⟩⟩
theorem me_if (hc : MT X CT c ta) (ha : ME X CT a ma) (hb : ME X CT b mb) : ME X CT (.IfExp c a b pos) (mIf ta ma mb) :=
  pe_weak (pe_ifExp hc ha hb) fun σ H Q ⟨W, m, fp, d, m', rel, e, q⟩ => by
    obtain ⟨⟨c1, m1⟩, e1, e⟩ := Res.bind_eq e
    refine ⟨W, m, fp, c1, m1, rel, e1, fun W1 H1 fp1 p => ?_⟩
    cases c1 with
    | true => exact iteT ⟨W1, m1, fp1, d, m', p.rel, e, fun v2 W2 H2 fp2 fd2 p2 => q v2 W2 H2 fp2 fd2 (p.post p2)⟩
    | false => exact iteF ⟨W1, m1, fp1, d, m', p.rel, e, fun v2 W2 H2 fp2 fd2 p2 => q v2 W2 H2 fp2 fd2 (p.post p2)⟩

/-! ### one operand -/
def UnD (X : Cx) (f : Value → Sem Value) (g : D → Res D) : Prop :=
  ∃ r : V → Hp → VK → Prop, UnR X f r ∧ ∀ W H x d1 f1 d Q, Fix W H → RepD X.K W H x d1 f1 → g d1 = .ok d → (∀ v W' H' fd, New X.K W H v d W' H' fd → Q v H') → r x H Q
def mOp1 (g : D → Res D) (ma : M D) : M D := fun m => (ma m).bind fun r => (g r.1).bind fun d => .ok (d, r.2)
def mqOp1 (g : D → Res D) (qa : MQ D) : MQ D := fun m => (qa m).bind fun d1 => (g d1).bind fun d => Res.when d.pure (.ok d)
@[simp] def dNeg : D → Res D
  | .int i => .ok (.int (-i))
  | _ => .fail
theorem ud_neg : UnD X (unaryOp .USub) dNeg := ⟨_, un_neg, fun W H x d1 f1 d Q x0 a e k => by
  cases a <;> simp [dNeg] at e
  subst e
  exact ⟨_, rfl, k _ W H [] (New.sc x0 .int)⟩⟩
theorem me_un {op : UnaryOp} {g : D → Res D} (o : UnD X (unaryOp op) g) (ha : MEB X CT a ma) : ME X CT (.UnaryOp op a pos) (mOp1 g ma) := by
  obtain ⟨r, h, k⟩ := o
  refine pe_weak (pe_un h ha) fun σ H Q ⟨W, m, fp, d, m', rel, e, q⟩ => ?_
  obtain ⟨⟨d1, m1⟩, e1, e⟩ := Res.bind_eq e
  obtain ⟨d2, e2, e⟩ := Res.bind_eq e
  cases e
  exact ⟨W, m, fp, d1, _, rel, e1, fun v1 W1 H1 fp1 fd1 p => k W1 H1 v1 d1 fd1 d _ p.rel.fix p.rep e2 fun v W' H' fd n => q v W' H' fp1 fd (n.post p.rel p.ext p.sub)⟩
theorem meq_un {op : UnaryOp} {g : D → Res D} (o : UnD X (unaryOp op) g) (ha : MEQ X CT a qa) : MEQ X CT (.UnaryOp op a pos) (mqOp1 g qa) := by
  obtain ⟨r, h, k⟩ := o
  refine pe_weak (pe_un h ha) fun σ H Q ⟨W, m, fp, d, rel, e, q⟩ => ?_
  obtain ⟨d1, e1, e⟩ := Res.bind_eq e
  obtain ⟨d2, e2, e⟩ := Res.bind_eq e
  obtain ⟨p0, e⟩ := Res.when_eq e
  cases e
  exact ⟨W, m, fp, d1, rel, e1, fun v1 W1 H1 fd1 p => k W1 H1 v1 d1 fd1 d _ p.rel.fix p.rep e2 fun v W' H' fd n => q v W' H' [] (n.postQ p0 p.rel p.ext)⟩

/-! ### dicts of ints and texts -/
@[simp] def toKey : D → Option Key
  | .int i => some (.inl i)
  | .str x => some (.inr x)
  | _ => none
theorem toKey_kD (k : Key) : toKey (kD k) = some k := by cases k <;> rfl
/-- what stands at a key -/
def valD : List (D × D) → Key → Option D
  | [], _ => none
  | (q, d) :: r, k => if toKey q = some k then some d else valD r k
theorem valD_rep {K : PySem.W.Frag} {W : Wd} {H : Hp} : ∀ {kvs : List (Key × V)} {dd : List (D × D)} {f : List Addr}, kvs.map (fun p => kD p.1) = dd.map (·.1) → RepL K W H (kvs.map (·.2)) (dd.map (·.2)) f → ∀ k : Key,
    (valD dd k = none ∧ valV kvs k = none) ∨ ∃ d v f', valD dd k = some d ∧ valV kvs k = some v ∧ RepD K W H v d f' ∧ ∀ a ∈ f', a ∈ f
  | [], [], _, _, _, k => .inl ⟨rfl, rfl⟩
  | [], _ :: _, _, h, _, _ => by cases h
  | _ :: _, [], _, h, _, _ => by cases h
  | (q, v) :: kvs, (p, d) :: dd, _, h, l, k => by
    rw [List.map_cons, List.map_cons] at h
    injection h with h1 h2
    have h1 : kD q = p := h1
    subst h1
    rw [List.map_cons, List.map_cons] at l
    cases l with
    | @cons _ _ f0 _ _ g r l =>
      by_cases e : q = k
      · subst e
        refine .inr ⟨d, v, f0, ?_, valV_pos rfl, r, fun a m => List.mem_append_left _ m⟩
        rw [valD, if_pos (toKey_kD q)]
      · rw [valD, if_neg (by rw [toKey_kD]; exact fun z => e (Option.some.inj z)), valV_neg (p := (q, v)) e]
        rcases valD_rep h2 l k with n | ⟨d', v', f', e1, e2, r', s⟩
        · exact .inl n
        · exact .inr ⟨d', v', f', e1, e2, r', fun a m => List.mem_append_right _ (s a m)⟩
theorem RepD.dict {K : PySem.W.Frag} {W : Wd} {H : Hp} {x : V} {o : Bool} {dd : List (D × D)} {f : List Addr} (r : RepD K W H x (.dic o false dd) f) :
    ∃ a kvs f', x = .ref a ∧ H a = some (.dK kvs) ∧ kvs.map (fun p => kD p.1) = dd.map (·.1) ∧ RepL K W H (kvs.map (·.2)) (dd.map (·.2)) f' ∧ ∀ b ∈ f', b ∈ f := by
  cases r with
  | dkF _ h k l => exact ⟨_, _, _, rfl, h, k, l, fun b m => by cases m⟩
  | dkO h k l => exact ⟨_, _, _, rfl, h, k, l, fun b m => List.mem_cons_of_mem _ m⟩
theorem key_rep {K : PySem.W.Frag} {W : Wd} {H : Hp} {y : V} {d : D} {f : List Addr} {k : Key} (r : RepD K W H y d f) (e : toKey d = some k) : y = kV k := by
  cases r <;> simp at e
  · subst e; rfl
  · subst e; rfl
/-- what a dict has at a key, by the data -/
theorem dget_rep {K : PySem.W.Frag} {W : Wd} {H : Hp} {x y : V} {o : Bool} {dd : List (D × D)} {d2 : D} {f f2 : List Addr} {k : Key} (a : RepD K W H x (.dic o false dd) f) (b : RepD K W H y d2 f2) (e : toKey d2 = some k) :
    ∃ p, x = .ref p ∧ ((valD dd k = none ∧ DGet H p y none) ∨ ∃ d v f', valD dd k = some d ∧ DGet H p y (some v) ∧ RepD K W H v d f' ∧ ∀ a ∈ f', a ∈ f) := by
  obtain ⟨p, kvs, f', rfl, h, hk, l, s⟩ := a.dict
  obtain rfl := key_rep b e
  refine ⟨p, rfl, ?_⟩
  rcases valD_rep hk l k with ⟨n1, n2⟩ | ⟨d, v, f0, e1, e2, r, s0⟩
  · exact .inl ⟨n1, by rw [← n2]; exact DGet.k h⟩
  · exact .inr ⟨d, v, f0, e1, by rw [← e2]; exact DGet.k h, r, fun a m => s a (s0 a m)⟩
def rIxD : R2 := fun x y H Q => ∃ a v, x = .ref a ∧ DGet H a y (some v) ∧ Q v H
theorem ix_dic {X : Cx} (hu : X.A.units + 64 < cLine) : IxR X rIxD := by
  intro value slice pins s σ H x y v u Q I rx ry h hs
  obtain ⟨a, z, rfl, g, q⟩ := h
  obtain rfl : v = Value.ref a := rx
  exact PyProof.Rows.tail_any (dict_typeIs I g) PySem.F.slot_dict_getitem.lookup (d_getItem (by omega) I g ry fun w' s3 I3 rw' => ⟨z, H, I3, rw', q⟩) hs
/-! ### subscripts: an item of what is looked at -/
@[simp] def dIx : D → D → Res D
  | .lst _ xs, .int i => Res.of (atI xs i)
  | .tup xs, .int i => Res.of (atI xs i)
  | .str z, .int i => Res.when (decide (z.length ≤ sizeLine)) ((Res.of (atI z.cps.toList i)).bind fun c => .ok (.str ⟨#[c]⟩))
  | .dic _ false dd, k => (Res.of (toKey k)).bind fun q => Res.of (valD dd q)
  | _, _ => .fail
theorem atI_rep {K : PySem.W.Frag} {W : Wd} {H : Hp} {vs : List V} {ds : List D} {g : List Addr} (l : RepL K W H vs ds g) {i : Int} {d : D} (e : atI ds i = some d) : ∃ v f, atI vs i = some v ∧ RepD K W H v d f ∧ ∀ a ∈ f, a ∈ g := by
  unfold atI at e ⊢
  rw [l.length]
  cases h : ixN ds.length i with
  | none => rw [h] at e; cases e
  | some j =>
    rw [h] at e
    obtain ⟨v, f, h1, h2, h3⟩ := l.get e
    exact ⟨v, f, h1, h2, h3⟩
theorem ix_rep {W : Wd} {H : Hp} {x y : V} {d1 d2 d : D} {f1 f2 : List Addr} {Q : VK} (a : RepD X.K W H x d1 f1) (b : RepD X.K W H y d2 f2) (e : dIx d1 d2 = .ok d) (k : ∀ v f, RepD X.K W H v d f → (∀ a ∈ f, a ∈ f1) → Q v H) : ((rIxL X.K x y H Q ∨ rIxT X.K x y H Q) ∨ rIxS x y H Q) ∨ rIxD x y H Q := by
  unfold dIx at e; split at e
  · have e := Res.of_eq e
    cases b
    obtain ⟨p, vs, g', rfl, s, l, sb⟩ := a.lst
    obtain ⟨v, f, h1, h2, h3⟩ := atI_rep l e
    exact .inl (.inl (.inl ⟨p, vs, _, v, rfl, rfl, s, h1, k v f h2 fun a m => sb a (h3 a m)⟩))
  · have e := Res.of_eq e
    cases b
    obtain ⟨p, vs, rfl, s, z, l⟩ := a.tupl
    obtain ⟨v, f, h1, h2, h3⟩ := atI_rep l e
    exact .inl (.inl (.inr ⟨p, vs, _, v, rfl, rfl, s, h1, k v f h2 h3⟩))
  · obtain ⟨hl, e⟩ := Res.when_eq e
    obtain ⟨c, e1, e⟩ := Res.bind_eq e
    cases e
    cases a
    cases b
    exact .inl (.inr ⟨_, _, c, rfl, rfl, of_decide_eq_true hl, Res.of_eq e1, k _ [] .str fun a m => nomatch m⟩)
  · obtain ⟨q, e1, e⟩ := Res.bind_eq e
    obtain ⟨p, rfl, g⟩ := dget_rep a b (Res.of_eq e1)
    have e := Res.of_eq e
    rcases g with ⟨n, _⟩ | ⟨d', v, f', e2, g, r, s⟩
    · rw [n] at e; cases e
    · rw [e2] at e
      cases e
      exact .inr ⟨p, v, rfl, g, k v f' r s⟩
  · cases e
def mqIx (qa qb : MQ D) : MQ D := fun m => (qa m).bind fun d1 => (qb m).bind fun d2 => dIx d1 d2
theorem meq_ix (hu : X.A.units + 64 < cLine) (ha : MEQ X CT a qa) (hb : MEQ X CT b qb) (hs : PlainIx b) : MEQ X CT (.Subscript a b pos) (mqIx qa qb) :=
  pe_weak (pe_ix (((ix_list.or ix_tup).or ix_str).or (ix_dic hu)) ha hb hs) fun σ H Q ⟨W, m, fp, d, rel, e, q⟩ => by
    obtain ⟨d1, e1, e⟩ := Res.bind_eq e
    obtain ⟨d2, e2, e⟩ := Res.bind_eq e
    refine ⟨W, m, fp, d1, rel, e1, fun v1 W1 H1 fd1 P1 => ⟨W1, m, fp, d2, P1.rel, e2, fun v2 W2 H2 fd2 P2 => ?_⟩⟩
    exact ix_rep (P1.rep.ext P2.ext off_nil fun a _ z => by cases z) P2.rep e fun v f r s => q v W2 H2 f ⟨P2.rel, r, P1.ext.trans P2.ext (fun a z => by cases z), fun a z => P1.sub a (s a z)⟩
/-- an item (pure) of a new thing, of a name by an index with effects -/
def mIx (ma mb : M D) : M D := fun m => (ma m).bind fun r1 => (mb r1.2).bind fun r2 => (dIx r1.1 r2.1).bind fun d => Res.when d.pure (.ok (d, r2.2))
def mIxN (i : Nat) (mb : M D) : M D := fun m => (mqVar i m).bind fun _ => (mb m).bind fun r2 => (mqVar i r2.2).bind fun d1 => (dIx d1 r2.1).bind fun d => Res.when d.pure (.ok (d, r2.2))
theorem postB_val {K : PySem.W.Frag} {W W1 : Wd} {H H1 : Hp} {fp fp1 fd f : List Addr} {σ : L2.St} {m1 : Mem} {v v' : V} {d d' : D} (p : PostB K CT W H σ fp v d m1 W1 H1 fp1 fd) (r : RepD K W1 H1 v' d' f) (h : d'.pure = true) : Post K CT W H σ fp v' d' m1 W1 H1 fp1 [] := by
  obtain rfl := r.pure h
  exact PostT.post ⟨p.rel, p.ext, p.sub⟩ (Post.mk0 p.rel r)
theorem me_ix (hu : X.A.units + 64 < cLine) (ha : ME X CT a ma) (hb : MEB X CT b mb) (hs : PlainIx b) : ME X CT (.Subscript a b pos) (mIx ma mb) :=
  pe_weak (pe_ix (((ix_list.or ix_tup).or ix_str).or (ix_dic hu)) ha hb hs) fun σ H Q ⟨W, m, fp, d, m', rel, e, q⟩ => by
    obtain ⟨⟨d1, m1⟩, e1, e⟩ := Res.bind_eq e
    obtain ⟨⟨d2, m2⟩, e2, e⟩ := Res.bind_eq e
    obtain ⟨d3, e3, e⟩ := Res.bind_eq e
    obtain ⟨p0, e⟩ := Res.when_eq e
    cases e
    refine ⟨W, m, fp, d1, m1, rel, e1, fun v1 W1 H1 fp1 fd1 P1 => ⟨W1, m1, fp1, d2, _, P1.rel, e2, fun v2 W2 H2 fp2 fd2 P2 => ?_⟩⟩
    exact ix_rep (fin2 P1 P2.ext) P2.rep e3 fun v f r s => q v W2 H2 fp2 [] (postB_val (P1.t.postB P2) r p0)
theorem me_ixN (hu : X.A.units + 64 < cLine) (ha : PE X a (tVar i)) (hb : MEB X CT b mb) (hs : PlainIx b) : ME X CT (.Subscript a b pos) (mIxN i mb) :=
  pe_weak (pe_ix (((ix_list.or ix_tup).or ix_str).or (ix_dic hu)) ha hb hs) fun σ H Q ⟨W, m, fp, d, m', rel, e, q⟩ => by
    obtain ⟨d0, e0, e⟩ := Res.bind_eq e
    obtain ⟨⟨d2, m2⟩, e2, e⟩ := Res.bind_eq e
    obtain ⟨d1, e1, e⟩ := Res.bind_eq e
    obtain ⟨d3, e3, e⟩ := Res.bind_eq e
    obtain ⟨p0, e⟩ := Res.when_eq e
    cases e
    obtain ⟨q1, q2⟩ := mqVar_eq e1
    obtain ⟨q3, q4⟩ := mqVar_eq e0
    obtain ⟨v1, hv⟩ : ∃ v, σ[i]? = some (some v) := by
      obtain ⟨f, g, rfl, h1, h2⟩ := rel.s
      obtain ⟨v, _, _, _, _, s, _⟩ := h1.at q3 q4
      exact ⟨v, s⟩
    refine ⟨v1, hv, W, m, fp, d2, _, rel, e2, fun v2 W2 H2 fp2 fd2 P2 => ?_⟩
    obtain ⟨f, g', rfl, h1, h2⟩ := P2.rel.s
    obtain ⟨v1', A, f1, B, rfl, s, r1, _⟩ := h1.at q1 q2
    rw [hv] at s
    cases s
    exact ix_rep r1 P2.rep e3 fun v f r s => q v W2 H2 _ [] (postB_val P2 r p0)

/-! ### slices -/
def MO (X : Cx) (CT : Nat → Addr) (o : Option Expr) (q : MQ (Option Int)) : Prop := PO X o fun σ H Q => ∃ W m fp i, Rel X.K CT W H σ m fp ∧ q m = .ok i ∧ ∀ W' H', Ext W H W' H' [] → Rel X.K CT W' H' σ m fp → Q i H'
def mqNone : MQ (Option Int) := fun _ => .ok none
def mqSome (q : MQ D) : MQ (Option Int) := fun m => (q m).bind fun d => match d with
  | .int i => .ok (some i)
  | _ => .fail
theorem po_weak {o : Option Expr} {t t' : TO} (h : PO X o t) (k : ∀ σ H Q, t' σ H Q → t σ H Q) : PO X o t' := ⟨fun pins s σ H Q I q => h.run pins s σ H Q I (k σ H Q q)⟩
theorem mo_none : MO X CT none mqNone := po_weak po_none fun σ H Q ⟨W, m, fp, i, rel, e, q⟩ => by
  cases e
  exact q W H (Ext.refl _ _ _) rel
theorem mo_some (h : MEQ X CT a qa) : MO X CT (some a) (mqSome qa) := po_weak (po_some h) fun σ H Q ⟨W, m, fp, i, rel, e, q⟩ => by
  obtain ⟨d, e1, e⟩ := Res.bind_eq e
  refine ⟨W, m, fp, d, rel, e1, fun v W' H' fd p => ?_⟩
  have r := p.rep
  split at e
  · cases e
    cases r
    exact ⟨_, rfl, q W' H' p.ext p.rel⟩
  · cases e
def cutD (xs : List D) (lo hi : Option Int) : List D := (xs.drop (HT.sIx xs.length 0 lo)).take (HT.sIx xs.length xs.length hi - HT.sIx xs.length 0 lo)
@[simp] def dSl (d : D) (lo hi : Option Int) : Res D := match d with
  | .lst _ xs => Res.when (pureL xs) (.ok (.lst true (cutD xs lo hi)))
  | .tup xs => Res.when (pureL xs) (.ok (.tup (cutD xs lo hi)))
  | .str z => Res.when (decide (z.length ≤ sizeLine)) (.ok (.str (cutS z lo hi)))
  | _ => .fail
def mSl (ma : M D) (lo hi : MQ (Option Int)) : M D := fun m => (ma m).bind fun r => (lo r.2).bind fun l => (hi r.2).bind fun h => (dSl r.1 l h).bind fun d => .ok (d, r.2)
theorem sl_rep {W : Wd} {H : Hp} {x : V} {d1 d : D} {f1 : List Addr} {lo hi : Option Int} {Q : VK} (x0 : Fix W H) (a : RepD X.K W H x d1 f1) (e : dSl d1 lo hi = .ok d) (k : ∀ v W' H' fd, New X.K W H v d W' H' fd → Q v H') : (rSlL X.K x lo hi H Q ∨ rSlA X.K x lo hi H Q) ∨ rSlS x lo hi H Q := by
  unfold dSl at e; split at e
  · obtain ⟨h, e⟩ := Res.when_eq e
    cases e
    obtain ⟨p, vs, g', rfl, s, l, sb⟩ := a.lst
    obtain rfl := l.pure h
    refine .inl (.inl ⟨p, vs, rfl, s, fun p' hp => k _ _ _ _ (New.lst x0 hp ?_)⟩)
    unfold cutV cutD
    rw [l.length]
    exact l.pick _ _
  · obtain ⟨h, e⟩ := Res.when_eq e
    cases e
    obtain ⟨p, vs, rfl, s, z, l⟩ := a.tupl
    obtain rfl := l.pure h
    refine .inl (.inr ⟨p, vs, rfl, s, fun y => ?_, fun _ p' hp => k _ _ _ _ (New.tup x0 hp ?_)⟩)
    · rw [l.length] at y
      unfold cutD at k
      rw [y.1, y.2, Nat.sub_zero, List.drop_zero, List.take_length] at k
      exact k _ W H [] (New.sc x0 (.tup z l))
    · unfold cutV cutD
      rw [l.length]
      exact l.pick _ _
  · obtain ⟨h, e⟩ := Res.when_eq e
    cases e
    cases a
    exact .inr ⟨_, rfl, of_decide_eq_true h, k _ _ _ _ (New.sc x0 .str)⟩
  · cases e
theorem me_sl {lo hi : Option Expr} {p2 : Pos} {ql qh : MQ (Option Int)} (ha : MEB X CT a ma) (hl : MO X CT lo ql) (hh : MO X CT hi qh) : ME X CT (.Subscript a (.Slice lo hi none p2) pos) (mSl ma ql qh) :=
  pe_weak (pe_slice ((sl_list.or sl_tupA).or sl_str) ha hl hh) fun σ H Q ⟨W, m, fp, d, m', rel, e, q⟩ => by
    obtain ⟨⟨d1, m1⟩, e1, e⟩ := Res.bind_eq e
    obtain ⟨l, e2, e⟩ := Res.bind_eq e
    obtain ⟨h, e3, e⟩ := Res.bind_eq e
    obtain ⟨d3, e4, e⟩ := Res.bind_eq e
    cases e
    refine ⟨W, m, fp, d1, _, rel, e1, fun v1 W1 H1 fp1 fd1 P1 => ⟨W1, m1, fp1, l, P1.rel, e2, fun W2 H2 x2 r2 => ⟨W2, m1, fp1, h, r2, e3, fun W3 H3 x3 r3 => ?_⟩⟩⟩
    have x13 : Ext W1 H1 W3 H3 [] := x2.trans x3 fun a z => by cases z
    exact sl_rep r3.fix (P1.rep.ext x13 off_nil fun a _ z => by cases z) e4 fun v W' H' fd n => q v W' H' fp1 fd (n.post r3 (P1.ext.trans (x13.sub (fq := fp1) fun a z => by cases z) fun a z => P1.sub a z) P1.sub)
end
end E
/-! EngF: argument lists, displays, calls -/
namespace E
open PySem L2

/-- an argument: a value; a name whose thing is lent; a part of the state that is looked at -/
inductive Arg where
  | val (d : D)
  | nam (i : Nat)
  | bor (d : D)
inductive RepA (K : PySem.W.Frag) (W : Wd) (H : Hp) (σ : L2.St) (fp : List Addr) : List V → List Arg → List Addr → Prop
  | nil : RepA K W H σ fp [] [] []
  | val {v d f vs as g} : RepD K W H v d f → RepA K W H σ fp vs as g → RepA K W H σ fp (v :: vs) (.val d :: as) (f ++ g)
  | nam {v i vs as g} : σ[i]? = some (some v) → RepA K W H σ fp vs as g → RepA K W H σ fp (v :: vs) (.nam i :: as) g
  | bor {v d f vs as g} : RepD K W H v d f → (∀ a ∈ f, a ∈ fp) → RepA K W H σ fp vs as g → RepA K W H σ fp (v :: vs) (.bor d :: as) g
section
variable (K : PySem.W.Frag) (CT : Nat → Addr)
structure PostA (W : Wd) (H : Hp) (σ : L2.St) (fp : List Addr) (vs : List V) (as : List Arg) (m' : Mem) (W' : Wd) (H' : Hp) (fp' fd : List Addr) : Prop where
  rel : Rel K CT W' H' σ m' fp'
  rep : RepA K W' H' σ fp' vs as fd
  nd : (fp' ++ fd).Nodup
  own : Own W' H' fd
  ext : Ext W H W' H' fp
  sub : ∀ a ∈ fp' ++ fd, a ∈ fp ∨ H a = none
def tA (e : M (List Arg)) : TA := fun σ H Q => ∃ W m fp as m', Rel K CT W H σ m fp ∧ e m = .ok (as, m') ∧ ∀ vs W' H' fp' fd, PostA K CT W H σ fp vs as m' W' H' fp' fd → Q vs H'
/-- arguments that are looked at -/
structure PostAQ (W : Wd) (H : Hp) (σ : L2.St) (m : Mem) (fp : List Addr) (vs : List V) (as : List D) (W' : Wd) (H' : Hp) (fd : List Addr) : Prop where
  rel : Rel K CT W' H' σ m fp
  rep : RepL K W' H' vs as fd
  ext : Ext W H W' H' []
  sub : ∀ a ∈ fd, a ∈ fp
def tAQ (e : MQ (List D)) : TA := fun σ H Q => ∃ W m fp ds, Rel K CT W H σ m fp ∧ e m = .ok ds ∧ ∀ vs W' H' fd, PostAQ K CT W H σ m fp vs ds W' H' fd → Q vs H'
end
def MA (X : Cx) (CT : Nat → Addr) (es : List Expr) (m : M (List Arg)) : Prop := PA X es (tA X.K CT m)
def MAQ (X : Cx) (CT : Nat → Addr) (es : List Expr) (m : MQ (List D)) : Prop := PA X es (tAQ X.K CT m)

def maNil : M (List Arg) := fun m => .ok ([], m)
def maV (a : M D) (r : M (List Arg)) : M (List Arg) := fun m => (a m).bind fun x => (r x.2).bind fun y => .ok (.val x.1 :: y.1, y.2)
def maN (i : Nat) (r : M (List Arg)) : M (List Arg) := fun m => (mqVar i m).bind fun _ => (r m).bind fun y => .ok (.nam i :: y.1, y.2)
def maQ (q : MQ (List D)) : M (List Arg) := fun m => (q m).bind fun ds => .ok (ds.map .bor, m)
def mqNil : MQ (List D) := fun _ => .ok []
def mqCons (a : MQ D) (r : MQ (List D)) : MQ (List D) := fun m => (a m).bind fun x => (r m).bind fun y => .ok (x :: y)

section
variable {K : PySem.W.Frag} {CT : Nat → Addr} {W W' W1 W2 : Wd} {H H' H1 H2 : Hp} {σ : L2.St} {m m' m1 m2 : Mem} {fp fp' fd fp1 fp2 fd1 fd2 g : List Addr} {v v1 v2 : V} {d d1 d2 : D}
theorem RepL.nils {vs : List V} {as : List D} : RepL K W H vs as fd → (∀ a ∈ fd, a ∈ fp) → RepA K W H σ fp vs (as.map .bor) [] := by
  intro h
  induction vs generalizing as fd with
  | nil => cases h; intro _; exact .nil
  | cons v vs ih => cases h with
    | cons r l =>
      intro s
      exact .bor r (fun a z => s a (List.mem_append_left _ z)) (ih l fun a z => s a (List.mem_append_right _ z))
end
section
variable {X : Cx} {CT : Nat → Addr} {e a b c : Expr} {es rest : List Expr} {pos : Pos} {ma mb : M D} {qa qb qc : MQ D} {i : Nat} {ml : M (List Arg)} {ql : MQ (List D)}
theorem maq_nil : MAQ X CT [] mqNil := pa_weak pa_nil fun σ H Q ⟨W, m, fp, ds, rel, e, q⟩ => by
  cases e
  exact q [] W H [] ⟨rel, .nil, Ext.refl _ _ _, fun a z => by cases z⟩
theorem maq_cons (h : MEQ X CT e qa) (hr : MAQ X CT es ql) (hst : starEach (e :: es) X.env = (false, eval e X.env) :: starEach es X.env := by rfl) : MAQ X CT (e :: es) (mqCons qa ql) := pa_weak (pa_cons h hr hst) fun σ H Q ⟨W, m, fp, ds, rel, e, q⟩ => by
  obtain ⟨d, e1, e⟩ := Res.bind_eq e
  obtain ⟨ds', e2, e⟩ := Res.bind_eq e
  cases e
  refine ⟨W, m, fp, d, rel, e1, fun v W1 H1 fd p => ⟨W1, m, fp, ds', p.rel, e2, fun vs W2 H2 fd2 p2 => q (v :: vs) W2 H2 (fd ++ fd2) ⟨p2.rel, .cons (p.rep.ext p2.ext off_nil fun a _ z => by cases z) p2.rep, p.ext.trans p2.ext (fun a z => by cases z), fun a z => ?_⟩⟩⟩
  rcases List.mem_append.mp z with z | z
  · exact p.sub a z
  · exact p2.sub a z
theorem ma_q (h : MAQ X CT es ql) : MA X CT es (maQ ql) := pa_weak h fun σ H Q ⟨W, m, fp, as, m', rel, e, q⟩ => by
  obtain ⟨ds, e1, e⟩ := Res.bind_eq e
  cases e
  exact ⟨W, _, fp, ds, rel, e1, fun vs W' H' fd p => q vs W' H' fp [] ⟨p.rel, p.rep.nils p.sub, by rw [List.append_nil]; exact p.rel.nd, Own.nil, p.ext.sub (fun a z => by cases z), fun a z => .inl (by simpa using z)⟩⟩
theorem ma_nil : MA X CT [] maNil := pa_weak pa_nil fun σ H Q ⟨W, m, fp, as, m', rel, e, q⟩ => by
  cases e
  exact q [] W H fp [] ⟨rel, .nil, by rw [List.append_nil]; exact rel.nd, Own.nil, Ext.refl _ _ _, fun a z => .inl (by simpa using z)⟩
theorem ma_n (h : PE X e (tVar i)) (hr : MA X CT es ml) (hst : starEach (e :: es) X.env = (false, eval e X.env) :: starEach es X.env := by rfl) : MA X CT (e :: es) (maN i ml) := pa_weak (pa_cons h hr hst) fun σ H Q ⟨W, m, fp, as, m', rel, e, q⟩ => by
  obtain ⟨d0, e0, e⟩ := Res.bind_eq e
  obtain ⟨⟨as', m1⟩, e1, e⟩ := Res.bind_eq e
  cases e
  obtain ⟨q3, q4⟩ := mqVar_eq e0
  obtain ⟨v1, hv⟩ : ∃ v, σ[i]? = some (some v) := by
    obtain ⟨f, g, rfl, h1, h2⟩ := rel.s
    obtain ⟨v, _, _, _, _, s, _⟩ := h1.at q3 q4
    exact ⟨v, s⟩
  exact ⟨v1, hv, W, m, fp, as', _, rel, e1, fun vs W' H' fp' fd p => q (v1 :: vs) W' H' fp' fd ⟨p.rel, .nam hv p.rep, p.nd, p.own, p.ext, p.sub⟩⟩
theorem ma_v (h : ME X CT e ma) (hr : MA X CT es ml) (hst : starEach (e :: es) X.env = (false, eval e X.env) :: starEach es X.env := by rfl) : MA X CT (e :: es) (maV ma ml) := pa_weak (pa_cons h hr hst) fun σ H Q ⟨W, m, fp, as, m', rel, e, q⟩ => by
  obtain ⟨⟨d, m1⟩, e1, e⟩ := Res.bind_eq e
  obtain ⟨⟨as', m2⟩, e2, e⟩ := Res.bind_eq e
  cases e
  refine ⟨W, m, fp, d, m1, rel, e1, fun v W1 H1 fp1 fd1 p => ⟨W1, m1, fp1, as', _, p.rel, e2, fun vs W2 H2 fp2 fd2 p2 => q (v :: vs) W2 H2 fp2 (fd1 ++ fd2) ?_⟩⟩
  have d1 : ∀ a ∈ fd1, a ∉ fp1 := fun a ma mf => by
    have := p.nd
    rw [List.nodup_append] at this
    exact this.2.2 a mf a ma rfl
  have nz : ∀ a ∈ fd1, H1 a ≠ none := fun a z => (p.own a z).2
  have nd2 := p2.nd
  have nd1 := p.nd
  rw [List.nodup_append] at nd1 nd2
  have far : ∀ a ∈ fd1, ∀ b ∈ fp2 ++ fd2, a ≠ b := fun a z b y e => by
    subst e
    rcases p2.sub a y with y | y
    · exact d1 a z y
    · exact nz a z y
  refine ⟨p2.rel, .val (p.rep.ext p2.ext p.rel.off d1) p2.rep, ?_, ?_, p.ext.trans p2.ext (fun a z => p.sub a (List.mem_append_left _ z)), fun a z => ?_⟩
  · rw [List.nodup_append, List.nodup_append]
    refine ⟨nd2.1, ⟨nd1.2.1, nd2.2.1, fun a z b y => far a z b (List.mem_append_right _ y)⟩, fun a z b y => ?_⟩
    rcases List.mem_append.mp y with y | y
    · exact (far b y a (List.mem_append_left _ z)).symm
    · exact nd2.2.2 a z b y
  · rw [Own.app]
    exact ⟨p.own.ext p2.ext d1, p2.own⟩
  · have s12 : ∀ a ∈ fp2 ++ fd2, a ∈ fp ∨ H a = none := fun a z => by
      rcases p2.sub a z with y | y
      · exact p.sub a (List.mem_append_left _ y)
      · exact .inr (p.ext.there a y)
    rcases List.mem_append.mp z with z | z
    · exact s12 a (List.mem_append_left _ z)
    · rcases List.mem_append.mp z with z | z
      · exact p.sub a (List.mem_append_right _ z)
      · exact s12 a (List.mem_append_right _ z)

/-! ### displays: values alone -/
@[simp] def vals : List Arg → Res (List D)
  | [] => .ok []
  | .val d :: r => (vals r).bind fun ds => .ok (d :: ds)
  | .bor d :: r => Res.when d.pure ((vals r).bind fun ds => .ok (d :: ds))
  | .nam _ :: _ => .fail
theorem vals_rep {K : PySem.W.Frag} {W : Wd} {H : Hp} {σ : L2.St} {fp : List Addr} {vs : List V} {as : List Arg} {g : List Addr} (h : RepA K W H σ fp vs as g) : ∀ {ds : List D}, vals as = .ok ds → RepL K W H vs ds g := by
  induction h with
  | nil => intro ds e; cases e; exact .nil
  | val r _ ih =>
    intro ds e
    obtain ⟨ds', e1, e⟩ := Res.bind_eq e
    cases e
    exact .cons r (ih e1)
  | nam _ _ _ => intro ds e; cases e
  | bor r s _ ih =>
    intro ds e
    obtain ⟨p, e⟩ := Res.when_eq e
    obtain ⟨ds', e1, e⟩ := Res.bind_eq e
    cases e
    obtain rfl := r.pure p
    exact RepL.cons (f := []) r (ih e1)
def mTup (a : M (List Arg)) : M D := fun m => (a m).bind fun r => (vals r.1).bind fun ds => Res.when (decide (ds.length ≤ sizeLine)) (.ok (.tup ds, r.2))
def mLst (a : M (List Arg)) : M D := fun m => (a m).bind fun r => (vals r.1).bind fun ds => Res.when (decide (ds.length ≤ sizeLine)) (.ok (.lst true ds, r.2))
/-- a tuple of pure things, as a thing to look at -/
def mqTup (a : MQ (List D)) : MQ D := fun m => (a m).bind fun ds => Res.when (pureL ds && decide (ds.length ≤ sizeLine)) (.ok (.tup ds))
theorem me_tup (h : MA X CT es ml) {x1} : ME X CT (.Tuple es x1 pos) (mTup ml) := pe_weak (pe_tup h) fun σ H Q ⟨W, m, fp, d, m', rel, e, q⟩ => by
  obtain ⟨⟨as, m1⟩, e1, e⟩ := Res.bind_eq e
  obtain ⟨ds, e2, e⟩ := Res.bind_eq e
  obtain ⟨hl, e⟩ := Res.when_eq e
  cases e
  refine ⟨W, m, fp, as, _, rel, e1, fun vs W1 H1 fp1 fd p => ?_⟩
  have l := vals_rep p.rep e2
  refine ⟨by rw [l.length]; exact of_decide_eq_true hl, fun t ht => ?_⟩
  have x := ext_updF (W := W1) (o := .tup vs) ht
  refine q (.ref t) (W1.fixed [t]) _ fp1 fd ⟨p.rel.ext x off_nil (fun a _ z => by cases z) rfl (fix_updF p.rel.fix), .tup (.inl ⟨.inr (by simp), .inl upd_same⟩) (l.ext x off_nil fun a _ z => by cases z), p.nd, p.own.ext x (fun a _ z => by cases z), p.ext.trans x (fun a z => by cases z), p.sub⟩
theorem me_lst (h : MA X CT es ml) : ME X CT (.List es pos) (mLst ml) := pe_weak (pe_lst h) fun σ H Q ⟨W, m, fp, d, m', rel, e, q⟩ => by
  obtain ⟨⟨as, m1⟩, e1, e⟩ := Res.bind_eq e
  obtain ⟨ds, e2, e⟩ := Res.bind_eq e
  obtain ⟨hl, e⟩ := Res.when_eq e
  cases e
  refine ⟨W, m, fp, as, _, rel, e1, fun vs W1 H1 fp1 fd p => ?_⟩
  have l := vals_rep p.rep e2
  refine ⟨by rw [l.length]; exact of_decide_eq_true hl, fun t ht => ?_⟩
  have x := ext_upd (W := W1) (o := .lst vs) ht
  have tn : ∀ a ∈ fp1 ++ fd, a ≠ t := fun a z y => by
    subst y
    rcases List.mem_append.mp z with z | z
    · exact (p.rel.own a z).2 ht
    · exact (p.own a z).2 ht
  have ndp := p.nd
  rw [List.nodup_append] at ndp
  refine q (.ref t) W1 _ fp1 (t :: fd) ⟨p.rel.ext x off_nil (fun a _ z => by cases z) rfl (fix_upd p.rel.fix), .lstO upd_same (l.ext x off_nil fun a _ z => by cases z), ?_, ?_, p.ext.trans x (fun a z => by cases z), fun a z => ?_⟩
  · rw [List.nodup_append, List.nodup_cons]
    refine ⟨ndp.1, ⟨fun z => tn t (List.mem_append_right _ z) rfl, ndp.2.1⟩, fun a z b y e => ?_⟩
    subst e
    rcases List.mem_cons.mp y with y | y
    · exact tn a (List.mem_append_left _ z) y
    · exact ndp.2.2 a z a y rfl
  · intro a z
    rcases List.mem_cons.mp z with z | z
    · subst z
      exact ⟨fun y => p.rel.fix a y ht, by rw [upd_same]; exact fun z => by cases z⟩
    · exact (p.own.ext x fun a _ z => by cases z) a z
  · rcases List.mem_append.mp z with z | z
    · exact p.sub a (List.mem_append_left _ z)
    · rcases List.mem_cons.mp z with z | z
      · subst z
        exact .inr (p.ext.there a ht)
      · exact p.sub a (List.mem_append_right _ z)
theorem meq_tup (h : MAQ X CT es ql) {x1} : MEQ X CT (.Tuple es x1 pos) (mqTup ql) := pe_weak (pe_tup h) fun σ H Q ⟨W, m, fp, d, rel, e, q⟩ => by
  obtain ⟨ds, e1, e⟩ := Res.bind_eq e
  obtain ⟨hl, e⟩ := Res.when_eq e
  cases e
  rw [Bool.and_eq_true] at hl
  refine ⟨W, m, fp, ds, rel, e1, fun vs W1 H1 fd p => ?_⟩
  have l := p.rep
  obtain rfl := l.pure hl.1
  refine ⟨by rw [l.length]; exact of_decide_eq_true hl.2, fun t ht => ?_⟩
  exact q _ _ _ _ ((New.tup p.rel.fix ht l).postQ (by simpa [D.pure] using hl.1) p.rel p.ext)

/-! ### calls of builtins -/
def CallD (X : Cx) (f : Value) (g : List D → Res D) : Prop :=
  ∃ r : List V → Hp → VK → Prop, CallR X f r ∧ ∀ W H xs ds fs d Q, Fix W H → RepL X.K W H xs ds fs → g ds = .ok d → (∀ v W' H' fd, New X.K W H v d W' H' fd → Q v H') → r xs H Q
theorem CallD.or {f : Value} {g1 g2 : List D → Res D} (h1 : CallD X f g1) (h2 : CallD X f g2) : CallD X f (fun ds => match g1 ds with
    | .ok d => .ok d
    | _ => g2 ds) := by
  obtain ⟨r1, o1, k1⟩ := h1
  obtain ⟨r2, o2, k2⟩ := h2
  refine ⟨fun xs H Q => r1 xs H Q ∨ r2 xs H Q, fun pins s σ H xs us Q I r h => h.elim (o1 pins s σ H xs us Q I r) (o2 pins s σ H xs us Q I r), fun W H xs ds fs d Q x0 a e k => ?_⟩
  dsimp only at e
  split at e
  · rename_i d' e1
    cases e
    exact .inl (k1 W H xs ds fs d Q x0 a e1 k)
  · exact .inr (k2 W H xs ds fs d Q x0 a e k)
/-- what the arguments are -/
@[simp] def conts (env : List D) : List Arg → Res (List D)
  | [] => .ok []
  | .val d :: r => (conts env r).bind fun ds => .ok (d :: ds)
  | .bor d :: r => (conts env r).bind fun ds => .ok (d :: ds)
  | .nam i :: r => match env[i]? with
    | some .und => .fail
    | some d => (conts env r).bind fun ds => .ok (d :: ds)
    | none => .fail
theorem conts_rep {K : PySem.W.Frag} {W : Wd} {H : Hp} {σ : L2.St} {fp fs : List Addr} {env : List D} {vs : List V} {as : List Arg} {g : List Addr} (hs : RepS K W H σ env fs) (h : RepA K W H σ fp vs as g) : ∀ {ds : List D}, conts env as = .ok ds → ∃ g', RepL K W H vs ds g' := by
  induction h with
  | nil => intro ds e; cases e; exact ⟨_, .nil⟩
  | val r _ ih =>
    intro ds e
    obtain ⟨ds', e1, e⟩ := Res.bind_eq e
    cases e
    obtain ⟨g', l⟩ := ih e1
    exact ⟨_, .cons r l⟩
  | nam s _ ih =>
    intro ds e
    unfold conts at e
    split at e
    · cases e
    · rename_i d nd ed
      obtain ⟨ds', e1, e⟩ := Res.bind_eq e
      cases e
      obtain ⟨g', l⟩ := ih e1
      obtain ⟨v, A, f, B, _, s', r, _⟩ := hs.at ed nd
      rw [s] at s'
      cases s'
      exact ⟨_, .cons r l⟩
    · cases e
  | bor r _ _ ih =>
    intro ds e
    obtain ⟨ds', e1, e⟩ := Res.bind_eq e
    cases e
    obtain ⟨g', l⟩ := ih e1
    exact ⟨_, .cons r l⟩
def mCB (g : List D → Res D) (a : M (List Arg)) : M D := fun m => (a m).bind fun r => (conts r.2.env r.1).bind fun ds => (g ds).bind fun d => .ok (d, r.2)
def mqCB (g : List D → Res D) (a : MQ (List D)) : MQ D := fun m => (a m).bind fun ds => (g ds).bind fun d => Res.when d.pure (.ok d)
theorem tcb {r : List V → Hp → VK → Prop} {g : List D → Res D} (k : ∀ W H xs ds fs d Q, Fix W H → RepL X.K W H xs ds fs → g ds = .ok d → (∀ v W' H' fd, New X.K W H v d W' H' fd → Q v H') → r xs H Q) :
    ∀ σ H Q, tM X.K CT (mCB g ml) σ H Q → tCB r (tA X.K CT ml) σ H Q := fun σ H Q ⟨W, m, fp, d, m', rel, e, q⟩ => by
  obtain ⟨⟨as, m1⟩, e1, e⟩ := Res.bind_eq e
  obtain ⟨ds, e2, e⟩ := Res.bind_eq e
  obtain ⟨d', e3, e⟩ := Res.bind_eq e
  cases e
  refine ⟨W, m, fp, as, _, rel, e1, fun vs W1 H1 fp1 fd p => ?_⟩
  obtain ⟨f, g', rfl, h1, h2⟩ := p.rel.s
  obtain ⟨g', l⟩ := conts_rep h1 p.rep e2
  exact k W1 H1 vs ds g' d _ p.rel.fix l e3 fun v W' H' fd n => q v W' H' _ fd (n.post p.rel p.ext fun a z => p.sub a (List.mem_append_left _ z))
theorem tcbQ {r : List V → Hp → VK → Prop} {g : List D → Res D} (k : ∀ W H xs ds fs d Q, Fix W H → RepL X.K W H xs ds fs → g ds = .ok d → (∀ v W' H' fd, New X.K W H v d W' H' fd → Q v H') → r xs H Q) :
    ∀ σ H Q, tQ X.K CT (mqCB g ql) σ H Q → tCB r (tAQ X.K CT ql) σ H Q := fun σ H Q ⟨W, m, fp, d, rel, e, q⟩ => by
  obtain ⟨ds, e1, e⟩ := Res.bind_eq e
  obtain ⟨d', e3, e⟩ := Res.bind_eq e
  obtain ⟨p0, e⟩ := Res.when_eq e
  cases e
  refine ⟨W, m, fp, ds, rel, e1, fun vs W1 H1 fd p => ?_⟩
  exact k W1 H1 vs ds fd d _ p.rel.fix p.rep e3 fun v W' H' fd n => q v W' H' [] (n.postQ p0 p.rel p.ext)
variable {x : Str} {p0 : Pos} {id T : String} {g : List D → Res D}
theorem me_cb (o : CallD X (.builtin id) g) (hg : Gl X x) (hm : X.mg x = none) (hv : bootBuiltins x = some (.builtin id)) (ha : MA X CT (e :: es) ml) (hn : x ≠ "__name__" := by decide) (hdb : (x == ("__debug__" : Str)) = false := by decide) 
    (hst : starEach (e :: es) X.env = (false, eval e X.env) :: starEach es X.env := by rfl) (hpl : (backTo pos (starEach es X.env)).any (·.1) = false := by rfl) : ME X CT (.Call (.Name x p0) (e :: es) [] pos) (mCB g ml) := by
  obtain ⟨r, h, k⟩ := o
  exact pe_weak (pe_callB h hg hm hv ha hn hdb hst hpl) (tcb k)
theorem meq_cb (o : CallD X (.builtin id) g) (hg : Gl X x) (hm : X.mg x = none) (hv : bootBuiltins x = some (.builtin id)) (ha : MAQ X CT (e :: es) ql) (hn : x ≠ "__name__" := by decide) (hdb : (x == ("__debug__" : Str)) = false := by decide) 
    (hst : starEach (e :: es) X.env = (false, eval e X.env) :: starEach es X.env := by rfl) (hpl : (backTo pos (starEach es X.env)).any (·.1) = false := by rfl) : MEQ X CT (.Call (.Name x p0) (e :: es) [] pos) (mqCB g ql) := by
  obtain ⟨r, h, k⟩ := o
  exact pe_weak (pe_callB h hg hm hv ha hn hdb hst hpl) (tcbQ k)
theorem me_cty (o : CallD X (.type T) g) (hg : Gl X x) (hm : X.mg x = none) (hv : bootBuiltins x = some (.type T)) (ha : MA X CT (e :: es) ml) (hn : x ≠ "__name__" := by decide) (hdb : (x == ("__debug__" : Str)) = false := by decide) 
    (hst : starEach (e :: es) X.env = (false, eval e X.env) :: starEach es X.env := by rfl) (hpl : (backTo pos (starEach es X.env)).any (·.1) = false := by rfl) : ME X CT (.Call (.Name x p0) (e :: es) [] pos) (mCB g ml) := by
  obtain ⟨r, h, k⟩ := o
  exact pe_weak (pe_callTy h hg hm hv ha hn hdb hst hpl) (tcb k)
theorem meq_cty (o : CallD X (.type T) g) (hg : Gl X x) (hm : X.mg x = none) (hv : bootBuiltins x = some (.type T)) (ha : MAQ X CT (e :: es) ql) (hn : x ≠ "__name__" := by decide) (hdb : (x == ("__debug__" : Str)) = false := by decide) 
    (hst : starEach (e :: es) X.env = (false, eval e X.env) :: starEach es X.env := by rfl) (hpl : (backTo pos (starEach es X.env)).any (·.1) = false := by rfl) : MEQ X CT (.Call (.Name x p0) (e :: es) [] pos) (mqCB g ql) := by
  obtain ⟨r, h, k⟩ := o
  exact pe_weak (pe_callTy h hg hm hv ha hn hdb hst hpl) (tcbQ k)
end
end E
/-! EngG: defs and their calls -/
namespace E
open PySem L2

abbrev CallM := List D → List Ob → Res (D × List D × List Ob)
def grab : List Arg → List D → Res (List D × List (Option Nat) × List D)
  | [], env => .ok ([], [], env)
  | .val d :: as, env => (grab as env).bind fun r => .ok (d :: r.1, none :: r.2.1, r.2.2)
  | .bor d :: as, env => Res.when d.pure ((grab as env).bind fun r => .ok (d :: r.1, none :: r.2.1, r.2.2))
  | .nam i :: as, env => match env[i]? with
    | some .und => .fail
    | some d => if d.pure = true then (grab as env).bind fun r => .ok (d :: r.1, none :: r.2.1, r.2.2)
      else (grab as (env.set i .und)).bind fun r => .ok (d :: r.1, some i :: r.2.1, r.2.2)
    | none => .fail
@[simp] def giveBack : List (Option Nat) → List D → List D → List D
  | some i :: is, d :: ds, env => giveBack is ds (env.set i d)
  | none :: is, _ :: ds, env => giveBack is ds env
  | _, _, env => env
inductive Link (σ : L2.St) : List V → List (Option Nat) → Prop
  | done {vs} : Link σ vs []
  | none {v vs is} : Link σ vs is → Link σ (v :: vs) (none :: is)
  | some {v vs i is} : σ[i]? = some (some v) → Link σ vs is → Link σ (v :: vs) (some i :: is)

section
variable {K : PySem.W.Frag} {CT : Nat → Addr} {W W' W1 W2 : Wd} {H H' H1 H2 : Hp} {σ : L2.St} {m m' m1 m2 : Mem} {fp fp' fd fp1 fp2 fd1 fd2 g : List Addr} {v v1 v2 : V} {d d1 d2 : D}
theorem RepS.take {env : List D} {f : List Addr} (h : RepS K W H σ env f) : ∀ {i : Nat} {d : D}, env[i]? = some d → d ≠ .und → ∃ v f1 f', f.Perm (f1 ++ f') ∧ σ[i]? = some (some v) ∧ RepD K W H v d f1 ∧ RepS K W H σ (env.set i .und) f' := by
  induction h with
  | nil => intro i d e; simp at e
  | @und x σ env g hs ih =>
    intro i d e nd
    cases i with
    | zero => simp at e; exact absurd e.symm nd
    | succ i =>
      obtain ⟨v, f1, f', p, s, r, k⟩ := ih (by simpa using e) nd
      exact ⟨v, f1, f', p, by simpa using s, r, .und k⟩
  | @cons v σ d0 env f g r hs ih =>
    intro i d e nd
    cases i with
    | zero =>
      obtain rfl : d0 = d := by simpa using e
      exact ⟨v, f, g, .refl _, rfl, r, .und hs⟩
    | succ i =>
      obtain ⟨v', f1, f', p, s, r', k⟩ := ih (by simpa using e) nd
      refine ⟨v', f1, f ++ f', ?_, by simpa using s, r', .cons r k⟩
      exact (List.Perm.append_left f p).trans (by
        rw [← List.append_assoc, ← List.append_assoc]
        exact List.Perm.append_right f' List.perm_append_comm)
theorem set_same {i : Nat} {v : V} (s : σ[i]? = some (some v)) : σ.set i (some v) = σ := by
  apply List.ext_getElem?
  intro j
  rw [List.getElem?_set]
  split
  · rename_i ej; subst ej
    have : i < σ.length := (List.getElem?_eq_some_iff.mp s).1
    rw [if_pos this, s]
  · rfl
theorem grab_rep {vs : List V} {as : List Arg} {ga : List Addr} (h : RepA K W H σ fp vs as ga) : ∀ {env : List D} {fs : List Addr} {ds : List D} {is : List (Option Nat)} {env' : List D}, RepS K W H σ env fs → grab as env = .ok (ds, is, env') →
    ∃ fd fs', RepL K W H vs ds fd ∧ RepS K W H σ env' fs' ∧ (ga ++ fs).Perm (fd ++ fs') ∧ Link σ vs is := by
  induction h with
  | nil => intro env fs ds is env' hs e; cases e; exact ⟨[], fs, .nil, hs, .refl _, .done⟩
  | @val v d f vs as g r _ ih =>
    intro env fs ds is env' hs e
    obtain ⟨⟨ds1, is1, env1⟩, e1, e⟩ := Res.bind_eq e
    cases e
    obtain ⟨fd, fs', l, k, p, lk⟩ := ih hs e1
    refine ⟨f ++ fd, fs', .cons r l, k, ?_, .none lk⟩
    rw [List.append_assoc, List.append_assoc]
    exact List.Perm.append_left f p
  | @nam v i vs as g s _ ih =>
    intro env fs ds is env' hs e
    unfold grab at e
    split at e
    · cases e
    · rename_i d nd ed
      split at e
      · rename_i pd
        obtain ⟨⟨ds1, is1, env1⟩, e1, e⟩ := Res.bind_eq e
        cases e
        obtain ⟨fd, fs', l, k, p, lk⟩ := ih hs e1
        obtain ⟨v', f1, f', p', s', r, _⟩ := hs.take ed nd
        rw [s] at s'
        cases s'
        obtain rfl := r.pure pd
        exact ⟨fd, fs', RepL.cons (f := []) r l, k, p, .none lk⟩
      · obtain ⟨⟨ds1, is1, env1⟩, e1, e⟩ := Res.bind_eq e
        cases e
        obtain ⟨v', f1, f', p', s', r, k'⟩ := hs.take ed nd
        rw [s] at s'
        cases s'
        obtain ⟨fd, fs', l, k, p, lk⟩ := ih k' e1
        refine ⟨f1 ++ fd, fs', .cons r l, k, ?_, .some s lk⟩
        refine (List.Perm.append_left g p').trans ?_
        rw [List.append_assoc]
        refine List.Perm.trans ?_ (List.Perm.append_left f1 p)
        rw [← List.append_assoc, ← List.append_assoc]
        exact List.Perm.append_right f' List.perm_append_comm
    · cases e
  | @bor v d f vs as g r _ _ ih =>
    intro env fs ds is env' hs e
    obtain ⟨pd, e⟩ := Res.when_eq e
    obtain ⟨⟨ds1, is1, env1⟩, e1, e⟩ := Res.bind_eq e
    cases e
    obtain ⟨fd, fs', l, k, p, lk⟩ := ih hs e1
    obtain rfl := r.pure pd
    exact ⟨fd, fs', RepL.cons (f := []) r l, k, p, .none lk⟩
theorem give_rep {vs : List V} {is : List (Option Nat)} (lk : Link σ vs is) : ∀ {ds : List D} {fd : List Addr} {env : List D} {fs : List Addr}, RepL K W H vs ds fd → RepS K W H σ env fs → ∃ fs' rest, RepS K W H σ (giveBack is ds env) fs' ∧ (fs' ++ rest).Perm (fd ++ fs) := by
  induction lk with
  | done =>
    intro ds fd env fs l h
    exact ⟨fs, fd, by unfold giveBack; exact h, List.perm_append_comm⟩
  | none _ ih =>
    intro ds fd env fs l h
    cases l with
    | @cons v d f vs ds g r l =>
      obtain ⟨fs', rest, k, p⟩ := ih l h
      refine ⟨fs', f ++ rest, k, ?_⟩
      rw [List.append_assoc]
      refine List.Perm.trans ?_ (List.Perm.append_left f p)
      rw [← List.append_assoc, ← List.append_assoc]
      exact List.Perm.append_right rest List.perm_append_comm
  | @some v vs i is s _ ih =>
    intro ds fd env fs l h
    cases l with
    | @cons _ d f _ ds g r l =>
      have hi : i < env.length := by
        rw [← h.length]
        exact (List.getElem?_eq_some_iff.mp s).1
      obtain ⟨A, f0, B, rfl, k0⟩ := h.put hi
      have k1 := k0 r
      rw [set_same s] at k1
      obtain ⟨fs', rest, k, p⟩ := ih l k1
      refine ⟨fs', f0 ++ rest, k, ?_⟩
      have e1 : (fs' ++ (f0 ++ rest)).Perm (f0 ++ (fs' ++ rest)) := by
        rw [← List.append_assoc, ← List.append_assoc]
        exact List.Perm.append_right rest List.perm_append_comm
      refine e1.trans ((List.Perm.append_left f0 p).trans ?_)
      rw [List.perm_iff_count]
      intro a
      simp only [List.count_append]
      omega
end

theorem Link.app {σ : L2.St} {vs ws : List V} {is : List (Option Nat)} (lk : Link σ vs is) : Link σ (vs ++ ws) is := by
  induction lk with
  | done => exact .done
  | none _ ih => exact .none ih
  | some s _ ih => exact .some s ih
/-! ### a def's promise: what its mirror gives -/
def spM (K : PySem.W.Frag) (CT : Nat → Addr) (n : Nat) (f : CallM) : Sp := fun vs H Q _ => ∃ W ds hs fd fh r ds' hs', ds.length = n ∧ RepL K W H vs ds fd ∧ RepH K CT W H W.ι hs fh ∧ (fd ++ fh).Nodup ∧ Own W H (fd ++ fh) ∧ Fix W H ∧ f ds hs = .ok (r, ds', hs') ∧
  ∀ v W' H' fd' fh' fr, RepL K W' H' vs ds' fd' → RepH K CT W' H' W'.ι hs' fh' → RepD K W' H' v r fr → ((fd' ++ fh') ++ fr).Nodup → Own W' H' ((fd' ++ fh') ++ fr) → Fix W' H' → Ext W H W' H' (fd ++ fh) → (∀ a ∈ (fd' ++ fh') ++ fr, a ∈ fd ++ fh ∨ H a = none) → Q v H'
theorem spM_len {K : PySem.W.Frag} {CT : Nat → Addr} {n : Nat} {f : CallM} {vs : List V} {H : Hp} {Q : VK} {E : XK} (h : spM K CT n f vs H Q E) : vs.length = n := by
  obtain ⟨W, ds, hs, fd, fh, r, ds', hs', e, l, _⟩ := h
  rw [l.length, e]

/-- a call: dd the defaults -/
def mCall (f : CallM) (dd : List D) (a : M (List Arg)) : M D := fun m => (a m).bind fun r => (grab r.1 r.2.env).bind fun q => (f (q.1 ++ dd) r.2.hs).bind fun o => .ok (o.1, ⟨giveBack q.2.1 o.2.1 q.2.2, o.2.2⟩)
def Consts (K : PySem.W.Frag) (vs : List V) (ds : List D) : Prop := ∀ W H, RepL K W H vs ds []
section
variable {X : Cx} {CT : Nat → Addr} {wx : XK}
theorem sp_call {σ : L2.St} {f : CallM} {dd : List D} {dvs : List V} {n : Nat} {W W1 : Wd} {H H1 : Hp} {fp fp1 fa : List Addr} {vs : List V} {as : List Arg} {m1 m' : Mem} {d : D} {Q : VK} (hd : Consts X.K dvs dd) (hn : ∀ ds hs o, f ds hs = .ok o → ds.length = n)
    (p : PostA X.K CT W H σ fp vs as m1 W1 H1 fp1 fa) (e : ((grab as m1.env).bind fun q => (f (q.1 ++ dd) m1.hs).bind fun o => Res.ok (o.1, (⟨giveBack q.2.1 o.2.1 q.2.2, o.2.2⟩ : Mem))) = .ok (d, m'))
    (q : ∀ v W' H' fp' fd, Post X.K CT W H σ fp v d m' W' H' fp' fd → Q v H') : spM X.K CT n f (vs ++ dvs) H1 Q wx := by
  obtain ⟨⟨ds, is, env1⟩, e1, e⟩ := Res.bind_eq e
  obtain ⟨⟨r, ds', hs'⟩, e2, e⟩ := Res.bind_eq e
  cases e
  obtain ⟨fs, fh, rfl, h1, h2⟩ := p.rel.s
  obtain ⟨fd, fs', l, k, pm, lk⟩ := grab_rep p.rep h1 e1
  have nd0 := p.nd
  have hc : ∀ a, (fs ++ fh ++ fa).count a = (fd ++ fs' ++ fh).count a := fun a => by
    have := pm.count_eq a
    simp only [List.count_append] at this ⊢
    omega
  have pm2 : (fs ++ fh ++ fa).Perm (fd ++ fs' ++ fh) := List.perm_iff_count.mpr hc
  have ndA : (fd ++ fs' ++ fh).Nodup := pm2.nodup_iff.mp nd0
  have ownA : Own W1 H1 (fd ++ fs' ++ fh) := fun a z => by
    rcases List.mem_append.mp (pm2.mem_iff.mpr z) with z | z
    · exact p.rel.own a z
    · exact p.own a z
  have ndB : (fd ++ fh).Nodup := by
    simp only [List.nodup_append] at ndA ⊢
    exact ⟨ndA.1.1, ndA.2.1, fun a z b y => ndA.2.2 a (List.mem_append_left _ z) b y⟩
  have ownB : Own W1 H1 (fd ++ fh) := fun a z => ownA a (by simp only [List.mem_append] at z ⊢; exact z.elim (fun z => .inl (.inl z)) .inr)
  have far : ∀ a ∈ fs', a ∉ fd ++ fh := fun a z y => by
    simp only [List.nodup_append] at ndA
    rcases List.mem_append.mp y with y | y
    · exact ndA.1.2.2 a y a z rfl
    · exact ndA.2.2 a (List.mem_append_right _ z) a y rfl
  have offB : Off W1 (fd ++ fh) := fun a z => (ownB a z).1
  refine ⟨W1, ds ++ dd, m1.hs, fd, fh, r, ds', hs', hn _ _ _ e2, ?_, h2, ndB, ownB, p.rel.fix, e2, fun v W2 H2 fd2 fh2 fr l2 k2 rr nd2 own2 fix2 x2 sub2 => ?_⟩
  · have := l.app (hd W1 H1)
    rw [List.append_nil] at this
    exact this
  have ks := k.ext x2 offB far
  have lkk : Link σ (vs ++ dvs) is := lk.app
  obtain ⟨fs3, rest, k3, pm3⟩ := give_rep lkk l2 ks
  -- the owned ones now
  have far2 : ∀ a ∈ fs', a ∉ (fd2 ++ fh2) ++ fr := fun a z y => by
    rcases sub2 a y with y | y
    · exact far a z y
    · exact (ownA a (by simp [z])).2 y
  have ownfs : Own W2 H2 fs' := Own.ext (fun a z => ownA a (by simp [z])) x2 far
  have ndT : ((fd2 ++ fs') ++ fh2 ++ fr).Nodup := by
    have c : ((fd2 ++ fs') ++ fh2 ++ fr).Perm (fs' ++ ((fd2 ++ fh2) ++ fr)) := by
      rw [List.perm_iff_count]
      intro a
      simp only [List.count_append]
      omega
    rw [c.nodup_iff, List.nodup_append]
    refine ⟨?_, nd2, fun a z b y e => ?_⟩
    · simp only [List.nodup_append] at ndA
      exact ndA.1.2.1
    · subst e
      exact far2 a z y
  have pmT : ((fs3 ++ fh2 ++ fr) ++ rest).Perm ((fd2 ++ fs') ++ fh2 ++ fr) := by
    rw [List.perm_iff_count]
    intro a
    have := pm3.count_eq a
    simp only [List.count_append] at this ⊢
    omega
  have ndF : (fs3 ++ fh2 ++ fr).Nodup := by
    have := pmT.nodup_iff.mpr ndT
    rw [List.nodup_append] at this
    exact this.1
  have memF : ∀ a ∈ fs3 ++ fh2 ++ fr, a ∈ fs' ∨ a ∈ (fd2 ++ fh2) ++ fr := fun a z => by
    have := pmT.mem_iff.mp (List.mem_append_left rest z)
    simp only [List.mem_append] at this ⊢
    rcases this with ((h | h) | h) | h
    · exact .inr (.inl (.inl h))
    · exact .inl h
    · exact .inr (.inl (.inr h))
    · exact .inr (.inr h)
  have ownF : Own W2 H2 (fs3 ++ fh2 ++ fr) := fun a z => by
    rcases memF a z with h | h
    · exact ownfs a h
    · exact own2 a h
  have mem0 : ∀ a, a ∈ fd ++ fs' ++ fh → a ∈ fp ∨ H a = none := fun a z => p.sub a (pm2.mem_iff.mpr z)
  rw [List.nodup_append] at ndF
  refine q v W2 H2 (fs3 ++ fh2) fr ⟨⟨⟨fs3, fh2, rfl, k3, k2⟩, ndF.1, (Own.app.mp ownF).1, fix2⟩, rr, by rw [List.nodup_append]; exact ndF, (Own.app.mp ownF).2, p.ext.trans x2 (fun a z => mem0 a (by simp only [List.mem_append] at z ⊢; exact z.elim (fun z => .inl (.inl z)) .inr)), fun a z => ?_⟩
  rcases memF a z with h | h
  · exact mem0 a (by simp [h])
  · rcases sub2 a h with h | h
    · exact mem0 a (by simp only [List.mem_append] at h ⊢; exact h.elim (fun z => .inl (.inl z)) .inr)
    · exact .inr (p.ext.there a h)
variable {CX : CXT} {k n : Nat} {f : Addr} {fd : FuncData} {ps : List Str} {dvs : List V} {ds : List Value} {dd : List D} {x : Str} {p pos : Pos} {e : Expr} {es : List Expr} {ml : M (List Arg)} {g : CallM}
theorem me_call (F : FnOk X.prog X.w X.K X.mg X.base CX k f fd ps (spM X.K CT n g)) (hn : ∀ ds hs o, g ds hs = .ok o → ds.length = n) (hr : Room k X.A) (hg : Gl X x) (hm : X.mg x = some (.ref f)) (hk : PySem.W.keepIn X.K (.ref f) = true) (hb : Binds X.K fd ps ds) (hd : Vals dvs ds) (hdd : Consts X.K dvs dd) (hx : Passes CX X wx)
    (ha : MA X CT (e :: es) ml) (hdb : (x == ("__debug__" : Str)) = false := by decide) (he : starEach (e :: es) X.env = (false, eval e X.env) :: starEach es X.env := by rfl) (hpl : (backTo pos (starEach es X.env)).any (·.1) = false := by rfl) :
    ME X CT (.Call (.Name x p) (e :: es) [] pos) (mCall g dd ml) := pe_weak (pe_call F hr hg hm hk hb hd hx ha hdb he hpl) fun σ H Q ⟨W, m, fp, d, m', rel, e, q⟩ => by
  obtain ⟨⟨as, m1⟩, e1, e⟩ := Res.bind_eq e
  exact ⟨W, m, fp, as, m1, rel, e1, fun vs W1 H1 fp1 fa pa => sp_call hdd hn pa e q⟩
theorem me_call0 (F : FnOk X.prog X.w X.K X.mg X.base CX k f fd ps (spM X.K CT n g)) (hn : ∀ ds hs o, g ds hs = .ok o → ds.length = n) (hr : Room k X.A) (hg : Gl X x) (hm : X.mg x = some (.ref f)) (hk : PySem.W.keepIn X.K (.ref f) = true) (hb : Binds X.K fd ps ds) (hd : Vals dvs ds) (hdd : Consts X.K dvs dd) (hx : Passes CX X wx)
    (hdb : (x == ("__debug__" : Str)) = false := by decide) :
    ME X CT (.Call (.Name x p) [] [] pos) (mCall g dd maNil) := pe_weak (pe_call0 F hr hg hm hk hb hd hx hdb) fun σ H Q ⟨W, m, fp, d, m', rel, e, q⟩ => by
  obtain ⟨⟨as, m1⟩, e1, e⟩ := Res.bind_eq e
  cases e1
  show spM X.K CT n g ([] ++ dvs) H Q wx
  exact sp_call (as := []) (vs := []) (fp1 := fp) (fa := []) hdd hn ⟨rel, .nil, by rw [List.append_nil]; exact rel.nd, Own.nil, Ext.refl _ _ _, fun a z => .inl (by simpa using z)⟩ e q
end
end E
/-! EngH: statements, targets, while -/
namespace E
open PySem L2

inductive Fl where
  | nx | bk | ct
  | rt (d : D)
abbrev MS := Mem → Res (Fl × Mem)
section
variable (K : PySem.W.Frag) (CT : Nat → Addr)
structure PostS (pin : List Nat) (W : Wd) (H : Hp) (σ : L2.St) (fp : List Addr) (m' : Mem) (σ' : L2.St) (W' : Wd) (H' : Hp) (fp' : List Addr) : Prop where
  rel : Rel K CT W' H' σ' m' fp'
  ext : Ext W H W' H' fp
  sub : ∀ a ∈ fp', a ∈ fp ∨ H a = none
  pin : ∀ i ∈ pin, σ'[i]? = σ[i]?
  len : σ'.length = σ.length
structure PostR (pin : List Nat) (W : Wd) (H : Hp) (σ : L2.St) (fp : List Addr) (v : V) (d : D) (m' : Mem) (σ' : L2.St) (W' : Wd) (H' : Hp) (fp' fd : List Addr) : Prop where
  rel : Rel K CT W' H' σ' m' fp'
  rep : RepD K W' H' v d fd
  nd : (fp' ++ fd).Nodup
  own : Own W' H' fd
  ext : Ext W H W' H' fp
  sub : ∀ a ∈ fp' ++ fd, a ∈ fp ∨ H a = none
  pin : ∀ i ∈ pin, σ'[i]? = σ[i]?
def Then (pin : List Nat) (W : Wd) (H : Hp) (σ : L2.St) (fp : List Addr) (m' : Mem) (D : Ends) : Fl → Prop
  | .nx => ∀ σ' W' H' fp', PostS K CT pin W H σ fp m' σ' W' H' fp' → D.nx σ' H'
  | .bk => ∀ σ' W' H' fp', PostS K CT pin W H σ fp m' σ' W' H' fp' → D.bk σ' H'
  | .ct => ∀ σ' W' H' fp', PostS K CT pin W H σ fp m' σ' W' H' fp' → D.ct σ' H'
  | .rt d => ∀ v σ' W' H' fp' fd, PostR K CT pin W H σ fp v d m' σ' W' H' fp' fd → D.rt v H'
def tS (pin : List Nat) (s : MS) : TS := fun D σ H => ∃ W m fp fl m', Rel K CT W H σ m fp ∧ s m = .ok (fl, m') ∧ Then K CT pin W H σ fp m' D fl
/-- targets -/
def tG (pin : List Nat) (b : D → Mem → Res Mem) : TG := fun v σ H Q => ∃ W m fp d fd m', Rel K CT W H σ m fp ∧ RepD K W H v d fd ∧ (fp ++ fd).Nodup ∧ Own W H fd ∧ b d m = .ok m' ∧
  ∀ σ' W' H' fp', PostS K CT pin W H σ (fp ++ fd) m' σ' W' H' fp' → Q σ' H'
def tGs (pin : List Nat) (b : List D → Mem → Res Mem) : TGs := fun vs σ H Q => ∃ W m fp ds fd m', Rel K CT W H σ m fp ∧ RepL K W H vs ds fd ∧ (fp ++ fd).Nodup ∧ Own W H fd ∧ b ds m = .ok m' ∧
  ∀ σ' W' H' fp', PostS K CT pin W H σ (fp ++ fd) m' σ' W' H' fp' → Q σ' H'
end
def MSt (X : Cx) (CT : Nat → Addr) (pin : List Nat) (st : Stmt) (s : MS) : Prop := PS X st (tS X.K CT pin s)
def MSs (X : Cx) (CT : Nat → Addr) (pin : List Nat) (st : List Stmt) (s : MS) : Prop := PSs X st (tS X.K CT pin s)
def MG (X : Cx) (CT : Nat → Addr) (pin : List Nat) (e : Expr) (b : D → Mem → Res Mem) : Prop := PG X e (tG X.K CT pin b)
def MGs (X : Cx) (CT : Nat → Addr) (pin : List Nat) (es : List Expr) (b : List D → Mem → Res Mem) : Prop := PGs X es (tGs X.K CT pin b)

section
variable {K : PySem.W.Frag} {CT : Nat → Addr} {pin : List Nat} {W W' W1 W2 : Wd} {H H' H1 H2 : Hp} {σ σ1 σ2 : L2.St} {m m' m1 m2 : Mem} {fp fp' fd fp1 fp2 fd1 fd2 g : List Addr} {v v1 v2 : V} {d d1 d2 : D}
theorem PostS.refl (r : Rel K CT W H σ m fp) : PostS K CT pin W H σ fp m σ W H fp := ⟨r, Ext.refl _ _ _, fun a z => .inl z, fun _ _ => rfl, rfl⟩
theorem PostS.trans (p : PostS K CT pin W H σ fp m1 σ1 W1 H1 fp1) (q : PostS K CT pin W1 H1 σ1 fp1 m2 σ2 W2 H2 fp2) : PostS K CT pin W H σ fp m2 σ2 W2 H2 fp2 :=
  ⟨q.rel, p.ext.trans q.ext p.sub, subT p.sub q.sub p.ext.there, fun i h => (q.pin i h).trans (p.pin i h), q.len.trans p.len⟩
theorem PostS.transR (p : PostS K CT pin W H σ fp m1 σ1 W1 H1 fp1) (q : PostR K CT pin W1 H1 σ1 fp1 v d m2 σ2 W2 H2 fp2 fd) : PostR K CT pin W H σ fp v d m2 σ2 W2 H2 fp2 fd :=
  ⟨q.rel, q.rep, q.nd, q.own, p.ext.trans q.ext p.sub, subT p.sub q.sub p.ext.there, fun i h => (q.pin i h).trans (p.pin i h)⟩
theorem PostT.s (p : PostT K CT W H σ fp m1 W1 H1 fp1) : PostS K CT pin W H σ fp m1 σ W1 H1 fp1 := ⟨p.rel, p.ext, p.sub, fun _ _ => rfl, rfl⟩
theorem Post.r (p : Post K CT W H σ fp v d m1 W1 H1 fp1 fd) : PostR K CT pin W H σ fp v d m1 σ W1 H1 fp1 fd := ⟨p.rel, p.rep, p.nd, p.own, p.ext, p.sub, fun _ _ => rfl⟩
theorem PostS.r0 (p : PostS K CT pin W H σ fp m1 σ1 W1 H1 fp1) (r : RepD K W1 H1 v d []) : PostR K CT pin W H σ fp v d m1 σ1 W1 H1 fp1 [] :=
  ⟨p.rel, r, by rw [List.append_nil]; exact p.rel.nd, Own.nil, p.ext, fun a z => p.sub a (by simpa using z), p.pin⟩
/-- a statement in a state that was reached -/
theorem tS.from {s : MS} {D : Ends} {fl : Fl} (p : PostS K CT pin W H σ fp m1 σ1 W1 H1 fp1) (e : s m1 = .ok (fl, m2))
    (k : Then K CT pin W H σ fp m2 D fl) : tS K CT pin s D σ1 H1 := by
  refine ⟨W1, m1, fp1, fl, m2, p.rel, e, ?_⟩
  cases fl with
  | nx => exact fun σ' W' H' fp' q => k σ' W' H' fp' (p.trans q)
  | bk => exact fun σ' W' H' fp' q => k σ' W' H' fp' (p.trans q)
  | ct => exact fun σ' W' H' fp' q => k σ' W' H' fp' (p.trans q)
  | rt d => exact fun v σ' W' H' fp' fd q => k v σ' W' H' fp' fd (p.transR q)
end

def sPass : MS := fun m => .ok (.nx, m)
def sBk : MS := fun m => .ok (.bk, m)
def sCt : MS := fun m => .ok (.ct, m)
def sNever : MS := fun _ => .fail
def sSeq (a b : MS) : MS := fun m => (a m).bind fun r => match r.1 with
  | .nx => b r.2
  | .bk => .ok (.bk, r.2)
  | .ct => .ok (.ct, r.2)
  | .rt d => .ok (.rt d, r.2)
def sEx (e : M D) : MS := fun m => (e m).bind fun r => .ok (.nx, r.2)
def sRt (e : M D) : MS := fun m => (e m).bind fun r => .ok (.rt r.1, r.2)
def sRtN : MS := fun m => .ok (.rt .non, m)
def sIf (t : M Bool) (a b : MS) : MS := fun m => (t m).bind fun r => if r.1 = true then a r.2 else b r.2
def sAsg (e : M D) (b : D → Mem → Res Mem) : MS := fun m => (e m).bind fun r => (b r.1 r.2).bind fun m' => .ok (.nx, m')
def bName (i : Nat) : D → Mem → Res Mem := fun d m => Res.when (decide (i < m.env.length)) (.ok { m with env := m.env.set i d })
def bNil : List D → Mem → Res Mem
  | [], m => .ok m
  | _ :: _, _ => .fail
def bCons (b : D → Mem → Res Mem) (bs : List D → Mem → Res Mem) : List D → Mem → Res Mem
  | d :: ds, m => (b d m).bind (bs ds)
  | [], _ => .fail
def bTup (n : Nat) (bs : List D → Mem → Res Mem) : D → Mem → Res Mem
  | .tup ds, m => Res.when (decide (ds.length = n)) (bs ds m)
  | _, _ => .fail
/-- the targets of a list's items (or a tuple's) -/
def bLst (n : Nat) (bs : List D → Mem → Res Mem) : D → Mem → Res Mem
  | .lst _ ds, m => Res.when (decide (ds.length = n) && pureL ds) (bs ds m)
  | _, _ => .fail
def whileM (t : M Bool) (b : MS) : Nat → MS
  | 0 => fun _ => .fail
  | n + 1 => fun m => (t m).bind fun r => if r.1 = true then (b r.2).bind fun o => match o.1 with
      | .nx => whileM t b n o.2
      | .ct => whileM t b n o.2
      | .bk => .ok (.nx, o.2)
      | .rt d => .ok (.rt d, o.2)
    else .ok (.nx, r.2)

section
variable {X : Cx} {CT : Nat → Addr} {pin : List Nat} {e a b c : Expr} {st : Stmt} {rest body : List Stmt} {pos : Pos} {me : M D} {tt : M Bool} {s1 s2 : MS} {i : Nat} {bb : D → Mem → Res Mem} {bs : List D → Mem → Res Mem}
theorem mst_pass : MSt X CT pin (.Pass pos) sPass := ps_weak ps_pass fun D σ H ⟨W, m, fp, fl, m', rel, e, k⟩ => by
  cases e
  exact k σ W H fp (.refl rel)
theorem mst_bk : MSt X CT pin (.Break pos) sBk := ps_weak ps_break fun D σ H ⟨W, m, fp, fl, m', rel, e, k⟩ => by
  cases e
  exact k σ W H fp (.refl rel)
theorem mst_ct : MSt X CT pin (.Continue pos) sCt := ps_weak ps_continue fun D σ H ⟨W, m, fp, fl, m', rel, e, k⟩ => by
  cases e
  exact k σ W H fp (.refl rel)
theorem mst_never : MSt X CT pin st sNever := ⟨fun _ _ _ _ _ _ ⟨_, _, _, _, _, _, e, _⟩ => by cases e⟩
theorem mst_doc {x j pos'} : MSt X CT pin (.Expr (.Constant (.str x) j pos) pos') sPass := ps_weak ps_doc fun D σ H ⟨W, m, fp, fl, m', rel, e, k⟩ => by
  cases e
  exact k σ W H fp (.refl rel)
theorem mss_nil : MSs X CT pin [] sPass := pss_weak pss_nil fun D σ H ⟨W, m, fp, fl, m', rel, e, k⟩ => by
  cases e
  exact k σ W H fp (.refl rel)
theorem mss_one (h : MSt X CT pin st s1) : MSs X CT pin [st] s1 := pss_one h
theorem mss_cons (h1 : MSt X CT pin st s1) (h2 : MSs X CT pin rest s2) : MSs X CT pin (st :: rest) (sSeq s1 s2) := pss_weak (pss_cons h1 h2) fun D σ H ⟨W, m, fp, fl, m', rel, e, k⟩ => by
  obtain ⟨⟨f1, m1⟩, e1, e⟩ := Res.bind_eq e
  refine ⟨W, m, fp, f1, m1, rel, e1, ?_⟩
  cases f1 with
  | nx => exact fun σ1 W1 H1 fp1 p => tS.from p e k
  | bk => cases e; exact k
  | ct => cases e; exact k
  | rt d => cases e; exact k
theorem mst_ex (h : ME X CT e me) (hs : swapsWith e none pos.line X.env = pure false := by rfl) : MSt X CT pin (.Expr e pos) (sEx me) := ps_weak (ps_expr h hs) fun D σ H ⟨W, m, fp, fl, m', rel, e, k⟩ => by
  obtain ⟨⟨d, m1⟩, e1, e⟩ := Res.bind_eq e
  cases e
  exact ⟨W, m, fp, d, _, rel, e1, fun v W' H' fp' fd p => k σ W' H' fp' p.t.s⟩
theorem mst_rt (h : ME X CT e me) : MSt X CT pin (.Return (some e) pos) (sRt me) := ps_weak (ps_ret h) fun D σ H ⟨W, m, fp, fl, m', rel, e, k⟩ => by
  obtain ⟨⟨d, m1⟩, e1, e⟩ := Res.bind_eq e
  cases e
  exact ⟨W, m, fp, d, _, rel, e1, fun v W' H' fp' fd p => k v σ W' H' fp' fd p.r⟩
theorem mst_rtN : MSt X CT pin (.Return none pos) sRtN := ps_weak ps_retN fun D σ H ⟨W, m, fp, fl, m', rel, e, k⟩ => by
  cases e
  exact k .non σ W H fp [] ((PostS.refl rel).r0 .non)
theorem mst_if (hc : MT X CT c tt) (h1 : MSs X CT pin body s1) (h2 : MSs X CT pin rest s2) : MSt X CT pin (.If c body rest pos) (sIf tt s1 s2) := ps_weak (ps_if hc h1 h2) fun D σ H ⟨W, m, fp, fl, m', rel, e, k⟩ => by
  obtain ⟨⟨c1, m1⟩, e1, e⟩ := Res.bind_eq e
  refine ⟨W, m, fp, c1, m1, rel, e1, fun W1 H1 fp1 p => ?_⟩
  cases c1 with
  | true => exact iteT (tS.from (p.s (σ := σ)) e k)
  | false => exact iteF (tS.from (p.s (σ := σ)) e k)

/-! ### targets -/
theorem bName_rep {K : PySem.W.Frag} {W : Wd} {H : Hp} {σ : L2.St} {fp fd : List Addr} {m m' : Mem} {v : V} {d : D} {Q : L2.St → Hp → Prop} (hp : i ∉ pin) (rel : Rel K CT W H σ m fp) (rp : RepD K W H v d fd) (nd : (fp ++ fd).Nodup) (own : Own W H fd) (e : bName i d m = .ok m')
    (k : ∀ σ' W' H' fp', PostS K CT pin W H σ (fp ++ fd) m' σ' W' H' fp' → Q σ' H') : Q (σ.set i (some v)) H := by
  obtain ⟨hl, e⟩ := Res.when_eq e
  cases e
  obtain ⟨f, g, rfl, h1, h2⟩ := rel.s
  obtain ⟨A, f0, B, rfl, k0⟩ := h1.put (of_decide_eq_true hl)
  have pm : ((A ++ fd ++ B) ++ g ++ f0).Perm (A ++ f0 ++ B ++ g ++ fd) := by
    rw [List.perm_iff_count]; intro a; simp only [List.count_append]; omega
  have nd2 := pm.nodup_iff.mpr nd
  have mem : ∀ a ∈ (A ++ fd ++ B) ++ g, a ∈ A ++ f0 ++ B ++ g ++ fd := fun a z => pm.mem_iff.mp (List.mem_append_left _ z)
  refine k _ W H ((A ++ fd ++ B) ++ g) ⟨⟨⟨_, g, rfl, k0 rp, h2⟩, ?_, fun a z => ?_, rel.fix⟩, Ext.refl _ _ _, fun a z => .inl (mem a z), fun j hj => ?_, ?_⟩
  · rw [List.nodup_append] at nd2
    exact nd2.1
  · rcases List.mem_append.mp (mem a z) with z | z
    · exact rel.own a z
    · exact own a z
  · rw [List.getElem?_set_ne (fun z => hp (by rw [z]; exact hj))]
  · rw [List.length_set]
theorem mg_name {x : Str} (hN : X.N.Nodup) (hi : X.N[i]? = some x) (hx : Loc X.env.scope x) (hp : i ∉ pin) (hf : X.fn x = true ∨ X.env.scope.names.lookup x = some .local := by first | exact .inl rfl | exact .inr rfl | assumption) : MG X CT pin (.Name x pos) (bName i) := by
  refine ⟨fun pins s σ H v u Q I r h => (pg_name (pos := pos) hN hi hx hf).run pins s σ H v u Q I r ?_⟩
  obtain ⟨W, m, fp, d, fd, m', rel, rp, nd, own, e, k⟩ := h
  exact bName_rep hp rel rp nd own e k
theorem mgs_nil : MGs X CT pin [] bNil := by
  refine ⟨fun pins s σ H vs us Q I r h => pgs_nil.run pins s σ H vs us Q I r ?_⟩
  obtain ⟨W, m, fp, ds, fd, m', rel, rp, nd, own, e, k⟩ := h
  cases rp with
  | nil =>
    cases e
    refine ⟨rfl, ?_⟩
    rw [List.append_nil] at k
    exact k σ W H fp (.refl rel)
  | cons _ _ => cases e
theorem mgs_cons {es : List Expr} (h1 : MG X CT pin e bb) (h2 : MGs X CT pin es bs) (hs : (assignEach (e :: es) X.env).map (·.2) = assign e X.env :: (assignEach es X.env).map (·.2) := by rfl) : MGs X CT pin (e :: es) (bCons bb bs) := by
  refine ⟨fun pins s σ H vs us Q I r h => (pgs_cons h1 h2 hs).run pins s σ H vs us Q I r ?_⟩
  obtain ⟨W, m, fp, ds, fd, m', rel, rp, nd, own, e, k⟩ := h
  cases rp with
  | nil => cases e
  | @cons v d f vs ds g rd rl =>
    obtain ⟨m1, e1, e⟩ := Res.bind_eq e
    have nd' := nd
    rw [← List.append_assoc, List.nodup_append] at nd'
    obtain ⟨own1, own2⟩ := Own.app.mp own
    refine ⟨v, vs, rfl, W, m, fp, d, f, m1, rel, rd, nd'.1, own1, e1, fun σ1 W1 H1 fp1 p => ?_⟩
    have far : ∀ a ∈ g, a ∉ fp ++ f := fun a z y => nd'.2.2 a y a z rfl
    have offA : Off W (fp ++ f) := fun a z => by
      rcases List.mem_append.mp z with z | z
      · exact (rel.own a z).1
      · exact (own1 a z).1
    refine ⟨W1, m1, fp1, ds, g, m', p.rel, rl.ext p.ext offA far, ?_, own2.ext p.ext far, e, fun σ2 W2 H2 fp2 q => k σ2 W2 H2 fp2 ?_⟩
    · rw [List.nodup_append]
      refine ⟨p.rel.nd, nd'.2.1, fun a z b y e => ?_⟩
      subst e
      rcases p.sub a z with z | z
      · exact far a y z
      · exact (own2 a y).2 z
    · have s1 : ∀ a ∈ fp1 ++ g, a ∈ fp ++ (f ++ g) ∨ H a = none := fun a z => by
        rcases List.mem_append.mp z with z | z
        · rcases p.sub a z with z | z
          · exact .inl (by rw [← List.append_assoc]; exact List.mem_append_left _ z)
          · exact .inr z
        · exact .inl (by simp [z])
      exact ⟨q.rel, Ext.trans (p.ext.sub fun a z => by rw [← List.append_assoc]; exact List.mem_append_left _ z) q.ext s1, subT s1 q.sub p.ext.there, fun i h => (q.pin i h).trans (p.pin i h), q.len.trans p.len⟩
theorem mg_tup {es : List Expr} {k n : Nat} (hc : X.calm = true) (h : MGs X CT pin es bs) (hn : (assignEach es X.env).length = n := by rfl) (hst : (assignEach es X.env).findIdx? (·.1) = none := by rfl) : MG X CT pin (.Tuple es k pos) (bTup n bs) := by
  refine ⟨fun pins s σ H v u Q I r h0 => (pg_tup hc h hn hst).run pins s σ H v u Q I r ?_⟩
  obtain ⟨W, m, fp, d, fd, m', rel, rp, nd, own, e, k⟩ := h0
  unfold bTup at e
  split at e
  · obtain ⟨hl, e⟩ := Res.when_eq e
    obtain ⟨a, vs, rfl, sq, _, l⟩ := rp.tupl
    exact ⟨a, vs, rfl, sq, by rw [l.length]; exact of_decide_eq_true hl, W, m, fp, _, fd, m', rel, l, nd, own, e, k⟩
  · cases e
theorem mg_lst {es : List Expr} {k n : Nat} (hc : X.calm = true) (h : MGs X CT pin es bs) (hn : (assignEach es X.env).length = n := by rfl) (hst : (assignEach es X.env).findIdx? (·.1) = none := by rfl) : MG X CT pin (.Tuple es k pos) (bLst n bs) := by
  refine ⟨fun pins s σ H v u Q I r h0 => (pg_unl hc h hn hst).run pins s σ H v u Q I r ?_⟩
  obtain ⟨W, m, fp, d, fd, m', rel, rp, nd, own, e, k⟩ := h0
  unfold bLst at e
  split at e
  · obtain ⟨hl, e⟩ := Res.when_eq e
    rw [Bool.and_eq_true] at hl
    obtain ⟨a, vs, g, rfl, sq, l, sb⟩ := rp.lst
    obtain rfl := l.pure hl.2
    refine ⟨a, vs, rfl, sq, by rw [l.length]; exact of_decide_eq_true hl.1, W, m, fp, _, [], m', rel, l, by rw [List.append_nil]; exact rel.nd, Own.nil, e, fun σ' W' H' fp' p => k σ' W' H' fp' ⟨p.rel, p.ext.sub fun a z => ?_, fun a z => ?_, p.pin, p.len⟩⟩
    · rw [List.append_nil] at z
      exact List.mem_append_left _ z
    · rcases p.sub a z with z | z
      · rw [List.append_nil] at z
        exact .inl (List.mem_append_left _ z)
      · exact .inr z
  · cases e
theorem mst_asg {tg : Expr} (he : ME X CT e me) (hg : MG X CT pin tg bb) (hs : swapsWithSole [tg] e pos.line X.env = pure false := by rfl) (hw : swappedStores [tg] e X.env = pure none := by rfl)
    (h1 : (assignEach [tg] X.env).map (·.2) = [assign tg X.env] := by rfl) : MSt X CT pin (.Assign [tg] e pos) (sAsg me bb) := ps_weak (ps_asg he hg hs hw h1) fun D σ H ⟨W, m, fp, fl, m', rel, e, k⟩ => by
  obtain ⟨⟨d, m1⟩, e1, e⟩ := Res.bind_eq e
  obtain ⟨m2, e2, e⟩ := Res.bind_eq e
  cases e
  refine ⟨W, m, fp, d, m1, rel, e1, fun v W1 H1 fp1 fd p => ⟨W1, m1, fp1, d, fd, _, p.rel, p.rep, p.nd, p.own, e2, fun σ' W' H' fp' q => k σ' W' H' fp' ⟨q.rel, p.ext.trans q.ext p.sub, subT p.sub q.sub p.ext.there, q.pin, q.len⟩⟩⟩

/-! ### while -/
theorem mst_while (n : Nat) (hp : PassesOwn (model X.prog X.w) X.A X.env X.xe) (hc : MT X CT c tt) (hb : MSs X CT pin body s1) : MSt X CT pin (.While c body [] pos) (whileM tt s1 n) := ps_weak (ps_while hp hc hb) fun D σ H h => by
  refine ⟨fun k σ H => tS X.K CT pin (whileM tt s1 k) D σ H, ⟨n, h⟩, fun k σ H ⟨W, m, fp, fl, m', rel, e, kk⟩ => ?_⟩
  cases k with
  | zero => cases e
  | succ k =>
    obtain ⟨⟨c1, m1⟩, e1, e⟩ := Res.bind_eq e
    refine ⟨W, m, fp, c1, m1, rel, e1, fun W1 H1 fp1 p => ?_⟩
    cases c1 with
    | false =>
      cases e
      exact iteF (kk σ W1 H1 fp1 p.s)
    | true =>
      refine iteT ⟨fun σ' H' => tS X.K CT pin (whileM tt s1 k) D σ' H', fun σ' H' h => ⟨k, Nat.lt_succ_self k, h⟩, ?_⟩
      obtain ⟨⟨f1, m2⟩, e2, e⟩ := Res.bind_eq e
      refine tS.from (p.s (σ := σ)) e2 ?_
      cases f1 with
      | nx => exact fun σ2 W2 H2 fp2 q => tS.from q e kk
      | ct => exact fun σ2 W2 H2 fp2 q => tS.from q e kk
      | bk => cases e; exact kk
      | rt d => cases e; exact kk
end
end E
/-! EngI: for, comprehensions -/
namespace E
open PySem L2

/-- what is walked: its items, and what must stay so -/
abbrev It := List D × (Mem → Prop)
section
variable (K : PySem.W.Frag) (CT : Nat → Addr)
def Runs (pi : List Nat) (J : L2.It) (W : Wd) (H : Hp) (σ : L2.St) (fp : List Addr) (xs : List D) (ok : Mem → Prop) : Prop :=
  ∀ m2 σ2 W2 H2 fp2, PostS K CT pi W H σ fp m2 σ2 W2 H2 fp2 → ok m2 → ∀ i,
    (∀ d, xs[i]? = some d → J.go i H2 ∧ ∀ x H3, J.yld i H2 x H3 → ∃ W3, RepD K W3 H3 x d [] ∧ Ext W2 H2 W3 H3 [] ∧ W3.ι = W2.ι ∧ Fix W3 H3) ∧ (xs.length ≤ i → J.stop i H2)
def tI (pi : List Nat) (e : M It) : TI := fun σ H R => ∃ W m fp it m', Rel K CT W H σ m fp ∧ e m = .ok (it, m') ∧
  ∀ J W' H' fp', PostT K CT W H σ fp m' W' H' fp' → Runs K CT pi J W' H' σ fp' it.1 it.2 → R J H'
end
def MI (X : Cx) (CT : Nat → Addr) (pi : List Nat) (tg e : Expr) (it : M It) : Prop := PI X tg e (tI X.K CT pi it)
theorem pi_weak {X : Cx} {tg e : Expr} {t t' : TI} (h : PI X tg e t) (k : ∀ σ H R, t' σ H R → t σ H R) : PI X tg e t' := ⟨fun pins s σ H R I q => h.run pins s σ H R I (k σ H R q)⟩
theorem pi_or {X : Cx} {tg e : Expr} {t t' : TI} (h : PI X tg e t) (h' : PI X tg e t') : PI X tg e (fun σ H R => t σ H R ∨ t' σ H R) := ⟨fun pins s σ H R I q => q.elim (h.run pins s σ H R I) (h'.run pins s σ H R I)⟩

@[simp] def itOf (ok : Mem → Prop) : D → Res It
  | .lst _ xs => Res.when (pureL xs) (.ok (xs, ok))
  | .tup xs => Res.when (pureL xs) (.ok (xs, fun (_ : Mem) => True))
  | _ => .fail
def miV (e : M D) : M It := fun m => (e m).bind fun r => (itOf (fun (_ : Mem) => True) r.1).bind fun it => .ok (it, r.2)
def miN (i : Nat) : M It := fun m => (mqVar i m).bind fun d => (itOf (fun m' => m'.env[i]? = some d) d).bind fun it => .ok (it, m)
def rangeD (lo : Int) (n : Nat) : List D := (List.range n).map fun (k : Nat) => D.int (lo + (k : Int))
noncomputable def b62 (i : Int) : Bool := cdec (-4611686018427387904 ≤ i ∧ i < 4611686018427387904)
noncomputable def miR1 (a : M (List Arg)) : M It := fun m => (a m).bind fun r => (conts r.2.env r.1).bind fun ds => match ds with
  | [.int j] => Res.when (b62 j) (.ok ((rangeD 0 j.toNat, fun (_ : Mem) => True), r.2))
  | _ => .fail
noncomputable def miR2 (a : M (List Arg)) : M It := fun m => (a m).bind fun r => (conts r.2.env r.1).bind fun ds => match ds with
  | [.int i, .int j] => Res.when (b62 i && b62 j) (.ok ((rangeD i (j - i).toNat, fun (_ : Mem) => True), r.2))
  | _ => .fail
section
variable {K : PySem.W.Frag} {CT : Nat → Addr} {pi : List Nat} {W W2 : Wd} {H H2 : Hp} {σ σ2 : L2.St} {m2 : Mem} {fp fp2 : List Addr}
theorem RepL.item {vs : List V} {ds : List D} (l : RepL K W H vs ds []) {i : Nat} {d : D} (e : ds[i]? = some d) : ∃ v, vs[i]? = some v ∧ RepD K W H v d [] := by
  obtain ⟨v, f, h1, h2, h3⟩ := l.get e
  have : f = [] := List.eq_nil_iff_forall_not_mem.mpr fun a z => by cases h3 a z
  subst this
  exact ⟨v, h1, h2⟩
theorem RepD.lstQ {v : V} {o : Bool} {ds : List D} {g : List Addr} (h : RepD K W H v (.lst o ds) g) (p : pureL ds = true) : ∃ a vs, v = .ref a ∧ SqL K H a vs ∧ RepL K W H vs ds [] ∧
    ∀ {W' H' fq}, Ext W H W' H' fq → Off W fq → (∀ b ∈ g, b ∉ fq) → SqL K H' a vs := by
  cases h with
  | lstF h l => exact ⟨_, _, rfl, h.sq, l, fun x o _ => (h.ext x o).sq⟩
  | lstO h l =>
    obtain rfl := l.pure p
    exact ⟨_, _, rfl, .inl (.inl h), l, fun x o n => .inl (.inl (x.keep _ _ h (n _ (List.mem_cons_self ..))))⟩
theorem runs_l {a : Addr} {xs : List D} {ok : Mem → Prop} (h : ∀ m2 σ2 W2 H2 fp2, PostS K CT pi W H σ fp m2 σ2 W2 H2 fp2 → ok m2 → ∃ vs, SqL K H2 a vs ∧ RepL K W2 H2 vs xs []) : Runs K CT pi (Itl K a) W H σ fp xs ok := by
  intro m2 σ2 W2 H2 fp2 p o i
  obtain ⟨vs, s, l⟩ := h m2 σ2 W2 H2 fp2 p o
  refine ⟨fun d e => ?_, fun hl => ⟨vs, s, by rw [l.length]; exact hl⟩⟩
  obtain ⟨v, h1, h2⟩ := l.item e
  refine ⟨⟨vs, v, s, h1⟩, fun x H3 y => ?_⟩
  obtain ⟨rfl, y⟩ := y
  have := y vs s
  rw [h1] at this
  cases this
  exact ⟨W2, h2, Ext.refl _ _ _, rfl, p.rel.fix⟩
theorem runs_t {a : Addr} {xs : List D} {ok : Mem → Prop} (h : ∀ m2 σ2 W2 H2 fp2, PostS K CT pi W H σ fp m2 σ2 W2 H2 fp2 → ok m2 → ∃ vs, SqT K H2 a vs ∧ RepL K W2 H2 vs xs []) : Runs K CT pi (Itt K a) W H σ fp xs ok := by
  intro m2 σ2 W2 H2 fp2 p o i
  obtain ⟨vs, s, l⟩ := h m2 σ2 W2 H2 fp2 p o
  refine ⟨fun d e => ?_, fun hl => ⟨vs, s, by rw [l.length]; exact hl⟩⟩
  obtain ⟨v, h1, h2⟩ := l.item e
  refine ⟨⟨vs, v, s, h1⟩, fun x H3 y => ?_⟩
  obtain ⟨rfl, y⟩ := y
  have := y vs s
  rw [h1] at this
  cases this
  exact ⟨W2, h2, Ext.refl _ _ _, rfl, p.rel.fix⟩
theorem runs_r {lo : Int} {n : Nat} {ok : Mem → Prop} : Runs K CT pi (Itr lo n) W H σ fp (rangeD lo n) ok := by
  intro m2 σ2 W2 H2 fp2 p o i
  unfold rangeD
  refine ⟨fun d e => ?_, fun hl => by
    have hl : n ≤ i := by simpa using hl
    exact hl⟩
  have hi : i < n := by
    have := (List.getElem?_eq_some_iff.mp e).1
    simpa using this
  rw [List.getElem?_map, List.getElem?_range hi] at e
  cases e
  refine ⟨hi, fun x H3 y => ?_⟩
  obtain ⟨rfl, rfl⟩ := y
  exact ⟨W2, .int, Ext.refl _ _ _, rfl, p.rel.fix⟩
end
section
variable {X : Cx} {CT : Nat → Addr} {pi pin : List Nat} {e tg : Expr} {es : List Expr} {body : List Stmt} {pos p0 : Pos} {me : M D} {i : Nat} {ml : M (List Arg)} {it : M It} {bb : D → Mem → Res Mem} {s1 : MS}
theorem mi_v (h : ME X CT e me) : MI X CT pi tg e (miV me) := pi_weak (pi_or (pi_list h) (pi_tup h)) fun σ H R ⟨W, m, fp, it, m', rel, e, k⟩ => by
  obtain ⟨⟨d, m1⟩, e1, e⟩ := Res.bind_eq e
  obtain ⟨it1, e2, e⟩ := Res.bind_eq e
  cases e
  dsimp only at e2
  unfold itOf at e2
  split at e2
  · obtain ⟨p0, e2⟩ := Res.when_eq e2
    cases e2
    refine .inl ⟨W, m, fp, _, _, rel, e1, fun v W1 H1 fp1 fd p => ?_⟩
    obtain ⟨a, vs, rfl, s, l, st⟩ := p.rep.lstQ p0
    have nd := p.nd
    rw [List.nodup_append] at nd
    exact ⟨a, rfl, ⟨vs, s⟩, k _ W1 H1 fp1 p.t (runs_l fun m2 σ2 W2 H2 fp2 q _ => ⟨vs, st q.ext p.rel.off (fun b z y => nd.2.2 b y b z rfl), l.ext q.ext p.rel.off fun a z => by cases z⟩)⟩
  · obtain ⟨p0, e2⟩ := Res.when_eq e2
    cases e2
    refine .inr ⟨W, m, fp, _, _, rel, e1, fun v W1 H1 fp1 fd p => ?_⟩
    obtain ⟨a, vs, rfl, s, z, l⟩ := p.rep.tupl
    obtain rfl := l.pure p0
    exact ⟨a, rfl, ⟨vs, s⟩, k _ W1 H1 fp1 p.t (runs_t fun m2 σ2 W2 H2 fp2 q _ => ⟨vs, (z.ext q.ext p.rel.off).sq, l.ext q.ext p.rel.off fun a z => by cases z⟩)⟩
  · cases e2
theorem mi_n (h : PE X e (tVar i)) : MI X CT [i] tg e (miN i) := pi_weak (pi_or (pi_list h) (pi_tup h)) fun σ H R ⟨W, m, fp, it, m', rel, e, k⟩ => by
  obtain ⟨d, e1, e⟩ := Res.bind_eq e
  obtain ⟨it1, e2, e⟩ := Res.bind_eq e
  cases e
  obtain ⟨q1, q2⟩ := mqVar_eq e1
  obtain ⟨v, s, f1, rp⟩ : ∃ v, σ[i]? = some (some v) ∧ ∃ f1, RepD X.K W H v d f1 := by
    obtain ⟨f, g, rfl, h1, h2⟩ := rel.s
    obtain ⟨v, _, f1, _, _, s, r, _⟩ := h1.at q1 q2
    exact ⟨v, s, f1, r⟩
  have post : PostT X.K CT W H σ fp m W H fp := ⟨rel, Ext.refl _ _ _, fun a z => .inl z⟩
  have again : ∀ m2 σ2 W2 H2 fp2, PostS X.K CT [i] W H σ fp m2 σ2 W2 H2 fp2 → m2.env[i]? = some d → ∃ f, RepD X.K W2 H2 v d f := fun m2 σ2 W2 H2 fp2 p o => by
    obtain ⟨f, g, rfl, h1, h2⟩ := p.rel.s
    obtain ⟨v', _, f1, _, _, s', r, _⟩ := h1.at o q2
    rw [p.pin i (List.mem_cons_self ..), s] at s'
    cases s'
    exact ⟨f1, r⟩
  unfold itOf at e2
  split at e2
  · obtain ⟨p0, e2⟩ := Res.when_eq e2
    cases e2
    obtain ⟨a, vs, g, rfl, sq, l, sb⟩ := rp.lst
    refine .inl ⟨_, s, a, rfl, ⟨vs, sq⟩, k _ W H fp post (runs_l fun m2 σ2 W2 H2 fp2 q o => ?_)⟩
    obtain ⟨f, r⟩ := again m2 σ2 W2 H2 fp2 q o
    obtain ⟨a', vs', g', e', sq', l', _⟩ := r.lst
    cases e'
    obtain rfl := l'.pure p0
    exact ⟨vs', sq', l'⟩
  · obtain ⟨p0, e2⟩ := Res.when_eq e2
    cases e2
    obtain ⟨a, vs, rfl, sq, z, l⟩ := rp.tupl
    obtain rfl := l.pure p0
    refine .inr ⟨_, s, a, rfl, ⟨vs, sq⟩, k _ W H fp post (runs_t fun m2 σ2 W2 H2 fp2 q o => ⟨vs, (z.ext q.ext rel.off).sq, l.ext q.ext rel.off fun a z => by cases z⟩)⟩
  · cases e2
theorem b62_eq {i : Int} (h : b62 i = true) : -(2 ^ 62) ≤ i ∧ i < 2 ^ 62 := of_cdec h
theorem mi_r1 {a : Expr} (hg : Gl X "range") (hm : X.mg "range" = none) (h : MA X CT [a] ml) (hs : starEach [a] X.env = [(false, eval a X.env)] := by rfl) :
    MI X CT pi tg (.Call (.Name "range" p0) [a] [] pos) (miR1 ml) := pi_weak (pi_range1 hg hm h hs) fun σ H R ⟨W, m, fp, it, m', rel, e, k⟩ => by
  obtain ⟨⟨as, m1⟩, e1, e⟩ := Res.bind_eq e
  obtain ⟨ds, e2, e⟩ := Res.bind_eq e
  dsimp only at e2 e
  split at e
  · obtain ⟨p0, e⟩ := Res.when_eq e
    cases e
    refine ⟨W, m, fp, as, _, rel, e1, fun vs W1 H1 fp1 fd p => ?_⟩
    obtain ⟨f, g, rfl, h1, h2⟩ := p.rel.s
    obtain ⟨g', l⟩ := conts_rep h1 p.rep e2
    cases l with
    | cons r l =>
      cases l
      cases r
      exact ⟨_, rfl, (b62_eq p0).1, (b62_eq p0).2, k _ W1 H1 _ ⟨p.rel, p.ext, fun a z => p.sub a (List.mem_append_left _ z)⟩ runs_r⟩
  · cases e
theorem mi_r2 {a b : Expr} (hg : Gl X "range") (hm : X.mg "range" = none) (h : MA X CT [a, b] ml) (hs : starEach [a, b] X.env = [(false, eval a X.env), (false, eval b X.env)] := by rfl) (hs2 : starEach [b] X.env = [(false, eval b X.env)] := by rfl) :
    MI X CT pi tg (.Call (.Name "range" p0) [a, b] [] pos) (miR2 ml) := pi_weak (pi_range2 hg hm h hs hs2) fun σ H R ⟨W, m, fp, it, m', rel, e, k⟩ => by
  obtain ⟨⟨as, m1⟩, e1, e⟩ := Res.bind_eq e
  obtain ⟨ds, e2, e⟩ := Res.bind_eq e
  dsimp only at e2 e
  split at e
  · obtain ⟨p0, e⟩ := Res.when_eq e
    cases e
    rw [Bool.and_eq_true] at p0
    refine ⟨W, m, fp, as, _, rel, e1, fun vs W1 H1 fp1 fd p => ?_⟩
    obtain ⟨f, g, rfl, h1, h2⟩ := p.rel.s
    obtain ⟨g', l⟩ := conts_rep h1 p.rep e2
    cases l with
    | cons r l =>
      cases l with
      | cons r' l =>
        cases l
        cases r
        cases r'
        exact ⟨_, _, rfl, ⟨(b62_eq p0.1).1, (b62_eq p0.1).2, (b62_eq p0.2).1, (b62_eq p0.2).2⟩, k _ W1 H1 _ ⟨p.rel, p.ext, fun a z => p.sub a (List.mem_append_left _ z)⟩ runs_r⟩
  · cases e

/-! ### for -/
open Classical in
noncomputable def Res.ifP {α : Type} (p : Prop) (r : Res α) : Res α := if p then r else .fail
theorem Res.ifP_congr {α : Type} {b b' : Prop} {r : Res α} (h : b = b') : Res.ifP b r = Res.ifP b' r := by rw [h]
theorem Res.ifP_eq {α : Type} {p : Prop} {r : Res α} {a : α} (h : Res.ifP p r = .ok a) : p ∧ r = .ok a := by
  unfold Res.ifP at h
  split at h
  · rename_i hp; exact ⟨hp, h⟩
  · cases h
theorem Res.ifP_true {α : Type} {p : Prop} {r : Res α} (h : p) : Res.ifP p r = r := if_pos h
noncomputable def forM (ok : Mem → Prop) (b : D → Mem → Res Mem) (body : MS) : List D → MS
  | [] => fun m => Res.ifP (ok m) (.ok (.nx, m))
  | x :: xs => fun m => Res.ifP (ok m) ((b x m).bind fun m1 => (body m1).bind fun o => match o.1 with
      | .nx => forM ok b body xs o.2
      | .ct => forM ok b body xs o.2
      | .bk => .ok (.nx, o.2)
      | .rt d => .ok (.rt d, o.2))
noncomputable def sFor (it : M It) (b : D → Mem → Res Mem) (body : MS) : MS := fun m => (it m).bind fun r => forM r.1.2 b body r.1.1 r.2
theorem PostS.weak {K : PySem.W.Frag} {p q : List Nat} {W W' : Wd} {H H' : Hp} {σ σ' : L2.St} {m' : Mem} {fp fp' : List Addr} (h : PostS K CT q W H σ fp m' σ' W' H' fp') (s : ∀ i ∈ p, i ∈ q) : PostS K CT p W H σ fp m' σ' W' H' fp' :=
  ⟨h.rel, h.ext, h.sub, fun i z => h.pin i (s i z), h.len⟩
theorem PostR.weak {K : PySem.W.Frag} {p q : List Nat} {W W' : Wd} {H H' : Hp} {σ σ' : L2.St} {m' : Mem} {fp fp' fd : List Addr} {v : V} {d : D} (h : PostR K CT q W H σ fp v d m' σ' W' H' fp' fd) (s : ∀ i ∈ p, i ∈ q) : PostR K CT p W H σ fp v d m' σ' W' H' fp' fd :=
  ⟨h.rel, h.rep, h.nd, h.own, h.ext, h.sub, fun i z => h.pin i (s i z)⟩
theorem mst_for (hp : PassesOwn (model X.prog X.w) X.A X.env X.xe) (hc : X.calm = true) (hi : MI X CT pi tg e it) (hg : MG X CT (pi ++ pin) tg bb) (hb : MSs X CT (pi ++ pin) body s1) (hs : ∀ x, foldedSetIterable e X.env x = pure x := by intro _; rfl) : MSt X CT pin (.For tg e body [] pos) (sFor it bb s1) := ps_weak (ps_for hp hc hi hg hb hs) fun D σ H ⟨W, m, fp, fl, m', rel, e, k⟩ => by
  obtain ⟨⟨⟨xs, ok⟩, m1⟩, e1, e⟩ := Res.bind_eq e
  refine ⟨W, m, fp, (xs, ok), m1, rel, e1, fun J W1 H1 fp1 p1 run => ?_⟩
  dsimp only at run e
  refine ⟨fun i n σ2 H2 => n = xs.length - i ∧ ∃ W2 m2 fp2, PostS X.K CT (pi ++ pin) W1 H1 σ fp1 m2 σ2 W2 H2 fp2 ∧ forM ok bb s1 (xs.drop i) m2 = .ok (fl, m'), ⟨xs.length, rfl, W1, m1, fp1, .refl p1.rel, e⟩, fun i n σ2 H2 ⟨hn, W2, m2, fp2, p2, e2⟩ => ?_⟩
  have all : ∀ {m3 σ3 W3 H3 fp3}, PostS X.K CT (pi ++ pin) W1 H1 σ fp1 m3 σ3 W3 H3 fp3 → PostS X.K CT pin W H σ fp m3 σ3 W3 H3 fp3 := fun q => (p1.s (σ := σ)).trans (q.weak fun i z => List.mem_append_right _ z)
  cases hx : xs[i]? with
  | none =>
    have hl : xs.length ≤ i := by simpa using hx
    rw [List.drop_of_length_le hl] at e2
    obtain ⟨o, e2⟩ := Res.ifP_eq e2
    cases e2
    exact .inl ⟨(run m' σ2 W2 H2 fp2 (p2.weak fun i z => List.mem_append_left _ z) o i).2 hl, k σ2 W2 H2 fp2 (all p2)⟩
  | some x =>
    obtain ⟨hl, hx'⟩ := List.getElem?_eq_some_iff.mp hx
    rw [List.drop_eq_getElem_cons hl, hx'] at e2
    obtain ⟨o, e2⟩ := Res.ifP_eq e2
    obtain ⟨m3, e3, e2⟩ := Res.bind_eq e2
    obtain ⟨⟨f1, m4⟩, e4, e2⟩ := Res.bind_eq e2
    obtain ⟨g, y⟩ := (run m2 σ2 W2 H2 fp2 (p2.weak fun i z => List.mem_append_left _ z) o i).1 x hx
    refine .inr ⟨g, fun σ' H' => ∃ W4 m4 fp4, PostS X.K CT (pi ++ pin) W1 H1 σ fp1 m4 σ' W4 H' fp4 ∧ forM ok bb s1 (xs.drop (i + 1)) m4 = .ok (fl, m'), fun σ' H' ⟨W4, m4, fp4, p4, e5⟩ => ⟨n - 1, by omega, by omega, W4, m4, fp4, p4, e5⟩, fun v H3 hy => ?_⟩
    obtain ⟨W3, rv, x3, i3, fx3⟩ := y v H3 hy
    have r3 : Rel X.K CT W3 H3 σ2 m2 fp2 := p2.rel.ext x3 off_nil (fun a _ z => by cases z) i3 fx3
    have p3 : PostS X.K CT (pi ++ pin) W1 H1 σ fp1 m2 σ2 W3 H3 fp2 := p2.trans ⟨r3, x3.sub (fun a z => by cases z), fun a z => .inl z, fun _ _ => rfl, rfl⟩
    refine ⟨W3, m2, fp2, x, [], m3, r3, rv, by rw [List.append_nil]; exact p2.rel.nd, Own.nil, e3, fun σ3 W4 H4 fp4 p4 => ?_⟩
    rw [List.append_nil] at p4
    have p5 := p3.trans p4
    refine ⟨W4, m3, fp4, f1, m4, p5.rel, e4, ?_⟩
    cases f1 with
    | nx => exact fun σ5 W5 H5 fp5 q => ⟨W5, m4, fp5, p5.trans q, e2⟩
    | ct => exact fun σ5 W5 H5 fp5 q => ⟨W5, m4, fp5, p5.trans q, e2⟩
    | bk =>
      cases e2
      exact fun σ5 W5 H5 fp5 q => k σ5 W5 H5 fp5 (all (p5.trans q))
    | rt d =>
      cases e2
      exact fun v σ5 W5 H5 fp5 fd q => k v σ5 W5 H5 fp5 fd (((p1.s (σ := σ)).trans (p5.weak fun i z => List.mem_append_right _ z)).transR (q.weak fun i z => List.mem_append_right _ z))
end
end E
/-! EngJ: list comprehensions -/
namespace E
open PySem L2

def undL : List Nat → List D → List D
  | [], env => env
  | v :: vs, env => (undL vs env).set v .und
def hidV (d : D) : D := if d.pure = true then d else .und
def restore (env0 : List D) : List Nat → List D → List D
  | [], env => env
  | v :: vs, env => restore env0 vs (env.set v (hidV (env0.getD v .und)))
@[simp] def D.hid : D → Bool
  | .und => true
  | d => d.pure
noncomputable def lcM (ok : Mem → Prop) (vs : List Nat) (b : D → Mem → Res Mem) (tt : M Bool) (el : M D) : List D → List D → M (List D)
  | [], acc => fun m => Res.ifP (ok m) (.ok (acc, m))
  | x :: xs, acc => fun m => Res.ifP (ok m) ((b x m).bind fun m1 => (tt m1).bind fun c => if c.1 = true then
      (el c.2).bind fun r => Res.when (decide (acc.length < sizeLine)) (lcM ok vs b tt el xs (acc ++ [r.1]) ⟨undL vs r.2.env, r.2.hs⟩)
      else lcM ok vs b tt el xs acc ⟨undL vs c.2.env, c.2.hs⟩)
noncomputable def mLc (it : M E.It) (vs : List Nat) (b : D → Mem → Res Mem) (tt : M Bool) (el : M D) : M D := fun m => (it m).bind fun r =>
  Res.when (vs.all fun v => decide (v < r.2.env.length)) ((lcM r.1.2 vs b tt el r.1.1 [] ⟨undL vs r.2.env, r.2.hs⟩).bind fun o => .ok (.lst true o.1, ⟨restore r.2.env vs o.2.env, o.2.hs⟩))
def mtYes : M Bool := fun m => .ok (true, m)

section
variable {K : PySem.W.Frag} {CT : Nat → Addr} {W W' W2 : Wd} {H H' H2 : Hp} {σ σ2 : L2.St} {fp fp2 : List Addr}
theorem RepS.drop1 {env : List D} {f : List Addr} (h : RepS K W H σ env f) : ∀ (i : Nat), ∃ f' r, (f' ++ r).Perm f ∧ RepS K W H (σ.set i none) (env.set i .und) f' := by
  induction h with
  | nil => intro i; exact ⟨[], [], .refl _, .nil⟩
  | @und x σ env g hs ih =>
    intro i
    cases i with
    | zero => exact ⟨g, [], by simp, .und hs⟩
    | succ i =>
      obtain ⟨f', r, p, k⟩ := ih i
      exact ⟨f', r, p, .und k⟩
  | @cons v σ d0 env f g r hs ih =>
    intro i
    cases i with
    | zero => exact ⟨g, f, List.perm_append_comm, .und hs⟩
    | succ i =>
      obtain ⟨f', r', p, k⟩ := ih i
      refine ⟨f ++ f', r', ?_, .cons r k⟩
      rw [List.append_assoc]
      exact List.Perm.append_left f p
theorem RepS.wipe {env : List D} {f : List Addr} (h : RepS K W H σ env f) : ∀ vs : List Nat, ∃ f' r, (f' ++ r).Perm f ∧ RepS K W H (L2.wipe σ vs) (undL vs env) f'
  | [] => ⟨f, [], by simp, h⟩
  | v :: vs => by
    obtain ⟨f1, r1, p1, k1⟩ := RepS.wipe h vs
    obtain ⟨f2, r2, p2, k2⟩ := k1.drop1 v
    refine ⟨f2, r2 ++ r1, ?_, k2⟩
    rw [← List.append_assoc]
    exact (List.Perm.append_right r1 p2).trans p1
/-- a slot set to a thing that owns nothing, or to nothing -/
theorem RepS.set0 {env : List D} {f : List Addr} (h : RepS K W H σ env f) : ∀ {i : Nat} {x : Option V} {d : D}, env[i]? = some .und → (d = .und ∨ ∃ v, x = some v ∧ RepD K W H v d []) → RepS K W H (σ.set i x) (env.set i d) f := by
  induction h with
  | nil => intro i x d e; simp at e
  | @und x0 σ env g hs ih =>
    intro i x d e hd
    cases i with
    | zero =>
      rcases hd with rfl | ⟨v, rfl, r⟩
      · exact .und hs
      · exact RepS.cons (f := []) r hs
    | succ i => exact .und (ih (by simpa using e) hd)
  | @cons v σ d0 env f g r hs ih =>
    intro i x d e hd
    cases i with
    | zero =>
      have : d0 = .und := by simpa using e
      subst this
      exact r.nund.elim
    | succ i => exact .cons r (ih (by simpa using e) hd)
theorem undL_length (env : List D) : ∀ vs, (undL vs env).length = env.length
  | [] => rfl
  | v :: vs => by rw [undL, List.length_set, undL_length env vs]
theorem undL_get (env : List D) (v : Nat) (h : v < env.length) : ∀ vs, v ∈ vs → (undL vs env)[v]? = some .und
  | w :: vs, m => by
    rw [undL, List.getElem?_set]
    split
    · rename_i e; subst e
      rw [undL_length, if_pos h]
    · rename_i e
      rcases List.mem_cons.mp m with z | z
      · exact absurd z.symm e
      · exact undL_get env v h vs z
theorem wipe_out {i : Nat} : ∀ {vs : List Nat}, i ∉ vs → (L2.wipe σ vs)[i]? = σ[i]?
  | [], _ => rfl
  | v :: vs, h => by
    rw [L2.wipe, List.getElem?_set_ne (fun e => h (by rw [e]; exact List.mem_cons_self ..)), wipe_out fun z => h (List.mem_cons_of_mem _ z)]
theorem wipe_eq (hl : σ2.length = σ.length) {vs : List Nat} (h : ∀ i, i ∉ vs → σ2[i]? = σ[i]?) : L2.wipe σ2 vs = L2.wipe σ vs := by
  apply List.ext_getElem?
  intro i
  have key : ∀ ws : List Nat, (∀ i ∉ vs, σ2[i]? = σ[i]?) → ∀ i, (i ∉ vs ∨ i ∈ ws) → (L2.wipe σ2 ws)[i]? = (L2.wipe σ ws)[i]? := by
    intro ws h
    induction ws with
    | nil =>
      intro i hi
      rcases hi with hi | hi
      · exact h i hi
      · cases hi
    | cons w ws ih =>
      intro i hi
      rw [L2.wipe, L2.wipe, List.getElem?_set, List.getElem?_set, L2.wipe_length, L2.wipe_length, hl]
      split
      · rfl
      · rename_i e
        exact ih i (hi.imp id fun z => (List.mem_cons.mp z).resolve_left fun q => e q.symm)
  exact key vs h i (by
    by_cases hi : i ∈ vs
    · exact .inr hi
    · exact .inl hi)
/-- behind a comprehension: the hidden slots are seen again -/
theorem RepS.unwipe {env0 : List D} : ∀ {vs : List Nat} {env : List D} {f : List Addr}, vs.Nodup → RepS K W H (L2.wipe σ vs) env f → (∀ v ∈ vs, env[v]? = some .und) → (∀ v ∈ vs, hidV (env0.getD v .und) = .und ∨ ∃ x, σ[v]? = some (some x) ∧ RepD K W H x (hidV (env0.getD v .und)) []) → RepS K W H σ (restore env0 vs env) f
  | [], env, f, _, h, _, _ => h
  | v :: vs, env, f, nd, h, u, o => by
    rw [List.nodup_cons] at nd
    unfold restore
    have hv := u v (List.mem_cons_self ..)
    have h1 : RepS K W H (L2.wipe σ vs) (env.set v (hidV (env0.getD v .und))) f := by
      cases hs : σ[v]? with
      | none =>
        have e : (L2.wipe σ (v :: vs)).set v none = L2.wipe σ vs := by
          rw [L2.wipe, List.set_set, List.set_eq_of_length_le]
          rw [L2.wipe_length]
          simpa using hs
        rw [← e]
        refine h.set0 hv ?_
        rcases o v (List.mem_cons_self ..) with z | ⟨x, z, _⟩
        · exact .inl z
        · rw [hs] at z; cases z
      | some x =>
        have e : (L2.wipe σ (v :: vs)).set v x = L2.wipe σ vs := by
          rw [L2.wipe, List.set_set]
          apply List.ext_getElem?
          intro i
          rw [List.getElem?_set]
          split
          · rename_i e; subst e
            have hl := (List.getElem?_eq_some_iff.mp hs).1
            rw [L2.wipe_length, if_pos hl, wipe_out nd.1, hs]
          · rfl
        rw [← e]
        refine h.set0 hv ?_
        rcases o v (List.mem_cons_self ..) with z | ⟨y, z, r⟩
        · exact .inl z
        · rw [hs] at z
          cases z
          exact .inr ⟨y, rfl, r⟩
    refine RepS.unwipe nd.2 h1 (fun w m => ?_) fun w m => o w (List.mem_cons_of_mem _ m)
    rw [List.getElem?_set_ne (fun e => nd.1 (by rw [e]; exact m))]
    exact u w (List.mem_cons_of_mem _ m)
end
def MTs (X : Cx) (CT : Nat → Addr) (es : List Expr) (m : M Bool) : Prop := PTs X es (tT X.K CT m)
theorem pts_weak {X : Cx} {es : List Expr} {t t' : TT} (h : PTs X es t) (k : ∀ σ H Q, t' σ H Q → t σ H Q) : PTs X es t' := ⟨fun pins s σ H Q I q => h.run pins s σ H Q I (k σ H Q q)⟩
theorem mts_nil {X : Cx} {CT : Nat → Addr} : MTs X CT [] mtYes := pts_weak pts_nil fun σ H Q ⟨W, m, fp, b, m', rel, e, k⟩ => by
  cases e
  exact k W H fp ⟨rel, Ext.refl _ _ _, fun a z => .inl z⟩
theorem mts_one {X : Cx} {CT : Nat → Addr} {c : Expr} {t : M Bool} (h : MT X CT c t) : MTs X CT [c] t := pts_one h

section
variable {X : Cx} {CT : Nat → Addr} {pi pin : List Nat} {elt tg iter : Expr} {ifs : List Expr} {scope : Scope} {own : List (Str × Nat)} {pos spos : Pos} {it : M E.It} {b : D → Mem → Res Mem} {tt : M Bool} {el : M D}
theorem tlc {vs : List Nat} (hvs : vs.Nodup) (hpi : ∀ i ∈ pi, i ∉ vs) (hpin : ∀ i, i < X.N.length → i ∉ vs → i ∈ pin) :
    ∀ σ H Q, σ.length = X.N.length → tM X.K CT (mLc it vs b tt el) σ H Q → tLc (tI X.K CT pi it) (tG X.K CT pin b) (tT X.K CT tt) (tM X.K CT el) vs σ H Q := fun σ H Q hσ ⟨W, m, fp, d, m', rel, e, k⟩ => by
  obtain ⟨⟨⟨xs, ok⟩, m1⟩, e1, e⟩ := Res.bind_eq e
  obtain ⟨hid, e⟩ := Res.when_eq e
  obtain ⟨⟨res, mE⟩, e2, e⟩ := Res.bind_eq e
  cases e
  dsimp only at hid e2
  refine ⟨W, m, fp, (xs, ok), m1, rel, e1, fun J W1 H1 fp1 p1 run D hD => ?_⟩
  dsimp only at run
  have lenEnv : m1.env.length = σ.length := by
    obtain ⟨f, g, _, h1, _⟩ := p1.rel.s
    exact h1.length.symm
  -- what is hidden
  have hidR : ∀ v ∈ vs, hidV (m1.env.getD v .und) = .und ∨ ∃ x, σ[v]? = some (some x) ∧ RepD X.K W1 H1 x (hidV (m1.env.getD v .und)) [] := fun v mv => by
    cases he : m1.env[v]? with
    | none => exact .inl (by rw [List.getD_eq_getElem?_getD, he]; rfl)
    | some dv =>
      have eg : m1.env.getD v .und = dv := by rw [List.getD_eq_getElem?_getD, he]; rfl
      rw [eg]
      unfold hidV
      by_cases pd : dv.pure = true
      · rw [if_pos pd]
        have hu : dv ≠ .und := by intro z; subst z; cases pd
        obtain ⟨f, g, _, h1, _⟩ := p1.rel.s
        obtain ⟨x, A, f1, B, _, s, r, _⟩ := h1.at he hu
        obtain rfl := r.pure pd
        exact .inr ⟨x, s, r⟩
      · rw [if_neg pd]
        exact .inl rfl
  -- a wiped state
  have wiped : ∀ {W2 H2 σ2 m2 fp2}, Rel X.K CT W2 H2 σ2 m2 fp2 → L2.wipe σ2 vs = L2.wipe σ vs → ∃ fp3, Rel X.K CT W2 H2 (L2.wipe σ vs) ⟨undL vs m2.env, m2.hs⟩ fp3 ∧ (∀ a ∈ fp3, a ∈ fp2) := fun {W2 H2 σ2 m2 fp2} r ew => by
    obtain ⟨f, g, rfl, h1, h2⟩ := r.s
    obtain ⟨f', rr, pm, k1⟩ := h1.wipe vs
    rw [ew] at k1
    have pm2 : ((f' ++ g) ++ rr).Perm (f ++ g) := by
      rw [List.perm_iff_count]; intro a
      have := pm.count_eq a
      simp only [List.count_append] at this ⊢; omega
    have nd := pm2.nodup_iff.mpr r.nd
    rw [List.nodup_append] at nd
    refine ⟨f' ++ g, ⟨⟨f', g, rfl, k1, h2⟩, nd.1, fun a z => r.own a (pm2.mem_iff.mp (List.mem_append_left _ z)), r.fix⟩, fun a z => pm2.mem_iff.mp (List.mem_append_left _ z)⟩
  have pw : ∀ i ∈ pi, (L2.wipe σ vs)[i]? = σ[i]? := fun i z => wipe_out (hpi i z)
  -- the invariant
  let Inv : Nat → Wd → Hp → Mem → List Addr → List V → List E.D → List Addr → Prop := fun i W2 H2 m2 fp2 ws acc fa =>
    PostS X.K CT pi W1 H1 σ fp1 m2 (L2.wipe σ vs) W2 H2 fp2 ∧ H2 D = some (.lst ws) ∧ RepL X.K W2 H2 ws acc fa ∧ (fp2 ++ (D :: fa)).Nodup ∧ Own W2 H2 (D :: fa) ∧ (∀ a ∈ fa, a ∈ fp1 ∨ H1 a = none) ∧ (∀ v ∈ vs, v < m2.env.length → m2.env[v]? = some .und) ∧ m2.env.length = m1.env.length ∧ lcM ok vs b tt el (xs.drop i) acc m2 = .ok (res, mE)
  refine ⟨fun i n H2 => n = xs.length - i ∧ ∃ W2 m2 fp2 ws acc fa, Inv i W2 H2 m2 fp2 ws acc fa, ⟨xs.length, rfl, ?_⟩, fun i n H2 ⟨hn, W2, m2, fp2, ws, acc, fa, p2, hd, la, nd, ow, sb, un, ln, e3⟩ => ?_⟩
  · obtain ⟨fp3, r3, s3⟩ := wiped p1.rel rfl
    have x := ext_upd (W := W1) (o := .lst []) hD
    have nD : ∀ a ∈ fp3, a ≠ D := fun a z y => (r3.own a z).2 (by rw [y]; exact hD)
    refine ⟨W1, ⟨undL vs m1.env, m1.hs⟩, fp3, [], [], [], ⟨r3.ext x off_nil (fun a _ z => by cases z) rfl (fix_upd r3.fix), x.sub (fun a z => by cases z), fun a z => .inl (s3 a z), pw, by rw [L2.wipe_length]⟩, upd_same, .nil, ?_, ?_, (fun a z => by cases z), fun v mv hl => undL_get _ _ (by rw [undL_length] at hl; exact hl) vs mv, undL_length _ _, e2⟩
    · rw [List.nodup_append]
      refine ⟨r3.nd, by simp, fun a z b y => ?_⟩
      rw [List.mem_singleton.mp y]
      exact nD a z
    · intro a z
      rw [List.mem_singleton.mp z]
      exact ⟨fun y => p1.rel.fix D y hD, by rw [upd_same]; exact fun z => by cases z⟩
  have okrun : ok m2 → _ := fun o => run m2 (L2.wipe σ vs) W2 H2 fp2 p2 o i
  have ndD : D ∉ fp2 := fun z => by
    rw [List.nodup_append] at nd
    exact nd.2.2 D z D (List.mem_cons_self ..) rfl
  cases hx : xs[i]? with
  | none =>
    have hl : xs.length ≤ i := by simpa using hx
    rw [List.drop_of_length_le hl] at e3
    obtain ⟨o, e3⟩ := Res.ifP_eq e3
    cases e3
    refine .inl ⟨(okrun o).2 hl, k _ W2 H2 fp2 (D :: fa) ?_⟩
    obtain ⟨f, g, rfl, h1, h2⟩ := p2.rel.s
    have hidE : ∀ v ∈ vs, hidV (m1.env.getD v .und) = .und ∨ ∃ x, σ[v]? = some (some x) ∧ RepD X.K W2 H2 x (hidV (m1.env.getD v .und)) [] := fun v mv => (hidR v mv).imp id fun ⟨x, s, r⟩ => ⟨x, s, r.ext p2.ext p1.rel.off fun a z => by cases z⟩
    have hback : RepS X.K W2 H2 σ (restore m1.env vs mE.env) f := by
      have hin : ∀ v ∈ vs, v < mE.env.length := fun v mv => by
        rw [ln]
        exact of_decide_eq_true ((List.all_eq_true.mp hid) v mv)
      exact h1.unwipe hvs (fun v mv => un v mv (hin v mv)) hidE
    refine ⟨⟨⟨f, g, rfl, hback, h2⟩, p2.rel.nd, p2.rel.own, p2.rel.fix⟩, .lstO hd la, nd, ow, p1.ext.trans p2.ext p1.sub, fun a z => ?_⟩
    have s12 : ∀ a, a ∈ fp1 ∨ H1 a = none → a ∈ fp ∨ H a = none := fun a z => z.elim (p1.sub a) fun y => .inr (p1.ext.there a y)
    rcases List.mem_append.mp z with z | z
    · exact s12 a (p2.sub a z)
    · rcases List.mem_cons.mp z with z | z
      · subst z
        exact .inr (p1.ext.there a hD)
      · exact s12 a (sb a z)
  | some x =>
    obtain ⟨hl, hx'⟩ := List.getElem?_eq_some_iff.mp hx
    rw [List.drop_eq_getElem_cons hl, hx'] at e3
    obtain ⟨o, e3⟩ := Res.ifP_eq e3
    obtain ⟨m3, e4, e3⟩ := Res.bind_eq e3
    obtain ⟨⟨c, m4⟩, e5, e3⟩ := Res.bind_eq e3
    obtain ⟨g, y⟩ := (okrun o).1 x hx
    refine .inr ⟨g, fun H' => ∃ W2 m2 fp2 ws acc fa, Inv (i + 1) W2 H' m2 fp2 ws acc fa, fun H' q => ⟨n - 1, by omega, by omega, q⟩, fun v H3 hy => ?_⟩
    obtain ⟨W3, rv, x3, i3, fx3⟩ := y v H3 hy
    have r3 : Rel X.K CT W3 H3 (L2.wipe σ vs) m2 fp2 := p2.rel.ext x3 off_nil (fun a _ z => by cases z) i3 fx3
    refine ⟨W3, m2, fp2, x, [], m3, r3, rv, by rw [List.append_nil]; exact p2.rel.nd, Own.nil, e4, fun σ4 W4 H4 fp4 p4 => ?_⟩
    rw [List.append_nil] at p4
    have ew : L2.wipe σ4 vs = L2.wipe σ vs := by
      have := wipe_eq (σ := L2.wipe σ vs) (σ2 := σ4) p4.len (vs := vs) fun j hj => by
        by_cases hjl : j < X.N.length
        · exact p4.pin j (hpin j hjl hj)
        · have l1 : (L2.wipe σ vs).length = X.N.length := by rw [L2.wipe_length]; exact hσ
          rw [List.getElem?_eq_none (by rw [p4.len, l1]; omega), List.getElem?_eq_none (by rw [l1]; omega)]
      rw [this]
      exact wipe_eq (by rw [L2.wipe_length]) fun j hj => wipe_out hj
    refine ⟨ew, W4, m3, fp4, c, m4, p4.rel, e5, fun W5 H5 fp5 p5 => ?_⟩
    -- from H2 to H5
    have x25 : Ext W2 H2 W5 H5 fp2 := ((x3.sub (fq := fp2) fun a z => by cases z).trans p4.ext (fun a z => .inl z)).trans p5.ext fun a z => (p4.sub a z).imp id (x3.there a)
    have s25 : ∀ a ∈ fp5, a ∈ fp2 ∨ H2 a = none := fun a z => by
      rcases p5.sub a z with z | z
      · exact (p4.sub a z).imp id (x3.there a)
      · exact .inr (x3.there a (p4.ext.there a z))
    have off2 := p2.rel.off
    have nd' := nd
    rw [List.nodup_append] at nd'
    have farA : ∀ a ∈ D :: fa, a ∉ fp2 := fun a z y => nd'.2.2 a y a z rfl
    have ow5 := ow.ext x25 farA
    have hd5 : H5 D = some (.lst ws) := x25.keep D _ hd (farA D (List.mem_cons_self ..))
    have la5 := la.ext x25 off2 fun a z => farA a (List.mem_cons_of_mem _ z)
    have far5 : ∀ a ∈ D :: fa, a ∉ fp5 := fun a z y => by
      rcases s25 a y with y | y
      · exact farA a z y
      · exact (ow a z).2 y
    have len4 : ∀ {σ2 W2 H2 m2 fp2}, Rel X.K CT W2 H2 σ2 m2 fp2 → σ2.length = σ.length → m2.env.length = m1.env.length := fun r el => by
      obtain ⟨f, g, _, h1, _⟩ := r.s
      rw [← h1.length, el, lenEnv]
    have lenσ4 : σ4.length = σ.length := by rw [p4.len, L2.wipe_length]
    cases c with
    | false =>
      refine iteF ?_
      rw [if_neg Bool.false_ne_true] at e3
      obtain ⟨fp6, r6, s6⟩ := wiped p5.rel ew
      refine ⟨W5, ⟨undL vs m4.env, m4.hs⟩, fp6, ws, acc, fa, ⟨r6, p2.ext.trans x25 p2.sub, subT p2.sub (fun a z => s25 a (s6 a z)) p2.ext.there, pw, by rw [L2.wipe_length]⟩, hd5, la5, ?_, ow5, sb, fun v mv hl => undL_get _ _ (by rw [undL_length] at hl; exact hl) vs mv, ?_, e3⟩
      · rw [List.nodup_append]
        exact ⟨r6.nd, nd'.2.1, fun a z b y e => far5 b y (by rw [← e]; exact s6 a z)⟩
      · rw [undL_length]
        exact len4 p5.rel lenσ4
    | true =>
      refine iteT ?_
      rw [if_pos rfl] at e3
      obtain ⟨⟨dr, m6⟩, e6, e3⟩ := Res.bind_eq e3
      obtain ⟨hsz, e3⟩ := Res.when_eq e3
      refine ⟨W5, m4, fp5, dr, m6, p5.rel, e6, fun y6 W6 H6 fp6 fd6 p6 => ?_⟩
      have hd6 : H6 D = some (.lst ws) := p6.ext.keep D _ hd5 (far5 D (List.mem_cons_self ..))
      have la6 := la5.ext p6.ext p5.rel.off fun a z => far5 a (List.mem_cons_of_mem _ z)
      have ow6 := ow5.ext p6.ext far5
      have far6 : ∀ a ∈ D :: fa, a ∉ fp6 ++ fd6 := fun a z y => by
        rcases p6.sub a y with y | y
        · exact far5 a z y
        · exact (ow5 a z).2 y
      refine ⟨ws, hd6, by rw [la.length]; exact of_decide_eq_true hsz, ?_⟩
      have xD : Ext W6 H6 W6 (upd H6 D (.lst (ws ++ [y6]))) [D] := ⟨fun _ h => h, fun _ _ h => h, fun a o h n => by rw [upd_ne (fun z => n (by simp [z]))]; exact h, fun _ h => .inl h, fun a h => by
        by_cases e : a = D
        · subst e; rw [upd_same] at h; cases h
        · rw [upd_ne e] at h; exact h⟩
      have offD : Off W6 [D] := fun a z => by
        rw [List.mem_singleton.mp z]
        exact (ow6 D (List.mem_cons_self ..)).1
      have nfa : ∀ a ∈ fa, a ∉ [D] := fun a z y => by
        rw [List.mem_singleton.mp y] at z
        exact (List.nodup_cons.mp nd'.2.1).1 z
      have nf6 : ∀ a ∈ fp6 ++ fd6, a ∉ [D] := fun a z y => by
        rw [List.mem_singleton.mp y] at z
        exact far6 D (List.mem_cons_self ..) z
      have fixD : Fix W6 (upd H6 D (.lst (ws ++ [y6]))) := fix_upd p6.rel.fix
      obtain ⟨fp7, r7, s7⟩ := wiped p6.rel ew
      have r8 := r7.ext xD offD (fun a z => nf6 a (List.mem_append_left _ (s7 a z))) rfl fixD
      have la8 := (la6.app (RepL.cons p6.rep .nil)).ext xD offD fun a z => by
        rw [List.append_nil] at z
        rcases List.mem_append.mp z with z | z
        · exact nfa a z
        · exact nf6 a (List.mem_append_right _ z)
      rw [List.append_nil] at la8
      have x26 : Ext W2 H2 W6 H6 fp2 := x25.trans p6.ext s25
      have x28 : Ext W1 H1 W6 (upd H6 D (.lst (ws ++ [y6]))) fp1 := ⟨fun a h => p2.ext.fm a h |> x26.fm a, fun n a h => x26.im n a (p2.ext.im n a h), fun a o h n => by
          have e : a ≠ D := fun e => by subst e; rw [hD] at h; cases h
          rw [upd_ne e]
          exact (p2.ext.trans x26 p2.sub).keep a o h n, fun a h => (p2.ext.trans x26 p2.sub).fnew a h, fun a h => (p2.ext.trans x26 p2.sub).there a (xD.there a h)⟩
      have s26 : ∀ a ∈ fp6 ++ fd6, a ∈ fp1 ∨ H1 a = none := fun a z => by
        rcases p6.sub a z with z | z
        · rcases s25 a z with z | z
          · exact p2.sub a z
          · exact .inr (p2.ext.there a z)
        · exact .inr (p2.ext.there a (x25.there a z))
      refine ⟨W6, ⟨undL vs m6.env, m6.hs⟩, fp7, ws ++ [y6], acc ++ [dr], fa ++ fd6, ⟨r8, x28, fun a z => s26 a (List.mem_append_left _ (s7 a z)), pw, by rw [L2.wipe_length]⟩, upd_same, la8, ?_, ?_, fun a z => ?_, fun v mv hl => undL_get _ _ (by rw [undL_length] at hl; exact hl) vs mv, ?_, e3⟩
      · have nd6 := p6.nd
        rw [List.nodup_append] at nd6
        rw [List.nodup_append, List.nodup_cons, List.nodup_append]
        refine ⟨r7.nd, ⟨fun z => ?_, (List.nodup_cons.mp nd'.2.1).2, nd6.2.1, fun a z b y e => ?_⟩, fun a z b y e => ?_⟩
        · rcases List.mem_append.mp z with z | z
          · exact (List.nodup_cons.mp nd'.2.1).1 z
          · exact far6 D (List.mem_cons_self ..) (List.mem_append_right _ z)
        · exact far6 a (List.mem_cons_of_mem _ z) (by rw [e]; exact List.mem_append_right _ y)
        · subst e
          rcases List.mem_cons.mp y with y | y
          · exact far6 D (List.mem_cons_self ..) (List.mem_append_left _ (by rw [← y]; exact s7 a z))
          · rcases List.mem_append.mp y with y | y
            · exact far6 a (List.mem_cons_of_mem _ y) (List.mem_append_left _ (s7 a z))
            · exact nd6.2.2 a (s7 a z) a y rfl
      · intro a z
        rcases List.mem_cons.mp z with z | z
        · subst z
          exact ⟨(ow6 a (List.mem_cons_self ..)).1, by rw [upd_same]; exact fun z => by cases z⟩
        · rcases List.mem_append.mp z with z | z
          · exact (Own.ext (fun a z => ow6 a (List.mem_cons_of_mem _ z)) xD nfa) a z
          · exact (p6.own.ext xD fun a z => nf6 a (List.mem_append_right _ z)) a z
      · rcases List.mem_append.mp z with z | z
        · exact sb a z
        · exact s26 a (List.mem_append_right _ z)
      · rw [undL_length]
        exact len4 p6.rel lenσ4
theorem pe_weakN {e : Expr} {t t' : TE} (h : PE X e t) (k : ∀ σ H Q, σ.length = X.N.length → t' σ H Q → t σ H Q) : PE X e t' := ⟨fun pins s σ H Q I q => h.run pins s σ H Q I (k σ H Q I.len q)⟩
theorem ps_weakN {e : Stmt} {t t' : TS} (h : PS X e t) (k : ∀ D σ H, σ.length = X.N.length → t' D σ H → t D σ H) : PS X e t' := ⟨fun pins s σ H D I q => h.run pins s σ H D I (k D σ H I.len q)⟩
theorem me_lc (hc : X.calm = true) (hN : X.N.Nodup) (hi : MI X CT pi tg iter it) (ok : BlkOk X.N X.env.scope scope own)
    (hg : ∀ (s : Shared) (H : Hp) (C : Addr) (cl : List (Str × Addr)) (fp : List Addr), MG (X.blk s H scope (compEnvC scope cl C X.env) fp) CT pin tg b) (ht : ∀ (s : Shared) (H : Hp) (C : Addr) (cl : List (Str × Addr)) (fp : List Addr), MTs (X.blk s H scope (compEnvC scope cl C X.env) fp) CT ifs tt)
    (he : ∀ (s : Shared) (H : Hp) (C : Addr) (cl : List (Str × Addr)) (fp : List Addr), ME (X.blk s H scope (compEnvC scope cl C X.env) fp) CT elt el)
    (hvs : (own.map (·.2)).Nodup) (hpi : ∀ i ∈ pi, i ∉ own.map (·.2)) (hpin : ∀ i, i < X.N.length → i ∉ own.map (·.2) → i ∈ pin) (hs : ∀ x, foldedSetIterable iter X.env x = pure x := by intro _; rfl) :
    ME X CT (.ListComp elt [⟨tg, iter, ifs, 0⟩] scope pos) (mLc it (own.map (·.2)) b tt el) :=
  pe_weakN (pe_lc (g := tG X.K CT pin b) (tt := tT X.K CT tt) (te := tM X.K CT el) hc hN hi ok hg ht he hs) (tlc hvs hpi hpin)
theorem mst_setLc {i : Nat} {y : Str} {py : Pos} {pn : List Nat} (hc : X.calm = true) (hN : X.N.Nodup) (hy : X.N[i]? = some y) (hyl : X.env.scope.names.lookup y = some .local) (hp : i ∉ pn)
    (hsw : swapsWith (.ListComp elt [⟨tg, iter, ifs, 0⟩] scope pos) (some (.Name y py)) spos.line X.env = pure true) (hi : MI X CT pi tg iter it) (ok : BlkOk X.N X.env.scope scope own)
    (hg : ∀ (s : Shared) (H : Hp) (C : Addr) (cl : List (Str × Addr)) (fp : List Addr), MG (X.blk s H scope (compEnvC scope cl C X.env) fp) CT pin tg b) (ht : ∀ (s : Shared) (H : Hp) (C : Addr) (cl : List (Str × Addr)) (fp : List Addr), MTs (X.blk s H scope (compEnvC scope cl C X.env) fp) CT ifs tt)
    (he : ∀ (s : Shared) (H : Hp) (C : Addr) (cl : List (Str × Addr)) (fp : List Addr), ME (X.blk s H scope (compEnvC scope cl C X.env) fp) CT elt el)
    (hvs : (own.map (·.2)).Nodup) (hpi : ∀ i ∈ pi, i ∉ own.map (·.2)) (hpin : ∀ i, i < X.N.length → i ∉ own.map (·.2) → i ∈ pin) (hs : ∀ x, foldedSetIterable iter X.env x = pure x := by intro _; rfl) :
    MSt X CT pn (.Assign [.Name y py] (.ListComp elt [⟨tg, iter, ifs, 0⟩] scope pos) spos) (sAsg (mLc it (own.map (·.2)) b tt el) (bName i)) := ps_weakN (ps_setLc (g := tG X.K CT pin b) (tt := tT X.K CT tt) (te := tM X.K CT el) hc hN hy hyl hsw hi ok hg ht he hs) fun D σ H hσ ⟨W, m, fp, fl, m', rel, e, k⟩ => by
  obtain ⟨⟨d, m1⟩, e1, e⟩ := Res.bind_eq e
  obtain ⟨m2, e2, e⟩ := Res.bind_eq e
  cases e
  refine tlc hvs hpi hpin σ H _ hσ ⟨W, m, fp, d, m1, rel, e1, fun v W1 H1 fp1 fd p => ?_⟩
  exact bName_rep hp p.rel p.rep p.nd p.own e2 fun σ' W' H' fp' q => k σ' W' H' fp' ⟨q.rel, p.ext.trans q.ext p.sub, subT p.sub q.sub p.ext.there, q.pin, q.len⟩
end
end E
/-! EngK: builtins, changes in place, defs -/
namespace E
open PySem L2

section
variable {X : Cx}
@[simp] def dLen : List D → Res D
  | [.lst _ xs] => .ok (.int xs.length)
  | [.tup xs] => .ok (.int xs.length)
  | [.str y] => .when (decide (y.length ≤ sizeLine)) (.ok (.int y.length))
  | _ => .fail
theorem cd_len : CallD X (.builtin "len") dLen := ⟨_, call_len, fun W H xs ds fs d Q x0 l e k => by
  unfold dLen at e; split at e
  · cases e
    cases l with | cons r l => cases l; obtain ⟨a, vs, g, rfl, s, l, _⟩ := r.lst; exact ⟨_, _, rfl, .inl ⟨vs, s, rfl⟩, by rw [l.length]; exact k _ W H [] (New.sc x0 .int)⟩
  · cases e
    cases l with | cons r l => cases l; obtain ⟨a, vs, rfl, s, _, l⟩ := r.tupl; exact ⟨_, _, rfl, .inr ⟨vs, s, rfl⟩, by rw [l.length]; exact k _ W H [] (New.sc x0 .int)⟩
  · obtain ⟨h, e⟩ := Res.when_eq e
    cases e
    cases l with | cons r l => cases l; cases r; exact ⟨_, _, rfl, ⟨of_decide_eq_true h, rfl⟩, k _ W H [] (New.sc x0 .int)⟩
  · cases e⟩
@[simp] def dInt : List D → Res D
  | [.int i] => .ok (.int i)
  | [.bl b] => .ok (.int (if b then 1 else 0))
  | _ => .fail
theorem cd_int : CallD X (.type "int") dInt := ⟨_, call_int1, fun W H xs ds fs d Q x0 l e k => by
  unfold dInt at e; split at e
  · cases e
    cases l with | cons r l => cases l; cases r; exact .inl ⟨_, rfl, k _ W H [] (New.sc x0 .int)⟩
  · cases e
    cases l with | cons r l => cases l; cases r; exact .inr ⟨_, rfl, k _ W H [] (New.sc x0 .int)⟩
  · cases e⟩
@[simp] def dList : List D → Res D
  | [.lst _ xs] => .when (pureL xs) (.ok (.lst true xs))
  | [.tup xs] => .when (pureL xs) (.ok (.lst true xs))
  | _ => .fail
theorem cd_list : CallD X (.type "list") dList := ⟨_, call_list_of, fun W H xs ds fs d Q x0 l e k => by
  unfold dList at e; split at e
  · obtain ⟨h, e⟩ := Res.when_eq e
    cases e
    cases l with | cons r l => cases l; obtain ⟨a, vs, g, rfl, s, l, _⟩ := r.lst; obtain rfl := l.pure h; exact ⟨a, vs, rfl, .inl s, fun p hp => k _ _ _ _ (New.lst x0 hp l)⟩
  · obtain ⟨h, e⟩ := Res.when_eq e
    cases e
    cases l with | cons r l => cases l; obtain ⟨a, vs, rfl, s, _, l⟩ := r.tupl; obtain rfl := l.pure h; exact ⟨a, vs, rfl, .inr s, fun p hp => k _ _ _ _ (New.lst x0 hp l)⟩
  · cases e⟩
@[simp] def dTuple : List D → Res D
  | [.lst _ xs] => .when (pureL xs) (.ok (.tup xs))
  | [.tup xs] => .when (pureL xs) (.ok (.tup xs))
  | _ => .fail
theorem cd_tuple : CallD X (.type "tuple") dTuple := ⟨_, call_tuple_of, fun W H xs ds fs d Q x0 l e k => by
  unfold dTuple at e; split at e
  · obtain ⟨h, e⟩ := Res.when_eq e
    cases e
    cases l with | cons r l => cases l; obtain ⟨a, vs, g, rfl, s, l, _⟩ := r.lst; obtain rfl := l.pure h; exact ⟨a, vs, rfl, .inl ⟨s, fun p hp => k _ _ _ _ (New.tup x0 hp l)⟩⟩
  · obtain ⟨h, e⟩ := Res.when_eq e
    cases e
    cases l with | cons r l => cases l; obtain ⟨a, vs, rfl, s, z, l⟩ := r.tupl; obtain rfl := l.pure h; exact ⟨a, vs, rfl, .inr ⟨s, k _ W H [] (New.sc x0 (.tup z l))⟩⟩
  · cases e⟩
@[simp] def dMax2 : List D → Res D
  | [.int i, .int j] => .ok (.int (if j > i then j else i))
  | _ => .fail
@[simp] def dMin2 : List D → Res D
  | [.int i, .int j] => .ok (.int (if j < i then j else i))
  | _ => .fail
theorem cd_max2 (hc : X.calm = true) : CallD X (.builtin "max") dMax2 := ⟨_, call_max2 hc, fun W H xs ds fs d Q x0 l e k => by
  unfold dMax2 at e; split at e
  · cases e
    cases l with | cons r l => cases l with | cons r' l => cases l; cases r; cases r'; exact ⟨_, _, rfl, k _ W H [] (New.sc x0 .int)⟩
  · cases e⟩
theorem cd_min2 (hc : X.calm = true) : CallD X (.builtin "min") dMin2 := ⟨_, call_min2 hc, fun W H xs ds fs d Q x0 l e k => by
  unfold dMin2 at e; split at e
  · cases e
    cases l with | cons r l => cases l with | cons r' l => cases l; cases r; cases r'; exact ⟨_, _, rfl, k _ W H [] (New.sc x0 .int)⟩
  · cases e⟩
@[simp] def dAbs : List D → Res D
  | [.int i] => .ok (.int (if i < 0 then -i else i))
  | _ => .fail
theorem cd_abs : CallD X (.builtin "abs") dAbs := ⟨_, call_abs, fun W H xs ds fs d Q x0 l e k => by
  unfold dAbs at e; split at e
  · cases e
    cases l with | cons r l => cases l; cases r; exact ⟨_, rfl, k _ W H [] (New.sc x0 .int)⟩
  · cases e⟩
/-! isinstance -/
@[simp] def kindOf : D → Option String
  | .non => some "NoneType"
  | .bl _ => some "bool"
  | .int _ => some "int"
  | .str _ => some "str"
  | .tup _ => some "tuple"
  | .lst _ _ => some "list"
  | .dic _ _ _ => some "dict"
  | _ => none
/-- is a thing of the kind k one of the type n -/
def kindIs (k n : String) : Option Bool := kitB k n
@[simp] def dIsi : List D → Res D
  | [x, .ty n] => (Res.of ((kindOf x).bind fun k => kindIs k n)).bind fun b => .ok (.bl b)
  | _ => .fail
theorem sq_ty {K : PySem.W.Frag} {H : Hp} {a : Addr} {vs : List V} (h : SqL K H a vs) : TyX K H (.ref a) (.type "list") := by
  rcases h with (h | ⟨o, h⟩) | ⟨o, its, n, h, c, _⟩
  · exact .base (.lst h)
  · exact .base (.frz h)
  · exact .kList h c
theorem st_ty {K : PySem.W.Frag} {H : Hp} {a : Addr} {vs : List V} (h : SqT K H a vs) : TyX K H (.ref a) (.type "tuple") := by
  rcases h with (h | ⟨o, h⟩) | ⟨o, its, n, h, c, _⟩
  · exact .base (.tup h)
  · exact .fTuple h
  · exact .kTuple h c
theorem ty_rep {K : PySem.W.Frag} {W : Wd} {H : Hp} {v : V} {d : D} {g : List Addr} (r : RepD K W H v d g) : ∀ {k : String}, kindOf d = some k → TyX K H v (.type k) := by
  intro k e
  cases r with
  | non => cases e; exact .base .non
  | bl => cases e; exact .base (.bl _)
  | int => cases e; exact .base (.int _)
  | str => cases e; exact .base (.str _)
  | loc => cases e
  | ty => cases e
  | tup h l => cases e; exact st_ty h.sq
  | lstF h l => cases e; exact sq_ty h.sq
  | lstO h l => cases e; exact sq_ty (.inl (.inl h))
  | dkF _ h _ _ => cases e; exact .base (.dK h)
  | dtF _ h _ _ => cases e; exact .base (.dT h)
  | dkO h _ _ => cases e; exact .base (.dK h)
  | dtO h _ _ => cases e; exact .base (.dT h)
theorem cd_isi : CallD X (.builtin "isinstance") dIsi := ⟨_, call_isi, fun W H xs ds fs d Q x0 l e k => by
  unfold dIsi at e; split at e
  · obtain ⟨b, e1, e⟩ := Res.bind_eq e
    cases e
    have e1 := Res.of_eq e1
    rw [Option.bind_eq_some_iff] at e1
    obtain ⟨kk, e2, e1⟩ := e1
    cases l with | cons r l => cases l with | cons r' l =>
      cases l; cases r'
      exact ⟨_, _, _, _, b, rfl, .ty _, ty_rep r e2, kit_ty e1, k _ W H [] (New.sc x0 .bl)⟩
  · cases e⟩

/-! ### sorted: ints -/
def insI (i : Int) : List Int → List Int
  | [] => [i]
  | j :: r => if i ≤ j then i :: j :: r else j :: insI i r
def sortI : List Int → List Int
  | [] => []
  | i :: r => insI i (sortI r)
theorem insI_perm (i : Int) : ∀ r, (insI i r).Perm (i :: r)
  | [] => .refl _
  | j :: r => by
    unfold insI
    split
    · exact .refl _
    · exact (List.Perm.cons j (insI_perm i r)).trans (.swap i j r)
theorem sortI_perm : ∀ r, (sortI r).Perm r
  | [] => .refl _
  | i :: r => (insI_perm i _).trans (.cons i (sortI_perm r))
theorem insI_up (i : Int) : ∀ r : List Int, r.Pairwise (· ≤ ·) → (insI i r).Pairwise (· ≤ ·)
  | [], _ => List.pairwise_singleton _ _
  | j :: r, h => by
    rw [List.pairwise_cons] at h
    unfold insI
    split
    · rename_i q
      rw [List.pairwise_cons, List.pairwise_cons]
      refine ⟨fun a m => ?_, h⟩
      rcases List.mem_cons.mp m with m | m
      · omega
      · have := h.1 a m; omega
    · rename_i q
      rw [List.pairwise_cons]
      refine ⟨fun a m => ?_, insI_up i r h.2⟩
      rcases List.mem_cons.mp ((insI_perm i r).mem_iff.mp m) with m | m
      · omega
      · exact h.1 a m
theorem sortI_up : ∀ r : List Int, (sortI r).Pairwise (· ≤ ·)
  | [] => .nil
  | i :: r => insI_up i _ (sortI_up r)
theorem perm_up : ∀ {a b : List Int}, a.Perm b → a.Pairwise (· ≤ ·) → b.Pairwise (· ≤ ·) → a = b
  | [], b, p, _, _ => (List.Perm.eq_nil p.symm).symm
  | x :: a, [], p, _, _ => by cases (List.Perm.eq_nil p)
  | x :: a, y :: b, p, h, k => by
    rw [List.pairwise_cons] at h k
    have e : x = y := by
      have m1 := p.mem_iff.mp (List.mem_cons_self (a := x) (l := a))
      have m2 := p.mem_iff.mpr (List.mem_cons_self (a := y) (l := b))
      rcases List.mem_cons.mp m1 with m1 | m1
      · exact m1
      · rcases List.mem_cons.mp m2 with m2 | m2
        · exact m2.symm
        · have := h.1 y m2; have := k.1 x m1; omega
    subst e
    rw [perm_up (List.Perm.cons_inv p) h.2 k.2]
def toInts : List D → Option (List Int)
  | [] => some []
  | .int i :: r => (toInts r).map (i :: ·)
  | _ :: _ => none
theorem toInts_eq : ∀ {ds : List D} {ns : List Int}, toInts ds = some ns → ds = ns.map .int
  | [], ns, e => by cases e; rfl
  | .int i :: r, ns, e => by
    simp only [toInts, Option.map_eq_some_iff] at e
    obtain ⟨ms, e1, rfl⟩ := e
    rw [toInts_eq e1]; rfl
theorem repI {K : PySem.W.Frag} {W : Wd} {H : Hp} : ∀ {ns : List Int} {vs : List V} {g : List Addr}, RepL K W H vs (ns.map .int) g → vs = ns.map .int ∧ g = []
  | [], vs, g, l => by cases l; exact ⟨rfl, rfl⟩
  | n :: ns, vs, g, l => by
    cases l with | cons r l =>
      cases r
      obtain ⟨rfl, rfl⟩ := repI l
      exact ⟨rfl, rfl⟩
theorem repIs {K : PySem.W.Frag} {W : Wd} {H : Hp} : ∀ ns : List Int, RepL K W H (ns.map .int) (ns.map .int) []
  | [] => .nil
  | n :: ns => RepL.cons (f := []) .int (repIs ns)
@[simp] def dSortI : List D → Res D
  | [.lst _ xs] => (Res.of (toInts xs)).bind fun ns => .ok (.lst true ((sortI ns).map .int))
  | _ => .fail
theorem cd_sortI : CallD X (.builtin "sorted") dSortI := ⟨_, cr_sortedI, fun W H xs ds fs d Q x0 l e k => by
  unfold dSortI at e; split at e
  · obtain ⟨ns, e1, e⟩ := Res.bind_eq e
    cases e
    have e2 := toInts_eq (Res.of_eq e1)
    cases l with | cons r l =>
      cases l
      obtain ⟨a, vs, g, rfl, s, l, _⟩ := r.lst
      rw [e2] at l
      obtain ⟨rfl, _⟩ := repI l
      refine ⟨a, ns, rfl, s, fun ns' p pm up hp => ?_⟩
      obtain rfl := perm_up (pm.trans (sortI_perm ns).symm) up (sortI_up ns)
      exact k _ _ _ _ (New.lst x0 hp (repIs _))
  · cases e⟩
end
end E
/-! EngL: changes in place, defs, constants -/
namespace E
open PySem L2

section
variable {K : PySem.W.Frag} {CT : Nat → Addr} {W : Wd} {H : Hp} {σ : L2.St} {m : Mem} {fp fd : List Addr}
theorem RepL.set {vs : List V} {ds : List D} {v : V} {d : D} {f : List Addr} (r : RepD K W H v d f) : ∀ {g : List Addr}, RepL K W H vs ds g → ∀ j : Nat, ∃ g' rest, RepL K W H (vs.set j v) (ds.set j d) g' ∧ (g' ++ rest).Perm (g ++ f) := by
  induction vs generalizing ds with
  | nil => intro g l j; cases l; exact ⟨[], f, .nil, by simp⟩
  | cons w vs ih => intro g l j; cases l with
    | @cons _ d0 f0 _ ds g r0 l =>
      cases j with
      | zero =>
        refine ⟨f ++ g, f0, .cons r l, ?_⟩
        rw [List.perm_iff_count]; intro a; simp only [List.count_append]; omega
      | succ j =>
        obtain ⟨g', rest, l', pm⟩ := ih l j
        refine ⟨f0 ++ g', rest, .cons r0 l', ?_⟩
        rw [List.append_assoc, List.append_assoc]
        exact List.Perm.append_left f0 pm
/-- an owned list in a slot is changed -/
theorem slot_mut {i : Nat} {xs : List D} (rel : Rel K CT W H σ m fp) (he : m.env[i]? = some (.lst true xs)) (ndd : (fp ++ fd).Nodup) (ownd : Own W H fd) :
    ∃ a vs fx, σ[i]? = some (some (.ref a)) ∧ H a = some (.lst vs) ∧ RepL K W H vs xs fx ∧ (∀ b ∈ fx, b ∈ fp) ∧
      ∀ vs' xs' fx' rest, RepL K W H vs' xs' fx' → (fx' ++ rest).Perm (fx ++ fd) → ∃ fp', PostT K CT W H σ (fp ++ fd) { m with env := m.env.set i (.lst true xs') } W (upd H a (.lst vs')) fp' ∧ ((fp' ++ rest).Perm (fp ++ fd)) := by
  obtain ⟨f, g, rfl, h1, h2⟩ := rel.s
  obtain ⟨v, A, f1, B, rfl, s, r, k⟩ := h1.at he (fun z => by cases z)
  cases r with
  | @lstO a vs _ fx ha l =>
    refine ⟨a, vs, fx, s, ha, l, fun b z => by simp [z], fun vs' xs' fx' rest l' pm => ?_⟩
    have x : Ext W H W (upd H a (.lst vs')) [a] := ⟨fun _ h => h, fun _ _ h => h, fun b o h n => by rw [upd_ne (fun z => n (by simp [z]))]; exact h, fun _ h => .inl h, fun b h => by
      by_cases e : b = a
      · subst e; rw [upd_same] at h; cases h
      · rw [upd_ne e] at h; exact h⟩
    have ha' : a ∈ A ++ (a :: fx) ++ B ++ g := by simp
    have off : Off W [a] := fun b z => by rw [List.mem_singleton.mp z]; exact (rel.own a ha').1
    have cnt : ∀ b, (A ++ (a :: fx') ++ B ++ g ++ rest).count b = (A ++ (a :: fx) ++ B ++ g ++ fd).count b := fun b => by
      have := pm.count_eq b
      simp only [List.count_append, List.count_cons] at this ⊢
      omega
    have pmT : (A ++ (a :: fx') ++ B ++ g ++ rest).Perm (A ++ (a :: fx) ++ B ++ g ++ fd) := List.perm_iff_count.mpr cnt
    have ndT := pmT.nodup_iff.mpr ndd
    rw [List.nodup_append] at ndT
    have nd2 := ndT.1
    have once : ∀ b ∈ A ++ B ++ g ++ fx', b ∉ [a] := fun b z y => by
      rw [List.mem_singleton.mp y] at z
      have c1 := List.nodup_iff_count.mp nd2 a
      have c2 := List.count_pos_iff.mpr z
      simp only [List.count_append, List.count_cons_self] at c1 c2
      omega
    have rp : RepD K W (upd H a (.lst vs')) (.ref a) (.lst true xs') (a :: fx') := .lstO upd_same (l'.ext x off fun b z => once b (by simp [z]))
    have ks := k (v' := .ref a) x off (fun b z => once b (by simp only [List.mem_append] at z ⊢; exact .inl (.inl z))) rp
    rw [set_same s] at ks
    have memT : ∀ b ∈ A ++ (a :: fx') ++ B ++ g, b ∈ A ++ (a :: fx) ++ B ++ g ++ fd := fun b z => pmT.mem_iff.mp (List.mem_append_left _ z)
    refine ⟨A ++ (a :: fx') ++ B ++ g, ⟨⟨⟨_, g, rfl, ks, h2.ext x off fun b z => once b (by simp [z])⟩, nd2, fun b z => ?_, fix_upd rel.fix⟩, x.sub fun b z => by rw [List.mem_singleton.mp z]; simp, fun b z => .inl (memT b z)⟩, pmT⟩
    have ob : ¬ W.F b ∧ H b ≠ none := by
      rcases List.mem_append.mp (memT b z) with y | y
      · exact rel.own b y
      · exact ownd b y
    refine ⟨ob.1, ?_⟩
    by_cases e : b = a
    · subst e; rw [upd_same]; exact fun z => by cases z
    · rw [upd_ne e]; exact ob.2
end

@[simp] def D.isL : D → Bool
  | .lst _ _ => true
  | _ => false
def mAppN (i : Nat) (a : M D) : M D := fun m => (mqVar i m).bind fun d0 => Res.when d0.isL ((a m).bind fun r => (mqVar i r.2).bind fun d => match d with
  | .lst true xs => Res.when (decide (xs.length < sizeLine)) (.ok (.non, { r.2 with env := r.2.env.set i (.lst true (xs ++ [r.1])) }))
  | _ => .fail)
/-- x[k] = v, the list in a slot -/
def bSub (i : Nat) (q : MQ D) : D → Mem → Res Mem := fun d m => (q m).bind fun k => (mqVar i m).bind fun x => match x, k with
  | .lst true xs, .int k => (Res.of (ixN xs.length k)).bind fun j => .ok { m with env := m.env.set i (.lst true (xs.set j d)) }
  | _, _ => .fail
def sAug (i : Nat) (g : D → D → Res D) (e : M D) : MS := fun m => (mqVar i m).bind fun d0 => Res.when d0.pure ((e m).bind fun r => (g d0 r.1).bind fun d => Res.when (d.pure && decide (i < r.2.env.length)) (.ok (.nx, { r.2 with env := r.2.env.set i d })))
section
variable {X : Cx} {CT : Nat → Addr} {pin : List Nat} {e o : Expr} {es : List Expr} {i : Nat} {me : M D} {pos apos cpos : Pos} {q : MQ D} {g : D → D → Res D} {op : Operator}
theorem var_of {K : PySem.W.Frag} {W : Wd} {H : Hp} {σ : L2.St} {m : Mem} {fp : List Addr} {d : D} (rel : Rel K CT W H σ m fp) (e : mqVar i m = .ok d) : ∃ v f, σ[i]? = some (some v) ∧ RepD K W H v d f ∧ ∀ a ∈ f, a ∈ fp := by
  obtain ⟨q1, q2⟩ := mqVar_eq e
  obtain ⟨f, g, rfl, h1, h2⟩ := rel.s
  obtain ⟨v, A, f1, B, rfl, s, r, _⟩ := h1.at q1 q2
  exact ⟨v, f1, s, r, fun a z => by simp [z]⟩
theorem me_appN (ho : PE X o (tVar i)) (ha : ME X CT e me)
    (hbase : attributeBase o "append" X.env (eval o X.env) = eval o X.env := by rfl)
    (hfew : ((backTo cpos (starEach [e] X.env)).all (fun x => !x.1) && (backToKw cpos (keywordEach [] X.env)).all (fun x => x.1.isSome)
      && decide (([e] : List Expr).length + ([] : List Keyword).length + (if ([] : List Keyword).isEmpty then 0 else 1) < 30)) = true := by rfl)
    (hline : (apos.endLine == cpos.line) = true := by rfl) (hs : starEach [e] X.env = (false, eval e X.env) :: starEach [] X.env := by rfl) (hplain : (backTo cpos (starEach [] X.env)).any (·.1) = false := by rfl) :
    ME X CT (.Call (.Attribute o "append" apos) [e] [] cpos) (mAppN i me) :=
  pe_weak (pe_bm PySem.F.plainAttrs_list PySem.F.slot_list_append PySem.F.type_list_append mt_append ho (pa_cons ha pa_nil hs) hbase hfew hline hs hplain) fun σ H Q ⟨W, m, fp, d, m', rel, e, k⟩ => by
    obtain ⟨d0, e0, e⟩ := Res.bind_eq e
    obtain ⟨hL, e⟩ := Res.when_eq e
    obtain ⟨⟨d1, m1⟩, e1, e⟩ := Res.bind_eq e
    obtain ⟨d2, e2, e⟩ := Res.bind_eq e
    obtain ⟨v, f, s, r, _⟩ := var_of rel e0
    refine ⟨v, s, ?_, W, m, fp, d1, m1, rel, e1, fun y W1 H1 fp1 fd p => ?_⟩
    · cases d0 <;> simp [D.isL] at hL
      obtain ⟨a, vs, g, rfl, sq, _, _⟩ := r.lst
      exact .inl ⟨rfl, vs, sq⟩
    · dsimp only at e2 e
      split at e
      · rename_i xs
        obtain ⟨hl, e⟩ := Res.when_eq e
        cases e
        obtain ⟨a, vs, fx, s', ha, l, sb, kk⟩ := slot_mut p.rel (mqVar_eq e2).1 p.nd p.own
        rw [s] at s'
        cases s'
        obtain ⟨fp', pt, _⟩ := kk (vs ++ [y]) (xs ++ [d1]) (fx ++ fd) [] (by
          have := l.app (RepL.cons p.rep .nil)
          rw [List.append_nil] at this
          exact this) (by rw [List.append_nil])
        refine ⟨a, vs, y, rfl, rfl, ha, by rw [l.length]; exact of_decide_eq_true hl, k .non W1 _ fp' [] ?_⟩
        have s1 : ∀ b ∈ fp1 ++ fd, b ∈ fp ∨ H b = none := p.sub
        exact PostT.post ⟨pt.rel, p.ext.trans pt.ext s1, subT s1 pt.sub p.ext.there⟩ (Post.mk0 pt.rel .non)
      · cases e
theorem mg_sub (ho : PE X o (tVar i)) (hi : MEQ X CT e q) (ha : ∀ v, assign (.Subscript o e pos) X.env v = (do
      let ov ← holding [v] (eval o X.env)
      let iv ← holding [v, ov] (eval e X.env)
      standAt pos
      holding [v, ov, iv] (setItem ov iv v)
      release [v, ov, iv] []) := by intro _; rfl) : MG X CT pin (.Subscript o e pos) (bSub i q) := by
  refine ⟨fun pins s σ H v u Q I r h => (pg_sub ho hi set_list ha).run pins s σ H v u Q I r ?_⟩
  obtain ⟨W, m, fp, d, fd, m', rel, rp, nd, own, e, k⟩ := h
  obtain ⟨kd, e1, e⟩ := Res.bind_eq e
  obtain ⟨xd, e2, e⟩ := Res.bind_eq e
  obtain ⟨v0, f0, s0, r0, _⟩ := var_of rel e2
  refine ⟨v0, s0, W, m, fp, kd, rel, e1, fun kv W1 H1 fk p => ?_⟩
  have rk := p.rep
  split at e
  · obtain ⟨j, e3, e⟩ := Res.bind_eq e
    cases e
    have e3 := Res.of_eq e3
    cases rk
    have rd := rp.ext p.ext off_nil fun a _ z => by cases z
    obtain ⟨a, vs, fx, s', ha, l, sb, kk⟩ := slot_mut p.rel (mqVar_eq e2).1 nd (own.ext p.ext fun a _ z => by cases z)
    rw [s0] at s'
    cases s'
    have hj := (ixN_seq e3).2.1
    obtain ⟨fx', rest, l', pm⟩ := l.set rd j
    obtain ⟨fp', pt, _⟩ := kk _ _ fx' rest l' pm
    refine ⟨a, vs, _, j, rfl, rfl, ha, by rw [l.length]; exact e3, k σ W1 _ fp' ⟨pt.rel, (p.ext.sub fun a z => by cases z).trans pt.ext fun a z => .inl z, fun b z => ?_, fun _ _ => rfl, rfl⟩⟩
    rcases pt.sub b z with y | y
    · exact .inl y
    · exact .inr (p.ext.there b y)
  · cases e
end
end E
/-! EngM: a def by its mirror -/
namespace E
open PySem L2 PySem.Spec PyProof.Rows

def D.defd : D → Bool
  | .und => false
  | _ => true
/-- what the arguments are behind the body: a parameter that the body stores to must have been pure -/
@[simp] def outs (pin : List Nat) : Nat → List D → List D → Res (List D)
  | _, [], _ => .ok []
  | j, d :: ds, e :: es => if pin.contains j = true then Res.when e.defd ((outs pin (j + 1) ds es).bind fun r => .ok (e :: r)) else Res.when d.pure ((outs pin (j + 1) ds es).bind fun r => .ok (d :: r))
  | _, _ :: _, [] => .fail
@[simp] def D.rtv : Fl → Res D
  | .nx => .ok .non
  | .rt d => .ok d
  | _ => .fail
def mDef (n N : Nat) (pin : List Nat) (body : MS) : CallM := fun ds hs => Res.when (decide (ds.length = n)) ((body ⟨ds ++ List.replicate (N - n) .und, hs⟩).bind fun r => (D.rtv r.1).bind fun d => (outs pin 0 ds r.2.env).bind fun ds' => .ok (d, ds', r.2.hs))
theorem mDef_len {n N : Nat} {pin : List Nat} {body : MS} : ∀ ds hs o, mDef n N pin body ds hs = .ok o → ds.length = n := fun ds hs o h => of_decide_eq_true (Res.when_eq h).1
section
variable {K : PySem.W.Frag} {CT : Nat → Addr} {W W' : Wd} {H H' : Hp} {σ : L2.St}
theorem RepS.init : ∀ {vs : List V} {ds : List D} {g : List Addr}, RepL K W H vs ds g → ∀ k : Nat, RepS K W H (vs.map some ++ List.replicate k none) (ds ++ List.replicate k .und) g
  | _, _, _, .nil, k => by
    show RepS K W H (List.replicate k none) (List.replicate k .und) []
    induction k with
    | zero => exact .nil
    | succ k ih => exact .und ih
  | _, _, _, .cons r l, k => .cons r (RepS.init l k)
theorem outs_rep {pin : List Nat} : ∀ {σ : L2.St} {es : List D} {f : List Addr}, RepS K W' H' σ es f → ∀ {vs : List V} {ds : List D} {j : Nat} {ds' : List D}, vs.length = ds.length → outs pin j ds es = .ok ds' →
    (∀ t v, vs[t]? = some v → pin.contains (j + t) = true → σ[t]? = some (some v)) → (∀ t v d, vs[t]? = some v → ds[t]? = some d → pin.contains (j + t) = false → d.pure = true → RepD K W' H' v d []) → ∃ g rest, RepL K W' H' vs ds' g ∧ (g ++ rest).Perm f := by
  intro σ es f h
  induction h with
  | nil =>
    intro vs ds j ds' hl e hp hu
    cases ds with
    | nil =>
      cases vs with
      | nil => cases e; exact ⟨[], [], .nil, .refl _⟩
      | cons v vs => cases hl
    | cons d ds => cases e
  | @und x σ es g hs ih =>
    intro vs ds j ds' hl e hp hu
    cases ds with
    | nil =>
      cases vs with
      | nil => cases e; exact ⟨[], g, .nil, by simp⟩
      | cons v vs => cases hl
    | cons d ds =>
      cases vs with
      | nil => cases hl
      | cons v vs =>
        unfold outs at e
        split at e
        · obtain ⟨z, _⟩ := Res.when_eq e
          cases z
        · rename_i hc
          obtain ⟨pd, e⟩ := Res.when_eq e
          obtain ⟨r, e1, e⟩ := Res.bind_eq e
          cases e
          obtain ⟨g', rest, l, pm⟩ := ih (by simpa using hl) e1 (fun t v h1 h2 => by
            have := hp (t + 1) v (by simpa using h1) (by rw [show j + (t + 1) = j + 1 + t by omega]; exact h2)
            simpa using this) (fun t v d h1 h2 h3 h4 => hu (t + 1) v d (by simpa using h1) (by simpa using h2) (by rw [show j + (t + 1) = j + 1 + t by omega]; exact h3) h4)
          have r0 := hu 0 v d rfl rfl (by simpa using hc) pd
          exact ⟨g', rest, RepL.cons (f := []) r0 l, pm⟩
  | @cons w σ e0 es f0 g r hs ih =>
    intro vs ds j ds' hl e hp hu
    cases ds with
    | nil =>
      cases vs with
      | nil => cases e; exact ⟨[], f0 ++ g, .nil, by simp⟩
      | cons v vs => cases hl
    | cons d ds =>
      cases vs with
      | nil => cases hl
      | cons v vs =>
        unfold outs at e
        split at e
        · rename_i hc
          obtain ⟨_, e⟩ := Res.when_eq e
          obtain ⟨r', e1, e⟩ := Res.bind_eq e
          cases e
          obtain ⟨g', rest, l, pm⟩ := ih (by simpa using hl) e1 (fun t v h1 h2 => by
            have := hp (t + 1) v (by simpa using h1) (by rw [show j + (t + 1) = j + 1 + t by omega]; exact h2)
            simpa using this) (fun t v d h1 h2 h3 h4 => hu (t + 1) v d (by simpa using h1) (by simpa using h2) (by rw [show j + (t + 1) = j + 1 + t by omega]; exact h3) h4)
          have e2 := hp 0 v rfl (by simpa using hc)
          have e3 : w = v := by simpa using e2
          subst e3
          refine ⟨f0 ++ g', rest, .cons r l, ?_⟩
          rw [List.append_assoc]
          exact List.Perm.append_left f0 pm
        · rename_i hc
          obtain ⟨pd, e⟩ := Res.when_eq e
          obtain ⟨r', e1, e⟩ := Res.bind_eq e
          cases e
          obtain ⟨g', rest, l, pm⟩ := ih (by simpa using hl) e1 (fun t v h1 h2 => by
            have := hp (t + 1) v (by simpa using h1) (by rw [show j + (t + 1) = j + 1 + t by omega]; exact h2)
            simpa using this) (fun t v d h1 h2 h3 h4 => hu (t + 1) v d (by simpa using h1) (by simpa using h2) (by rw [show j + (t + 1) = j + 1 + t by omega]; exact h3) h4)
          have r0 := hu 0 v d rfl rfl (by simpa using hc) pd
          refine ⟨g', f0 ++ rest, RepL.cons (f := []) r0 l, ?_⟩
          refine List.Perm.trans ?_ (List.Perm.append_left f0 pm)
          rw [← List.append_assoc, ← List.append_assoc]
          exact List.Perm.append_right rest List.perm_append_comm
end
/-- the body, with no def in sight: from the promise to its reading -/
theorem body_ok {K : PySem.W.Frag} {CT : Nat → Addr} {N : List Str} {n : Nat} {pin : List Nat} {b : MS} {vs : List V} {H : Hp} {Q : VK} {wx : XK} (h : spM K CT n (mDef n N.length pin b) vs H Q wx) :
    tS K CT pin b { nx := fun _ H' => Q .non H', rt := Q } (L2.start N vs) H := by
  obtain ⟨W, ds, hs, fd, fh, r, ds', hs', hn, l, k, nd, own, fix, e, q⟩ := h
  obtain ⟨_, e⟩ := Res.when_eq e
  obtain ⟨⟨fl, m'⟩, e1, e⟩ := Res.bind_eq e
  obtain ⟨d, e2, e⟩ := Res.bind_eq e
  obtain ⟨ds1, e3, e⟩ := Res.bind_eq e
  cases e
  have hvl : vs.length = ds.length := l.length
  have rs := RepS.init l (N.length - n)
  have es : L2.start N vs = vs.map some ++ List.replicate (N.length - n) none := by
    unfold L2.start; rw [hvl, hn]
  rw [es]
  have rel : Rel K CT W H (vs.map some ++ List.replicate (N.length - n) none) ⟨ds ++ List.replicate (N.length - n) .und, hs⟩ (fd ++ fh) := ⟨⟨fd, fh, rfl, rs, k⟩, nd, own, fix⟩
  have fin : ∀ v σ' W' H' fp' fr, PostR K CT pin W H (vs.map some ++ List.replicate (N.length - n) none) (fd ++ fh) v r m' σ' W' H' fp' fr → Q v H' := fun v σ' W' H' fp' fr p => by
    obtain ⟨f, g, rfl, h1, h2⟩ := p.rel.s
    have off := rel.off
    obtain ⟨g1, rest, l1, pm⟩ := outs_rep h1 hvl e3 (fun t v ht hc => by
        have hlt : t < (vs.map some).length := by simpa using (List.getElem?_eq_some_iff.mp ht).1
        rw [Nat.zero_add] at hc
        rw [p.pin t (by simpa using hc), List.getElem?_append_left hlt, List.getElem?_map, ht]
        rfl) (fun t v d ht hd _ pd => by
        obtain ⟨v', f', hv, rd, _⟩ := l.get hd
        rw [ht] at hv
        cases hv
        obtain rfl := rd.pure pd
        exact rd.ext p.ext off fun a z => by cases z)
    have pm2 : ((g1 ++ g) ++ fr ++ rest).Perm ((f ++ g) ++ fr) := by
      rw [List.perm_iff_count]; intro a
      have := pm.count_eq a
      simp only [List.count_append] at this ⊢; omega
    have nd2 := pm2.nodup_iff.mpr p.nd
    rw [List.nodup_append] at nd2
    have mem : ∀ a ∈ (g1 ++ g) ++ fr, a ∈ (f ++ g) ++ fr := fun a z => pm2.mem_iff.mp (List.mem_append_left _ z)
    refine q v W' H' g1 g fr l1 h2 p.rep nd2.1 (fun a z => ?_) p.rel.fix p.ext fun a z => p.sub a (mem a z)
    rcases List.mem_append.mp (mem a z) with y | y
    · exact p.rel.own a y
    · exact p.own a y
  refine ⟨W, _, fd ++ fh, fl, m', rel, e1, ?_⟩
  cases fl with
  | nx =>
    cases e2
    exact fun σ' W' H' fp' p => fin .non σ' W' H' fp' [] (p.r0 .non)
  | rt d =>
    cases e2
    exact fun v σ' W' H' fp' fr p => fin v σ' W' H' fp' fr p
  | bk => cases e2
  | ct => cases e2
section
variable {P : Program} {w : World} {K : PySem.W.Frag} {mg : Str → Option Value} {base : Heap} {CT : Nat → Addr}
theorem fun_ok {x qual : Str} {st : Stmt} {f : Addr} {fd : FuncData} {N ps : List Str} {k : Nat} {pin : List Nat} {b : MS} (F : Fun K x qual st f fd) (S : FnScope N ps (defScope st))
    (hbody : ∀ (cdv : Value) (A : Around) (outer : List Env) (s : Shared) (H : Hp) (wx : XK), Room k (A.deeper (envOfC qual (defScope st) s.heap.objs.size f cdv)) → MSs (cxOf CX0 P w K mg base N qual (defScope st) f cdv A outer s H wx).nox CT pin (defBody st) b) :
    FnOk P w K mg base CX0 (k + 1) f fd ps (spM K CT ps.length (mDef ps.length N.length pin b)) :=
  F.ok S (fun vs H Q E h => spM_len h) fun cdv A outer s H vs Q E hr h => ⟨_, hbody cdv A outer s H E hr, body_ok h⟩
end

/-! ### constants of the module -/
/-- a value that the top has written -/
inductive KD (K : PySem.W.Frag) : Value → D → Prop
  | non : KD K .none .non
  | bl {b} : KD K (.bool b) (.bl b)
  | int {i t} : KD K (.int i t) (.int i)
  | str {x t} : KD K (.str x t) (.str x)
  | ty {n} : KD K (.type n) (.ty n)
theorem kd_rep {K : PySem.W.Frag} {u : Value} {d : D} (h : KD K u d) : ∃ v, RelV v u ∧ ∀ W H, RepD K W H v d [] := by
  cases h with
  | non => exact ⟨.non, rfl, fun _ _ => .non⟩
  | bl => exact ⟨.bl _, rfl, fun _ _ => .bl⟩
  | int => exact ⟨.int _, ⟨_, rfl⟩, fun _ _ => .int⟩
  | str => exact ⟨.str _, ⟨_, rfl⟩, fun _ _ => .str⟩
  | ty => exact ⟨.ty _, rfl, fun _ _ => .ty⟩
section
variable {X : Cx} {CT : Nat → Addr} {pos : Pos}
theorem meq_glob {x : Str} {d : D} {u : Value} (hg : Gl X x) (hm : X.mg x = some u) (h : KD X.K u d) (hd : (x == ("__debug__" : Str)) = false := by decide) : MEQ X CT (.Name x pos) (mqC d) := by
  obtain ⟨v, r, rp⟩ := kd_rep h
  exact meq_c (pe_glob hg hm r hd) rp
theorem meq_ty {x : Str} {n : String} (hg : Gl X x) (hm : X.mg x = none) (hv : bootBuiltins x = some (.type n)) (hn : x ≠ "__name__" := by decide) (hd : (x == ("__debug__" : Str)) = false := by decide) : MEQ X CT (.Name x pos) (mqC (.ty n)) :=
  meq_c (pe_bltn hg hm hv (v := .ty n) rfl hn hd) fun _ _ => .ty
end
end E
/-! EngN: more statements -/
namespace E
open PySem L2 PySem.Spec PyProof.Rows
section
variable {X : Cx} {CT : Nat → Addr} {pin : List Nat} {e o a b : Expr} {es : List Expr} {i j : Nat} {me : M D} {pos apos cpos : Pos} {q : MQ D} {g : D → D → Res D} {op : Operator} {bb : D → Mem → Res Mem} {bs : List D → Mem → Res Mem}
theorem mst_set {x : Str} {pos' : Pos} (hN : X.N.Nodup) (hi : X.N[i]? = some x) (hx : Loc X.env.scope x) (hp : i ∉ pin) (he : ME X CT e me) (hs : swapsWith e (some (.Name x pos')) pos.line X.env = pure false := by rfl) (hf : X.fn x = true ∨ X.env.scope.names.lookup x = some .local := by first | exact .inl rfl | exact .inr rfl | assumption) :
    MSt X CT pin (.Assign [.Name x pos'] e pos) (sAsg me (bName i)) := ps_weak (ps_set hN hi hx he hs hf) fun D σ H ⟨W, m, fp, fl, m', rel, e, k⟩ => by
  obtain ⟨⟨d, m1⟩, e1, e⟩ := Res.bind_eq e
  obtain ⟨m2, e2, e⟩ := Res.bind_eq e
  cases e
  refine ⟨W, m, fp, d, m1, rel, e1, fun v W1 H1 fp1 fd p => ?_⟩
  exact bName_rep hp p.rel p.rep p.nd p.own e2 fun σ' W' H' fp' q => k σ' W' H' fp' ⟨q.rel, p.ext.trans q.ext p.sub, subT p.sub q.sub p.ext.there, q.pin, q.len⟩
/-- a local name's thing, taken out of its slot -/
def mMv (i : Nat) : M D := fun m => (mqVar i m).bind fun d => if d.pure = true then .ok (d, m) else .ok (d, { m with env := m.env.set i .und })
theorem me_mv {i : Nat} (h : PE X e (tVar i)) : ME X CT e (mMv i) := pe_weak h fun σ H Q ⟨W, m, fp, d, m', rel, e, k⟩ => by
  obtain ⟨d1, e1, e2⟩ := Res.bind_eq e
  obtain ⟨e3, nu⟩ := mqVar_eq e1
  obtain ⟨f, g, rfl, h1, h2⟩ := rel.s
  by_cases p : d1.pure = true
  · rw [if_pos p] at e2
    cases e2
    obtain ⟨v, A, f1, B, rfl, s, r, kk⟩ := h1.at e3 nu
    obtain rfl := r.pure p
    exact ⟨v, s, k v W H _ [] (Post.mk0 rel r)⟩
  · rw [if_neg p] at e2
    cases e2
    obtain ⟨v, f1, f', pm, s, r, kk⟩ := h1.take e3 nu
    have pm2 : ((f' ++ g) ++ f1).Perm (f ++ g) := by
      rw [List.perm_iff_count]; intro a
      have := pm.count_eq a
      simp only [List.count_append] at this ⊢; omega
    have nd := pm2.nodup_iff.mpr rel.nd
    have mem : ∀ a ∈ (f' ++ g) ++ f1, a ∈ f ++ g := fun a z => pm2.mem_iff.mp z
    have own : Own W H ((f' ++ g) ++ f1) := fun a z => rel.own a (mem a z)
    have nd' := nd
    rw [List.nodup_append] at nd'
    exact ⟨v, s, k v W H (f' ++ g) f1 ⟨⟨⟨f', g, rfl, kk, h2⟩, nd'.1, (Own.app.mp own).1, rel.fix⟩, r, nd, (Own.app.mp own).2, Ext.refl _ _ _, fun a z => .inl (mem a z)⟩⟩
theorem ipd_add : OpD X (inplaceOp .Add) dAddI := by
  refine ⟨_, ip_add, fun W H x y d1 d2 f1 f2 d Q x0 a b e q => ?_⟩
  unfold dAddI at e; split at e
  · cases e; cases a; cases b
    exact ⟨_, _, rfl, rfl, q _ W H [] (New.sc x0 .int)⟩
  · cases e
theorem ipd_sub : OpD X (inplaceOp .Sub) dSub := by
  refine ⟨_, ip_sub, fun W H x y d1 d2 f1 f2 d Q x0 a b e q => ?_⟩
  unfold dSub at e; split at e
  · cases e; cases a; cases b
    exact ⟨_, _, rfl, rfl, q _ W H [] (New.sc x0 .int)⟩
  · cases e
theorem mst_aug {x : Str} {pos' : Pos} (ho : OpD X (inplaceOp op) g) (hN : X.N.Nodup) (hi : X.N[i]? = some x) (hx : Loc X.env.scope x) (hp : i ∉ pin) (he : ME X CT e me) (hf : X.fn x = true ∨ X.env.scope.names.lookup x = some .local := by first | exact .inl rfl | exact .inr rfl | assumption) :
    MSt X CT pin (.AugAssign (.Name x pos') op e pos) (sAug i g me) := by
  obtain ⟨r, hr, kr⟩ := ho
  refine ps_weak (ps_aug hN hi hx he hr hf) fun D σ H ⟨W, m, fp, fl, m', rel, e, k⟩ => ?_
  obtain ⟨d0, e0, e⟩ := Res.bind_eq e
  obtain ⟨pd, e⟩ := Res.when_eq e
  obtain ⟨⟨d1, m1⟩, e1, e⟩ := Res.bind_eq e
  obtain ⟨d2, e2, e⟩ := Res.bind_eq e
  obtain ⟨hl, e⟩ := Res.when_eq e
  cases e
  rw [Bool.and_eq_true] at hl
  obtain ⟨v, f, s, rv, _⟩ := var_of rel e0
  obtain rfl := rv.pure pd
  refine ⟨v, s, W, m, fp, d1, m1, rel, e1, fun y W1 H1 fp1 fd p => ?_⟩
  refine kr W1 H1 v y d0 d1 [] fd d2 _ p.rel.fix (rv.ext p.ext rel.off fun a z => by cases z) p.rep e2 fun z W2 H2 fz n => ?_
  have := n.rep.pure hl.1
  subst this
  have r2 : Rel X.K CT W2 H2 σ m1 fp1 := p.rel.ext n.ext off_nil (fun a _ z => by cases z) n.ι n.fix
  refine bName_rep (fd := []) hp r2 n.rep (by rw [List.append_nil]; exact r2.nd) Own.nil (by unfold bName; rw [hl.2]; rfl) fun σ' W' H' fp' q => k σ' W' H' fp' ?_
  have q1 := q.ext
  rw [List.append_nil] at q1
  have q2 : ∀ a ∈ fp', a ∈ fp1 ∨ H2 a = none := fun a z => by
    have := q.sub a z
    rw [List.append_nil] at this
    exact this
  have x12 : Ext W H W2 H2 fp := p.ext.trans n.ext fun a z => by cases z
  have s1 : ∀ a ∈ fp1, a ∈ fp ∨ H a = none := fun a z => p.sub a (List.mem_append_left _ z)
  exact ⟨q.rel, x12.trans q1 s1, fun a z => (q2 a z).elim (s1 a) fun y => .inr (x12.there a y), q.pin, q.len⟩
theorem pg_or {tg : Expr} {t t' : TG} (h : PG X tg t) (h' : PG X tg t') : PG X tg (fun v σ H Q => t v σ H Q ∨ t' v σ H Q) := ⟨fun pins s σ H v u Q I r q => q.elim (h.run pins s σ H v u Q I r) (h'.run pins s σ H v u Q I r)⟩
/-- a tuple or a list, unpacked -/
def bTL (n : Nat) (bs : List D → Mem → Res Mem) : D → Mem → Res Mem
  | .tup ds, m => Res.when (decide (ds.length = n)) (bs ds m)
  | .lst _ ds, m => Res.when (decide (ds.length = n) && pureL ds) (bs ds m)
  | _, _ => .fail
theorem mg_tl {k n : Nat} (hc : X.calm = true) (h : MGs X CT pin es bs) (hn : (assignEach es X.env).length = n := by rfl) (hst : (assignEach es X.env).findIdx? (·.1) = none := by rfl) : MG X CT pin (.Tuple es k pos) (bTL n bs) := by
  have h1 : MG X CT pin (.Tuple es k pos) (bTup n bs) := mg_tup hc h hn hst
  have h2 : MG X CT pin (.Tuple es k pos) (bLst n bs) := mg_lst hc h hn hst
  refine ⟨fun pins s σ H v u Q I r h0 => ?_⟩
  obtain ⟨W, m, fp, d, fd, m', rel, rp, nd, own, e, kk⟩ := h0
  cases d with
  | tup ds => exact h1.run pins s σ H v u Q I r ⟨W, m, fp, _, fd, m', rel, rp, nd, own, e, kk⟩
  | lst o ds => exact h2.run pins s σ H v u Q I r ⟨W, m, fp, _, fd, m', rel, rp, nd, own, e, kk⟩
  | _ => cases e
/-- x, y = a, b -/
def sPar (i j : Nat) (a : M (List Arg)) : MS := fun m => (a m).bind fun r => (vals r.1).bind fun ds => match ds with
  | [d1, d2] => (bName i d1 r.2).bind fun m1 => (bName j d2 m1).bind fun m2 => .ok (.nx, m2)
  | _ => .fail
theorem mst_par {x y : Str} {px py pt : Pos} {kt k2 : Nat} {pt2 : Pos} {ml : M (List Arg)} (hc : X.calm = true) (hN : X.N.Nodup) (hi : X.N[i]? = some x) (hj : X.N[j]? = some y) (hij : i ≠ j)
    (hx : X.env.scope.names.lookup x = some .local) (hy : X.env.scope.names.lookup y = some .local) (ip : i ∉ pin) (jp : j ∉ pin) (ha : MA X CT [a, b] ml)
    (hw : swappedStores [.Tuple [.Name x px, .Name y py] kt pt] (.Tuple [a, b] k2 pt2) X.env = pure (some [x, y]))
    (hs : swapsWithSole [.Tuple [.Name x px, .Name y py] kt pt] (.Tuple [a, b] k2 pt2) pos.line X.env = pure false := by rfl) :
    MSt X CT pin (.Assign [.Tuple [.Name x px, .Name y py] kt pt] (.Tuple [a, b] k2 pt2) pos) (sPar i j ml) := ps_weak (ps_par hc hN hi hj hij hx hy ha hw hs) fun D σ H ⟨W, m, fp, fl, m', rel, e, k⟩ => by
  obtain ⟨⟨as, m1⟩, e1, e⟩ := Res.bind_eq e
  obtain ⟨ds, e2, e⟩ := Res.bind_eq e
  dsimp only at e2 e
  split at e
  · rename_i d1 d2
    obtain ⟨m2, e3, e⟩ := Res.bind_eq e
    obtain ⟨m3, e4, e⟩ := Res.bind_eq e
    cases e
    refine ⟨W, m, fp, as, m1, rel, e1, fun vs W1 H1 fp1 fa p => ?_⟩
    have l := vals_rep p.rep e2
    have nd := p.nd
    cases l with
    | @cons v1 _ f1 vs _ g1 r1 l =>
      cases l with
      | @cons v2 _ f2 vs2 _ g2 r2 l =>
        cases l
        rw [List.append_nil] at nd
        have own := p.own
        rw [List.append_nil] at own
        rw [← List.append_assoc, List.nodup_append] at nd
        refine ⟨v1, v2, rfl, ?_⟩
        refine bName_rep (pin := pin) ip p.rel r1 nd.1 (Own.app.mp own).1 e3 (Q := fun σ' H' => D.nx (σ'.set j (some v2)) H') fun σ2 W2 H2 fp2 q => ?_
        have far : ∀ a ∈ f2, a ∉ fp1 ++ f1 := fun a z y => nd.2.2 a y a z rfl
        have offA : Off W1 (fp1 ++ f1) := fun a z => by
          rcases List.mem_append.mp z with z | z
          · exact (p.rel.own a z).1
          · exact ((Own.app.mp own).1 a z).1
        have o2 := (Own.app.mp own).2
        refine bName_rep (pin := pin) jp q.rel (r2.ext q.ext offA far) ?_ (o2.ext q.ext far) e4 fun σ3 W3 H3 fp3 q3 => k σ3 W3 H3 fp3 ?_
        · rw [List.nodup_append]
          refine ⟨q.rel.nd, nd.2.1, fun a z b y e => ?_⟩
          subst e
          rcases q.sub a z with z | z
          · exact far a y z
          · exact (o2 a y).2 z
        · have s0 : ∀ a, a ∈ fp1 ++ (f1 ++ f2) → a ∈ fp ∨ H a = none := fun a z => p.sub a (by rw [List.append_nil]; exact z)
          have s1 : ∀ a ∈ fp1 ++ f1, a ∈ fp ∨ H a = none := fun a z => s0 a (by rw [← List.append_assoc]; exact List.mem_append_left _ z)
          have x1 := p.ext.trans q.ext s1
          have s2 : ∀ a ∈ fp2 ++ f2, a ∈ fp ∨ H a = none := fun a z => by
            rcases List.mem_append.mp z with z | z
            · exact (q.sub a z).elim (s1 a) fun y => .inr (p.ext.there a y)
            · exact s0 a (by simp [z])
          exact ⟨q3.rel, x1.trans q3.ext s2, fun a z => (q3.sub a z).elim (s2 a) fun y => .inr (x1.there a y), fun t ht => (q3.pin t ht).trans (q.pin t ht), q3.len.trans q.len⟩
  · cases e
end
end E
/-! EngO: in, chains, list(range(..)), written tuples -/
namespace E
open PySem L2 PySem.Spec PyProof.Rows

/-- == of data, where it can be reckoned -/
def eqP (a b : D) : Bool := match a.toPy, b.toPy with
  | some p, some q => PyData.eqv p q
  | _, _ => false
/-- an equal one is among ds -/
def memD (a : D) (ds : List D) : Bool := ds.any fun z => eqP z a
def inOk (a : D) (ds : List D) : Bool := match a.toPy, toPyL ds with
  | some p, some ps => shp p && PyData.plainAll ps
  | _, _ => false
/-- in: a list's or a tuple's items; a sign of a text -/
@[simp] def dIn (a : D) : D → Res D
  | .lst _ ds => Res.when (inOk a ds) (.ok (.bl (memD a ds)))
  | .tup ds => Res.when (inOk a ds) (.ok (.bl (memD a ds)))
  | .str z => match a with
    | .str c => match c.cps.toList with
      | [n] => .ok (.bl (decide (n ∈ z.cps.toList)))
      | _ => .fail
    | _ => .fail
  | .dic _ false dd => (Res.of (toKey a)).bind fun q => .ok (.bl (valD dd q).isSome)
  | _ => .fail
@[simp] def dNotIn (a : D) : D → Res D
  | .lst _ ds => Res.when (inOk a ds) (.ok (.bl (!memD a ds)))
  | .tup ds => Res.when (inOk a ds) (.ok (.bl (!memD a ds)))
  | .str z => match a with
    | .str c => match c.cps.toList with
      | [n] => .ok (.bl (!decide (n ∈ z.cps.toList)))
      | _ => .fail
    | _ => .fail
  | .dic _ false dd => (Res.of (toKey a)).bind fun q => .ok (.bl (!(valD dd q).isSome))
  | _ => .fail
theorem any_py {a : D} {p : PyData} (ha : a.toPy = some p) : ∀ {ds : List D} {ps : List PyData}, toPyL ds = some ps → (ps.any fun z => PyData.eqv z p) = ds.any fun z => eqP z a
  | [], ps, e => by cases e; rfl
  | d :: ds, ps, e => by
    unfold toPyL at e
    split at e
    · rename_i q qs e1 e2
      cases e
      rw [List.any_cons, List.any_cons, any_py ha e2]
      congr 1
      unfold eqP
      rw [e1, ha]
    · cases e
theorem inOk_eq {a : D} {ds : List D} (h : inOk a ds = true) : ∃ p ps, a.toPy = some p ∧ toPyL ds = some ps ∧ p.plain = true ∧ p.depth ≤ 64 ∧ PyData.plainAll ps = true := by
  unfold inOk at h
  split at h
  · rename_i p ps e1 e2
    rw [Bool.and_eq_true] at h
    exact ⟨p, ps, e1, e2, (shp_of h.1).1, (shp_of h.1).2, h.2⟩
  · cases h
section
variable {X : Cx}
/-- in, over data -/
def rInP (K : PySem.W.Frag) (neg : Bool) : R2 := fun x y H Q => ∃ d ds, Dp K H x d ∧ (Dp K H y (.list ds) ∨ Dp K H y (.tuple ds)) ∧ d.plain = true ∧ d.depth ≤ 64 ∧ PyData.plainAll ds = true ∧ Q (.bl (neg != (ds.any fun z => PyData.eqv z d))) H
theorem op_inP (hu : X.A.units + 65 < cLine) : OpR X (compareOp .In) (rInP X.K false) := by
  intro pins s σ H x y v u Q I rx ry h
  obtain ⟨d, ds, hd, he, sd, s2, se, q⟩ := h
  obtain ⟨as, r1⟩ := Dp.reads I d x v hd rx
  have q' : Q (.bl (ds.any fun z => PyData.eqv z d)) H := by simpa using q
  rcases he with he | he
  · obtain ⟨bs, r2⟩ := Dp.reads I (.list ds) y u he ry
    exact SeqAt.in_list_data r2 r1 se sd (by omega) ⟨.bl _, H, I, rfl, q'⟩
  · obtain ⟨bs, r2⟩ := Dp.reads I (.tuple ds) y u he ry
    exact SeqAt.in_tuple_data r2 r1 se sd (by omega) ⟨.bl _, H, I, rfl, q'⟩
theorem op_notInP (hu : X.A.units + 65 < cLine) : OpR X (compareOp .NotIn) (rInP X.K true) := by
  intro pins s σ H x y v u Q I rx ry h
  obtain ⟨d, ds, hd, he, sd, s2, se, q⟩ := h
  obtain ⟨as, r1⟩ := Dp.reads I d x v hd rx
  have q' : Q (.bl (!ds.any fun z => PyData.eqv z d)) H := by simpa using q
  rcases he with he | he
  · obtain ⟨bs, r2⟩ := Dp.reads I (.list ds) y u he ry
    exact SeqAt.notIn_list_data r2 r1 se sd (by omega) ⟨.bl _, H, I, rfl, q'⟩
  · obtain ⟨bs, r2⟩ := Dp.reads I (.tuple ds) y u he ry
    exact SeqAt.notIn_tuple_data r2 r1 se sd (by omega) ⟨.bl _, H, I, rfl, q'⟩
def rInD : R2 := fun x y H Q => ∃ a o, y = .ref a ∧ DGet H a x o ∧ Q (.bl o.isSome) H
def rNotInD : R2 := fun x y H Q => ∃ a o, y = .ref a ∧ DGet H a x o ∧ Q (.bl (!o.isSome)) H
theorem op_inD (hu : X.A.units + 65 < cLine) : OpR X (compareOp .In) rInD := by
  intro pins s σ H x y v u Q I rx ry h
  obtain ⟨a, o, rfl, g, q⟩ := h
  obtain rfl : u = Value.ref a := ry
  exact d_in (by omega) I g rx fun s3 I3 => ⟨.bl o.isSome, H, I3, rfl, q⟩
theorem op_notInD (hu : X.A.units + 65 < cLine) : OpR X (compareOp .NotIn) rNotInD := by
  intro pins s σ H x y v u Q I rx ry h
  obtain ⟨a, o, rfl, g, q⟩ := h
  obtain rfl : u = Value.ref a := ry
  exact d_notIn (by omega) I g rx fun s3 I3 => ⟨.bl (!o.isSome), H, I3, rfl, q⟩
theorem od_in (hu : X.A.units + 65 < cLine) : OpD X (compareOp .In) dIn := by
  refine ⟨_, OpR.or (op_inP hu) (OpR.or op_in_sign (op_inD hu)), fun W H x y d1 d2 f1 f2 d Q x0 a b e q => ?_⟩
  cases d2 with
  | lst o ds =>
    obtain ⟨h, e⟩ := Res.when_eq e
    cases e
    obtain ⟨p, ps, e1, e2, h1, h2, h3⟩ := inOk_eq h
    refine .inl ⟨p, ps, a.dp e1, .inl (b.dp (by rw [D.toPy, e2]; rfl)), h1, h2, h3, ?_⟩
    rw [any_py e1 e2]
    have e3 : (false != memD d1 ds) = memD d1 ds := by cases memD d1 ds <;> rfl
    show Q (.bl (false != memD d1 ds)) H
    rw [e3]
    exact q _ W H [] (New.sc x0 .bl)
  | tup ds =>
    obtain ⟨h, e⟩ := Res.when_eq e
    cases e
    obtain ⟨p, ps, e1, e2, h1, h2, h3⟩ := inOk_eq h
    refine .inl ⟨p, ps, a.dp e1, .inr (b.dp (by rw [D.toPy, e2]; rfl)), h1, h2, h3, ?_⟩
    rw [any_py e1 e2]
    have e3 : (false != memD d1 ds) = memD d1 ds := by cases memD d1 ds <;> rfl
    show Q (.bl (false != memD d1 ds)) H
    rw [e3]
    exact q _ W H [] (New.sc x0 .bl)
  | str z =>
    cases b
    cases d1 with
    | str c =>
      cases a
      unfold dIn at e
      dsimp only at e
      split at e
      · rename_i n en
        cases e
        have : c = ⟨#[n]⟩ := by
          cases c with
          | mk l => cases l with
            | mk l => simp at en; subst en; rfl
        subst this
        exact .inr (.inl ⟨n, z, rfl, rfl, q _ W H [] (New.sc x0 .bl)⟩)
      · cases e
    | _ => cases e
  | dic o t dd =>
    cases t with
    | true => cases e
    | false =>
      obtain ⟨k, e1, e⟩ := Res.bind_eq (show ((Res.of (toKey d1)).bind fun q => Res.ok (D.bl ((valD dd q).isSome))) = _ from e)
      cases e
      obtain ⟨p, rfl, g⟩ := dget_rep b a (Res.of_eq e1)
      rcases g with ⟨n, g⟩ | ⟨d', v, f', n, g, _⟩
      · rw [n] at q
        exact .inr (.inr ⟨p, none, rfl, g, q _ W H [] (New.sc x0 .bl)⟩)
      · rw [n] at q
        exact .inr (.inr ⟨p, some v, rfl, g, q _ W H [] (New.sc x0 .bl)⟩)
  | _ => cases e
theorem od_notin (hu : X.A.units + 65 < cLine) : OpD X (compareOp .NotIn) dNotIn := by
  refine ⟨_, OpR.or (op_notInP hu) (OpR.or op_notIn_sign (op_notInD hu)), fun W H x y d1 d2 f1 f2 d Q x0 a b e q => ?_⟩
  cases d2 with
  | lst o ds =>
    obtain ⟨h, e⟩ := Res.when_eq e
    cases e
    obtain ⟨p, ps, e1, e2, h1, h2, h3⟩ := inOk_eq h
    refine .inl ⟨p, ps, a.dp e1, .inl (b.dp (by rw [D.toPy, e2]; rfl)), h1, h2, h3, ?_⟩
    rw [any_py e1 e2]
    have e3 : (true != memD d1 ds) = !memD d1 ds := by cases memD d1 ds <;> rfl
    show Q (.bl (true != memD d1 ds)) H
    rw [e3]
    exact q _ W H [] (New.sc x0 .bl)
  | tup ds =>
    obtain ⟨h, e⟩ := Res.when_eq e
    cases e
    obtain ⟨p, ps, e1, e2, h1, h2, h3⟩ := inOk_eq h
    refine .inl ⟨p, ps, a.dp e1, .inr (b.dp (by rw [D.toPy, e2]; rfl)), h1, h2, h3, ?_⟩
    rw [any_py e1 e2]
    have e3 : (true != memD d1 ds) = !memD d1 ds := by cases memD d1 ds <;> rfl
    show Q (.bl (true != memD d1 ds)) H
    rw [e3]
    exact q _ W H [] (New.sc x0 .bl)
  | str z =>
    cases b
    cases d1 with
    | str c =>
      cases a
      unfold dNotIn at e
      dsimp only at e
      split at e
      · rename_i n en
        cases e
        have : c = ⟨#[n]⟩ := by
          cases c with
          | mk l => cases l with
            | mk l => simp at en; subst en; rfl
        subst this
        exact .inr (.inl ⟨n, z, rfl, rfl, q _ W H [] (New.sc x0 .bl)⟩)
      · cases e
    | _ => cases e
  | dic o t dd =>
    cases t with
    | true => cases e
    | false =>
      obtain ⟨k, e1, e⟩ := Res.bind_eq (show ((Res.of (toKey d1)).bind fun q => Res.ok (D.bl (!(valD dd q).isSome))) = _ from e)
      cases e
      obtain ⟨p, rfl, g⟩ := dget_rep b a (Res.of_eq e1)
      rcases g with ⟨n, g⟩ | ⟨d', v, f', n, g, _⟩
      · rw [n] at q
        exact .inr (.inr ⟨p, none, rfl, g, q _ W H [] (New.sc x0 .bl)⟩)
      · rw [n] at q
        exact .inr (.inr ⟨p, some v, rfl, g, q _ W H [] (New.sc x0 .bl)⟩)
  | _ => cases e
theorem room65 {k : Nat} {A : Around} (r : Room k A) : A.units + 65 < cLine := by have := r.un; omega
end
/-! ### chains: a < b < c, looked at -/
def mqChain (g g' : D → D → Res D) (qa qb qc : MQ D) : MQ D := fun m => (qa m).bind fun d1 => (qb m).bind fun d2 => (g d1 d2).bind fun r => r.isB.bind fun c => if c = true then (qc m).bind fun d3 => (g' d2 d3).bind fun d => Res.when d.pure (.ok d) else .ok (.bl false)
section
variable {X : Cx} {CT : Nat → Addr} {a b c : Expr} {pos p0 : Pos} {op op' : CmpOp} {g g' : D → D → Res D} {qa qb qc : MQ D} {ml : M (List Arg)}
theorem New.rel {K : PySem.W.Frag} {W W' : Wd} {H H' : Hp} {v : V} {d : D} {fd fp : List Addr} {σ : L2.St} {m : Mem} (n : New K W H v d W' H' fd) (r : Rel K CT W H σ m fp) : Rel K CT W' H' σ m fp :=
  r.ext n.ext off_nil (fun a _ z => by cases z) n.ι n.fix
theorem chain_tr {r r' : R2} (k : ∀ W H x y d1 d2 f1 f2 d Q, Fix W H → RepD X.K W H x d1 f1 → RepD X.K W H y d2 f2 → g d1 d2 = .ok d → (∀ v W' H' fd, New X.K W H v d W' H' fd → Q v H') → r x y H Q)
    (k' : ∀ W H x y d1 d2 f1 f2 d Q, Fix W H → RepD X.K W H x d1 f1 → RepD X.K W H y d2 f2 → g' d1 d2 = .ok d → (∀ v W' H' fd, New X.K W H v d W' H' fd → Q v H') → r' x y H Q) :
    ∀ σ H Q, tQ X.K CT (mqChain g g' qa qb qc) σ H Q → tChain r r' (tQ X.K CT qa) (tQ X.K CT qb) (tQ X.K CT qc) σ H Q := fun σ H Q ⟨W, m, fp, d, rel, e, q⟩ => by
  obtain ⟨d1, e1, e⟩ := Res.bind_eq e
  obtain ⟨d2, e2, e⟩ := Res.bind_eq e
  obtain ⟨d3, e3, e⟩ := Res.bind_eq e
  obtain ⟨cc, e4, e⟩ := Res.bind_eq e
  refine ⟨W, m, fp, d1, rel, e1, fun v1 W1 H1 fd1 P1 => ⟨W1, m, fp, d2, P1.rel, e2, fun v2 W2 H2 fd2 P2 => ?_⟩⟩
  have x12 : Ext W H W2 H2 [] := P1.ext.trans P2.ext fun a z => by cases z
  refine k W2 H2 v1 v2 d1 d2 fd1 fd2 d3 _ P2.rel.fix (P1.rep.ext P2.ext off_nil fun a _ z => by cases z) P2.rep e3 fun v W3 H3 fd n => ⟨cc, isB_rep n.rep e4, ?_⟩
  have x13 : Ext W H W3 H3 [] := x12.trans n.ext fun a z => by cases z
  cases cc with
  | false =>
    cases e
    refine iteF (q _ W3 H3 [] ⟨n.rel P2.rel, .bl, x13, fun a z => by cases z⟩)
  | true =>
    refine iteT ?_
    rw [if_pos rfl] at e
    obtain ⟨d4, e5, e⟩ := Res.bind_eq e
    obtain ⟨d5, e6, e⟩ := Res.bind_eq e
    obtain ⟨pd, e⟩ := Res.when_eq e
    cases e
    refine ⟨W3, m, fp, d4, n.rel P2.rel, e5, fun v4 W4 H4 fd4 P4 => ?_⟩
    have r2 := (P2.rep.ext n.ext off_nil fun a _ z => by cases z).ext P4.ext off_nil fun a _ z => by cases z
    exact k' W4 H4 v2 v4 d2 d4 fd2 fd4 d _ P4.rel.fix r2 P4.rep e6 fun v W' H' fd n' => q v W' H' [] (n'.postQ pd P4.rel (x13.trans P4.ext fun a z => by cases z))
theorem meq_chain (o : OpD X (compareOp op) g) (o' : OpD X (compareOp op') g') (ha : MEQ X CT a qa) (hb : MEQ X CT b qb) (hc : MEQ X CT c qc) (hm : lastMarks [op, op'] [b, c] = false := by with_unfolding_all rfl) : MEQ X CT (.Compare a [op, op'] [b, c] pos) (mqChain g g' qa qb qc) := by
  obtain ⟨r, h, k⟩ := o
  obtain ⟨r', h', k'⟩ := o'
  exact pe_weak (pe_chain h h' ha hb hc hm) (chain_tr k k')
theorem mt_chain (o : OpD X (compareOp op) g) (o' : OpD X (compareOp op') g') (ha : MEQ X CT a qa) (hb : MEQ X CT b qb) (hc : MEQ X CT c qc) (hm : lastMarks [op, op'] [b, c] = false := by with_unfolding_all rfl) : MT X CT (.Compare a [op, op'] [b, c] pos) (mtB (mP (mqChain g g' qa qb qc))) := by
  obtain ⟨r, h, k⟩ := o
  obtain ⟨r', h', k'⟩ := o'
  refine pt_weak (pt_chain h h' ha hb hc hm) fun σ H Q ⟨W, m, fp, cc, m', rel, e, q⟩ => ?_
  obtain ⟨⟨d, m1⟩, e1, e⟩ := Res.bind_eq e
  obtain ⟨c', e2, e⟩ := Res.bind_eq e
  cases e
  obtain ⟨d', e3, e1⟩ := Res.bind_eq e1
  obtain ⟨pd, e1⟩ := Res.when_eq e1
  cases e1
  refine chain_tr k k' σ H _ ⟨W, m, fp, d, rel, e3, fun v W' H' fd p => ⟨cc, isB_rep p.rep e2, q W' H' fp ⟨p.rel, p.ext.sub (fun a z => by cases z), fun a z => .inl z⟩⟩⟩

/-! ### list(range(..)) -/
noncomputable def mLstRg (me : M D) : M D := fun m => (me m).bind fun r => match r.1 with
  | .int j => Res.when (cdec (0 ≤ j ∧ j ≤ 16777216)) (.ok (.lst true (rangeD 0 j.toNat), r.2))
  | _ => .fail
theorem rep_rg {K : PySem.W.Frag} {W : Wd} {H : Hp} (lo : Int) : ∀ (ks : List Nat), RepL K W H (ks.map fun i => V.int (lo + (i : Nat))) (ks.map fun (k : Nat) => D.int (lo + (k : Int))) []
  | [] => .nil
  | k :: ks => RepL.cons (f := []) .int (rep_rg lo ks)
theorem me_lstRg {p1 : Pos} {me : M D} (hc : X.calm = true) (hg : Gl X "list") (hm : X.mg "list" = none) (hg' : Gl X "range") (hm' : X.mg "range" = none) (h : MEB X CT a me) (na : starEach [a] X.env = (false, eval a X.env) :: starEach [] X.env := by rfl)
    (na' : starEach [.Call (.Name "range" p1) [a] [] pos] X.env = (false, eval (.Call (.Name "range" p1) [a] [] pos) X.env) :: starEach [] X.env := by rfl) : ME X CT (.Call (.Name "list" p0) [.Call (.Name "range" p1) [a] [] pos] [] pos') (mLstRg me) :=
  pe_weak (pe_listRg hc hg hm (prg_1 hg' hm' h na) na') fun σ H Q ⟨W, m, fp, d, m', rel, e, q⟩ => by
    obtain ⟨⟨d1, m1⟩, e1, e⟩ := Res.bind_eq e
    refine ⟨W, m, fp, d1, m1, rel, e1, fun v W1 H1 fp1 fd P => ?_⟩
    have rp := P.rep
    dsimp only at e
    split at e
    · rename_i j
      obtain ⟨hj, e⟩ := Res.when_eq e
      cases e
      have hj := of_cdec hj
      cases rp
      refine ⟨j, rfl, RgOk.of_le (by omega) hj.2 (by omega) hj.1, fun p hp => ?_⟩
      have n := New.lst (p := p) P.rel.fix hp (rep_rg (K := X.K) (W := W1) (H := H1) 0 (List.range (j - 0).toNat))
      rw [show (j - 0).toNat = j.toNat by omega] at n
      have e2 : rgV 0 j = (List.range j.toNat).map fun i => V.int (0 + (i : Nat)) := by unfold rgV; rw [show (j - 0).toNat = j.toNat by omega]
      rw [e2]
      exact q _ _ _ _ _ (n.post P.rel P.ext P.sub)
    · cases e
end
/-! ### tuples that the top has written -/
theorem KD.tupI {K : PySem.W.Frag} {a : Addr} {vs : List V} {ds : List D} (h : KT K a vs) (l : ∀ W H, RepL K W H vs ds []) : ∃ v, RelV v (.ref a) ∧ ∀ W H, RepD K W H v (.tup ds) [] :=
  ⟨.ref a, rfl, fun W H => .tup (.inr h) (l W H)⟩
theorem meq_globT {X : Cx} {CT : Nat → Addr} {pos : Pos} {x : Str} {d : D} {u : Value} (hg : Gl X x) (hm : X.mg x = some u) (h : ∃ v, RelV v u ∧ ∀ W H, RepD X.K W H v d []) (hd : (x == ("__debug__" : Str)) = false := by decide) : MEQ X CT (.Name x pos) (mqC d) := by
  obtain ⟨v, r, rp⟩ := h
  exact meq_c (pe_glob hg hm r hd) rp
end E
/-! EngR: objects -/
namespace E
open PySem L2 PySem.Spec PyProof.Rows

theorem strInj {a b : String} (h : Str.ofString a = Str.ofString b) : a = b := by
  rw [Str.ofString_eq_toList, Str.ofString_eq_toList] at h
  have h1 : (a.toList.map Char.toNat).toArray = (b.toList.map Char.toNat).toArray := congrArg Str.cps h
  have h2 : a.toList.map Char.toNat = b.toList.map Char.toNat := by simpa using h1
  have h3 : a.toList = b.toList := (List.map_inj_right fun x y e => Char.toNat_inj.mp e).mp h2
  exact String.toList_inj.mp h3
def setF (f : String) (d : D) : List (String × D) → List (String × D)
  | [] => [(f, d)]
  | (g, x) :: r => if g = f then (g, d) :: r else (g, x) :: setF f d r
def lookF (f : String) : List (String × D) → Option D
  | [] => none
  | (g, x) :: r => if g = f then some x else lookF f r
section
variable {K : PySem.W.Frag} {CT : Nat → Addr} {W W' : Wd} {H H' : Hp} {σ : L2.St} {m : Mem} {fp fd : List Addr}
theorem look_rep {f : String} : ∀ {fs : List (String × D)} {fvs : List (Str × V)} {g : List Addr}, fvs.map (·.1) = fs.map (fun p => Str.ofString p.1) → RepL K W H (fvs.map (·.2)) (fs.map (·.2)) g →
    (∀ d, lookF f fs = some d → ∃ v h, fvs.lookup (Str.ofString f) = some v ∧ RepD K W H v d h ∧ ∀ a ∈ h, a ∈ g) ∧ (lookF f fs = none → fvs.lookup (Str.ofString f) = none)
  | [], [], g, _, _ => ⟨(fun d e => by cases e), fun _ => rfl⟩
  | [], _ :: _, g, e, _ => by cases e
  | _ :: _, [], g, e, _ => by cases e
  | (k, x) :: fs, (k', v) :: fvs, g, e, l => by
    rw [List.map_cons, List.map_cons] at e l
    injection e with e1 e2
    cases l with
    | @cons _ _ h1 _ _ g1 r l =>
      obtain ⟨i1, i2⟩ := look_rep (f := f) e2 l
      have e1 : k' = Str.ofString k := e1
      subst e1
      unfold lookF
      by_cases hk : k = f
      · subst hk
        rw [if_pos rfl]
        refine ⟨fun d z => ?_, fun z => by cases z⟩
        cases z
        exact ⟨v, h1, by simp [List.lookup], r, fun a z => List.mem_append_left _ z⟩
      · rw [if_neg hk]
        have hb : (Str.ofString f == Str.ofString k) = false := beq_eq_false_iff_ne.mpr fun z => hk (strInj z).symm
        refine ⟨fun d z => ?_, fun z => ?_⟩
        · obtain ⟨v', h, q1, q2, q3⟩ := i1 d z
          exact ⟨v', h, by simp only [List.lookup, hb]; exact q1, q2, fun a z => List.mem_append_right _ (q3 a z)⟩
        · simp only [List.lookup, hb]
          exact i2 z
theorem put_rep {f : String} {v : V} {d : D} {h : List Addr} (r : RepD K W H v d h) : ∀ {fs : List (String × D)} {fvs : List (Str × V)} {g : List Addr}, fvs.map (·.1) = fs.map (fun p => Str.ofString p.1) → RepL K W H (fvs.map (·.2)) (fs.map (·.2)) g →
    ∃ g' rest, (putF (Str.ofString f) v fvs).map (·.1) = (setF f d fs).map (fun p => Str.ofString p.1) ∧ RepL K W H ((putF (Str.ofString f) v fvs).map (·.2)) ((setF f d fs).map (·.2)) g' ∧ (g' ++ rest).Perm (g ++ h)
  | [], [], g, _, l => by
    cases l
    exact ⟨h ++ [], [], rfl, .cons r .nil, by simp⟩
  | [], _ :: _, g, e, _ => by cases e
  | _ :: _, [], g, e, _ => by cases e
  | (k, x) :: fs, (k', u) :: fvs, g, e, l => by
    rw [List.map_cons, List.map_cons] at e l
    injection e with e1 e2
    have e1 : k' = Str.ofString k := e1
    subst e1
    cases l with
    | @cons _ _ h1 _ _ g1 r1 l =>
      unfold setF L2.putF
      by_cases hk : k = f
      · subst hk
        rw [if_pos rfl, if_pos rfl]
        refine ⟨h ++ g1, h1, by rw [List.map_cons, List.map_cons, e2], .cons r l, ?_⟩
        rw [List.perm_iff_count]; intro a; simp only [List.count_append]; omega
      · rw [if_neg hk, if_neg (fun z => hk (strInj z))]
        obtain ⟨g', rest, q1, q2, q3⟩ := put_rep (f := f) r e2 l
        refine ⟨h1 ++ g', rest, by rw [List.map_cons, List.map_cons, q1], .cons r1 q2, ?_⟩
        rw [List.append_assoc, List.append_assoc]
        exact List.Perm.append_left h1 q3
theorem RepH.at {ι : List Addr} {hs : List Ob} {g : List Addr} (h : RepH K CT W H ι hs g) : ∀ {n : Nat} {ob : Ob}, hs[n]? = some ob → ob.cls ≠ BOXC →
    ∃ a dx fvs A f B, g = A ++ (a :: f) ++ B ∧ ι[n]? = some a ∧ H a = some (.ins (CT ob.cls) dx fvs) ∧ fvs.map (·.1) = ob.fs.map (fun p => Str.ofString p.1) ∧ RepL K W H (fvs.map (·.2)) (ob.fs.map (·.2)) f ∧
      ∀ {W' : Wd} {H' : Hp} {fq : List Addr} {fvs' fs' f'}, Ext W H W' H' fq → Off W fq → (∀ b ∈ A ++ B, b ∉ fq) → H' a = some (.ins (CT ob.cls) dx fvs') → fvs'.map (·.1) = fs'.map (fun p => Str.ofString p.1) → RepL K W' H' (fvs'.map (·.2)) (fs'.map (·.2)) f' →
        RepH K CT W' H' ι (hs.set n ⟨ob.cls, fs'⟩) (A ++ (a :: f') ++ B) := by
  induction h with
  | nil => intro n ob e; simp at e
  | @box a d f ι hs g h1 h4 ih =>
    intro n ob e hb
    cases n with
    | zero =>
      obtain rfl : (⟨BOXC, [("", d)]⟩ : Ob) = ob := by simpa using e
      exact absurd rfl hb
    | succ n =>
      obtain ⟨a', dx', fvs', A, f', B, e1, e2, e3, e4, e5, k⟩ := ih (by simpa using e) hb
      refine ⟨a', dx', fvs', (a :: f) ++ A, f', B, by rw [e1]; simp, by simpa using e2, e3, e4, e5, fun x o nn q1 q2 q3 => ?_⟩
      have hn : ∀ b ∈ a :: f, b ∉ _ := fun b z => nn b (by simp only [List.mem_append]; exact .inl (.inl z))
      have := RepH.box (h1.ext x o hn) (k x o (fun b z => nn b (by
        rcases List.mem_append.mp z with z | z
        · simp [z]
        · simp [z])) q1 q2 q3)
      simpa using this
  | @cons a c dx fvs fs f ι hs g h0 h1 h2 h3 h4 ih =>
    intro n ob e hb
    cases n with
    | zero =>
      obtain rfl : (⟨c, fs⟩ : Ob) = ob := by simpa using e
      refine ⟨a, dx, fvs, [], f, g, rfl, rfl, h1, h2, h3, fun x o nn q1 q2 q3 => ?_⟩
      exact .cons h0 q1 q2 q3 (h4.ext x o fun b z => nn b (by simpa using z))
    | succ n =>
      obtain ⟨a', dx', fvs', A, f', B, e1, e2, e3, e4, e5, k⟩ := ih (by simpa using e) hb
      refine ⟨a', dx', fvs', (a :: f) ++ A, f', B, by rw [e1]; simp, by simpa using e2, e3, e4, e5, fun x o nn q1 q2 q3 => ?_⟩
      have hn : ∀ b ∈ a :: f, b ∉ _ := fun b z => nn b (by simp only [List.mem_append]; exact .inl (.inl z))
      have := RepH.cons h0 (x.keep a _ h1 (hn a (List.mem_cons_self ..))) h2 (h3.ext x o fun b z => hn b (List.mem_cons_of_mem _ z)) (k x o (fun b z => nn b (by
        rcases List.mem_append.mp z with z | z
        · simp [z]
        · simp [z])) q1 q2 q3)
      simpa using this
theorem RepH.snoc {ι : List Addr} {hs : List Ob} {g : List Addr} (h : RepH K CT W H ι hs g) {x dx : Addr} {c : Nat} (hc : c ≠ BOXC) (hx : H x = some (.ins (CT c) dx [])) : RepH K CT W H (ι ++ [x]) (hs ++ [⟨c, []⟩]) (g ++ [x]) := by
  induction h with
  | nil => exact RepH.cons (f := []) (g := []) hc hx rfl .nil .nil
  | box h1 _ ih =>
    have := RepH.box h1 ih
    simpa using this
  | cons h0 h1 h2 h3 _ ih =>
    have := RepH.cons h0 h1 h2 h3 ih
    simpa using this
theorem RepH.len {ι : List Addr} {hs : List Ob} {g : List Addr} (h : RepH K CT W H ι hs g) : ι.length = hs.length := by
  induction h with
  | nil => rfl
  | box _ _ ih => simp [ih]
  | cons _ _ _ _ _ ih => simp [ih]
end

/-! ### e.f -/
def mqAttr (cs : List Nat) (f : String) (q : MQ D) : MQ D := fun m => (q m).bind fun d => match d with
  | .loc n => match m.hs[n]? with
    | some ob => Res.when (cs.contains ob.cls) (Res.of (lookF f ob.fs))
    | none => .fail
  | _ => .fail
/-- what the text must have of the classes cs for the attribute f -/
def Attr (K : PySem.W.Frag) (CT : Nat → Addr) (cs : List Nat) (f : String) : Prop := ∀ c ∈ cs, c ≠ BOXC ∧ Cls K (CT c) ∧ NoAttr K (CT c) (Str.ofString f)
def sSetA (cs : List Nat) (f : String) (e : M D) (q : MQ D) : MS := fun m => (e m).bind fun r => (q r.2).bind fun d => match d with
  | .loc n => match r.2.hs[n]? with
    | some ob => Res.when (cs.contains ob.cls && decide (ob.fs.length < 1000)) (.ok (.nx, ⟨r.2.env, r.2.hs.set n ⟨ob.cls, setF f r.1 ob.fs⟩⟩))
    | none => .fail
  | _ => .fail
section
variable {X : Cx} {CT : Nat → Addr} {pin : List Nat} {e o : Expr} {es : List Expr} {pos pos' : Pos} {qa : MQ D} {me : M D} {cs : List Nat} {f : String} {ml : M (List Arg)} {wx : XK}
theorem meq_attr (h : MEQ X CT e qa) (A : Attr X.K CT cs f) (hb : attributeBase e (Str.ofString f) X.env (eval e X.env) = eval e X.env := by rfl) : MEQ X CT (.Attribute e (Str.ofString f) pos) (mqAttr cs f qa) :=
  pe_weak (pe_fld h hb) fun σ H Q ⟨W, m, fp, d, rel, e, q⟩ => by
    obtain ⟨d1, e1, e⟩ := Res.bind_eq e
    refine ⟨W, m, fp, d1, rel, e1, fun v W1 H1 fd p => ?_⟩
    have rp := p.rep
    split at e
    · split at e
      · rename_i n ob eo
        obtain ⟨hc, e⟩ := Res.when_eq e
        have e := Res.of_eq e
        obtain ⟨s, g, rfl, h1, h2⟩ := p.rel.s
        obtain ⟨c0, c1, c2⟩ := A ob.cls (by simpa using hc)
        obtain ⟨a, dx, fvs, AA, ff, BB, rfl, ei, eh, en, l, _⟩ := h2.at eo c0
        obtain ⟨v', hh, q1, q2, q3⟩ := (look_rep (f := f) en l).1 d e
        cases rp with
        | loc ei' =>
          rw [ei] at ei'
          cases ei'
          exact ⟨a, _, dx, fvs, v', rfl, eh, c1, c2, q1, q v' W1 H1 hh ⟨p.rel, q2, p.ext, fun b z => by simp [q3 b z]⟩⟩
      · cases e
    · cases e
theorem mst_setA (hv : ME X CT e me) (h : MEQ X CT o qa) (A : Attr X.K CT cs f) (hs : swapsWith e (some (.Attribute o (Str.ofString f) pos')) pos.line X.env = pure false := by rfl) : MSt X CT pin (.Assign [.Attribute o (Str.ofString f) pos'] e pos) (sSetA cs f me qa) :=
  ps_weak (ps_fld h hv hs) fun D σ H ⟨W, m, fp, fl, m', rel, e, k⟩ => by
    obtain ⟨⟨dv, m1⟩, e1, e⟩ := Res.bind_eq e
    obtain ⟨d1, e2, e⟩ := Res.bind_eq e
    refine ⟨W, m, fp, dv, m1, rel, e1, fun y W1 H1 fp1 fd p => ⟨W1, m1, fp1, d1, p.rel, e2, fun v W2 H2 fd2 p2 => ?_⟩⟩
    have rp := p2.rep
    split at e
    · split at e
      · rename_i n ob eo
        obtain ⟨hc, e⟩ := Res.when_eq e
        cases e
        rw [Bool.and_eq_true] at hc
        have ry := p.rep.ext p2.ext off_nil fun a _ z => by cases z
        have own := p.own.ext p2.ext fun a _ z => by cases z
        obtain ⟨s, g, rfl, h1, h2⟩ := p2.rel.s
        obtain ⟨c0, c1, c2⟩ := A ob.cls (by simpa using hc.1)
        obtain ⟨a, dx, fvs, AA, ff, BB, rfl, ei, eh, en, l, kk⟩ := h2.at eo c0
        cases rp with
        | loc ei' =>
          rw [ei] at ei'
          cases ei'
          have hlen : fvs.length < 1000 := by
            have := congrArg List.length en
            simp at this
            have h3 := of_decide_eq_true hc.2
            omega
          refine ⟨a, _, dx, fvs, rfl, eh, c1, c2, hlen, ?_⟩
          obtain ⟨g', rest, q1, q2, pm⟩ := put_rep (f := f) ry en l
          have x : Ext W2 H2 W2 (upd H2 a (.ins (CT ob.cls) dx (putF (Str.ofString f) y fvs))) [a] := ⟨fun _ h => h, fun _ _ h => h, fun b o h n => by rw [upd_ne (fun z => n (by simp [z]))]; exact h, fun _ h => .inl h, fun b h => by
            by_cases e : b = a
            · subst e; rw [upd_same] at h; cases h
            · rw [upd_ne e] at h; exact h⟩
          have nd := p.nd
          have pmT : ((s ++ (AA ++ (a :: g') ++ BB)) ++ rest).Perm ((s ++ (AA ++ (a :: ff) ++ BB)) ++ fd) := by
            rw [List.perm_iff_count]; intro b
            have := pm.count_eq b
            simp only [List.count_append, List.count_cons] at this ⊢; omega
          have ndT := pmT.nodup_iff.mpr nd
          rw [List.nodup_append] at ndT
          have once : ∀ b, b ∈ s ∨ b ∈ AA ∨ b ∈ BB ∨ b ∈ g' → b ∉ [a] := fun b z y => by
            have y := List.mem_singleton.mp y
            subst y
            have c1 := List.nodup_iff_count.mp ndT.1 b
            simp only [List.count_append, List.count_cons_self] at c1
            rcases z with z | z | z | z <;> (have c2 := List.count_pos_iff.mpr z; omega)
          have ha : a ∈ s ++ (AA ++ (a :: ff) ++ BB) := by simp
          have off : Off W2 [a] := fun b z => by rw [List.mem_singleton.mp z]; exact (p2.rel.own a ha).1
          have mem : ∀ b ∈ s ++ (AA ++ (a :: g') ++ BB), b ∈ (s ++ (AA ++ (a :: ff) ++ BB)) ++ fd := fun b z => pmT.mem_iff.mp (List.mem_append_left _ z)
          have x2 : Ext W H W2 H2 _ := p.ext.trans p2.ext fun a z => by cases z
          refine k σ W2 _ (s ++ (AA ++ (a :: g') ++ BB)) ⟨⟨⟨s, _, rfl, h1.ext x off fun b z => once b (.inl z), ?_⟩, ndT.1, fun b z => ?_, fix_upd p2.rel.fix⟩, x2.trans (x.sub (fq := s ++ (AA ++ (a :: ff) ++ BB)) fun b z => by rw [List.mem_singleton.mp z]; exact ha) fun b z => p.sub b (List.mem_append_left _ z), fun b z => p.sub b (mem b z), fun _ _ => rfl, rfl⟩
          · exact kk x off (fun b z => once b (by rcases List.mem_append.mp z with z | z; exact .inr (.inl z); exact .inr (.inr (.inl z)))) upd_same q1 (q2.ext x off fun b z => once b (.inr (.inr (.inr z))))
          · have ob : ¬ W2.F b ∧ H2 b ≠ none := by
              rcases List.mem_append.mp (mem b z) with y | y
              · exact p2.rel.own b y
              · exact own b y
            refine ⟨ob.1, ?_⟩
            by_cases e : b = a
            · subst e; rw [upd_same]; exact fun z => by cases z
            · rw [upd_ne e]; exact ob.2
      · cases e
    · cases e

/-! ### o.m(..) -/
def callTail (f : CallM) (dd : List D) (as : List Arg) (m : Mem) : Res (D × Mem) := (grab as m.env).bind fun q => (f (q.1 ++ dd) m.hs).bind fun o => .ok (o.1, ⟨giveBack q.2.1 o.2.1 q.2.2, o.2.2⟩)
def isOf (c : Nat) (mn : String) (m : Mem) : D → Bool
  | .loc n => match m.hs[n]? with
    | some ob => ob.cls == c && (lookF mn ob.fs).isNone
    | none => false
  | _ => false
def mMeth (c : Nat) (mn : String) (f : CallM) (dd : List D) (q : MQ D) (a : M (List Arg)) : M D := fun m => (q m).bind fun d => Res.when (isOf c mn m d) ((a m).bind fun r => callTail f dd (.val d :: r.1) r.2)
theorem isOf_rep {K : PySem.W.Frag} {W : Wd} {H : Hp} {σ : L2.St} {m : Mem} {fp : List Addr} {v : V} {d : D} {g : List Addr} {c : Nat} {mn : String} (rel : Rel K CT W H σ m fp) (r : RepD K W H v d g) (h : isOf c mn m d = true) (hne : c ≠ BOXC) :
    ∃ n a dx fs, d = .loc n ∧ v = .ref a ∧ g = [] ∧ W.ι[n]? = some a ∧ H a = some (.ins (CT c) dx fs) ∧ fs.lookup (Str.ofString mn) = none := by
  cases r with
  | @loc n a ei =>
    unfold isOf at h
    dsimp only at h
    split at h
    · rename_i ob eo
      rw [Bool.and_eq_true] at h
      obtain ⟨s, g, rfl, h1, h2⟩ := rel.s
      have hc : ob.cls = c := by simpa using h.1
      obtain ⟨a', dx, fvs, AA, ff, BB, rfl, ei', eh, en, l, _⟩ := h2.at eo (by rw [hc]; exact hne)
      rw [ei] at ei'
      cases ei'
      rw [hc] at eh
      exact ⟨n, a, dx, fvs, rfl, rfl, rfl, ei, eh, (look_rep (f := mn) en l).2 (by simpa using h.2)⟩
    · cases h
  | _ => cases h
variable {CX : CXT} {k n c : Nat} {fa : Addr} {fd : FuncData} {ps : List Str} {dvs : List V} {ds : List Value} {dd : List D} {mn : String} {p apos : Pos} {g : CallM}
theorem me_meth {pl : Sem Bool} (h : MEQ X CT o qa) (hc : Cls X.K (CT c)) (hm : Meth X.K (CT c) (Str.ofString mn) fa) (F : FnOk X.prog X.w X.K X.mg X.base CX k fa fd ps (spM X.K CT n g)) (hn : ∀ ds hs o, g ds hs = .ok o → ds.length = n) (hr : Room k X.A) (hb : Binds X.K fd ps ds) (hd : Vals dvs ds) (hdd : Consts X.K dvs dd) (hx : Passes CX X wx) (ha : MA X CT (e :: es) ml)
    (hst : starEach (e :: es) X.env = (false, eval e X.env) :: starEach es X.env := by rfl) (hpl : (backTo pos (starEach es X.env)).any (·.1) = false := by rfl)
    (ht : eval (.Call (.Attribute o (Str.ofString mn) apos) (e :: es) [] pos) X.env = (do
      let ov ← eval o X.env
      standAt apos.atName
      let (f, first) ← holding [ov] (getMethod ov (Str.ofString mn) pl)
      callWith pos f first (backTo pos (starEach (e :: es) X.env)) (backToKw pos (keywordEach [] X.env))) := by rfl) (hne : c ≠ BOXC := by decide) :
    ME X CT (.Call (.Attribute o (Str.ofString mn) apos) (e :: es) [] pos) (mMeth c mn g dd qa ml) :=
  pe_weak (pe_meth h hc hm F hr hb hd hx ha hst hpl ht) fun σ H Q ⟨W, m, fp, d, m', rel, e, q⟩ => by
    obtain ⟨d0, e0, e⟩ := Res.bind_eq e
    obtain ⟨hi, e⟩ := Res.when_eq e
    obtain ⟨⟨as, m1⟩, e1, e⟩ := Res.bind_eq e
    refine ⟨W, m, fp, d0, rel, e0, fun v W1 H1 fd0 p => ?_⟩
    obtain ⟨i, a, dx, fs, rfl, rfl, rfl, ei, eh, el⟩ := isOf_rep p.rel p.rep hi hne
    refine ⟨a, dx, fs, rfl, eh, el, W1, m, fp, as, m1, p.rel, e1, fun vs W2 H2 fp2 fa2 p2 => ?_⟩
    have x12 : Ext W H W2 H2 fp := (p.ext.sub (fq := fp) fun a z => by cases z).trans p2.ext fun a z => .inl z
    have := sp_call (vs := .ref a :: vs) (as := .val (.loc i) :: as) (Q := Q) (wx := wx) hdd hn (p := ⟨p2.rel, RepA.val (f := []) (.loc (p2.ext.im i a ei)) p2.rep, p2.nd, p2.own, x12, fun b z => (p2.sub b z).imp id (p.ext.there b)⟩) e q
    exact this
theorem me_meth0 {pl : Sem Bool} (h : MEQ X CT o qa) (hc : Cls X.K (CT c)) (hm : Meth X.K (CT c) (Str.ofString mn) fa) (F : FnOk X.prog X.w X.K X.mg X.base CX k fa fd ps (spM X.K CT n g)) (hn : ∀ ds hs o, g ds hs = .ok o → ds.length = n) (hr : Room k X.A) (hb : Binds X.K fd ps ds) (hd : Vals dvs ds) (hdd : Consts X.K dvs dd) (hx : Passes CX X wx)
    (ht : eval (.Call (.Attribute o (Str.ofString mn) apos) [] [] pos) X.env = (do
      let ov ← eval o X.env
      standAt apos.atName
      let (f, first) ← holding [ov] (getMethod ov (Str.ofString mn) pl)
      callWith pos f first (backTo pos (starEach [] X.env)) (backToKw pos (keywordEach [] X.env))) := by rfl) (hne : c ≠ BOXC := by decide) :
    ME X CT (.Call (.Attribute o (Str.ofString mn) apos) [] [] pos) (mMeth c mn g dd qa maNil) :=
  pe_weak (pe_meth0 h hc hm F hr hb hd hx ht) fun σ H Q ⟨W, m, fp, d, m', rel, e, q⟩ => by
    obtain ⟨d0, e0, e⟩ := Res.bind_eq e
    obtain ⟨hi, e⟩ := Res.when_eq e
    obtain ⟨⟨as, m1⟩, e1, e⟩ := Res.bind_eq e
    cases e1
    refine ⟨W, m, fp, d0, rel, e0, fun v W1 H1 fd0 p => ?_⟩
    obtain ⟨i, a, dx, fs, rfl, rfl, rfl, ei, eh, el⟩ := isOf_rep p.rel p.rep hi hne
    refine ⟨a, dx, fs, rfl, eh, el, ?_⟩
    have nd : (fp ++ ([] : List Addr)).Nodup := by rw [List.append_nil]; exact p.rel.nd
    exact sp_call (vs := [.ref a]) (as := [.val (.loc i)]) (Q := Q) (wx := wx) hdd hn (p := ⟨p.rel, RepA.val (f := []) (.loc ei) .nil, nd, Own.nil, p.ext.sub (fun a z => by cases z), fun b z => .inl (by simpa using z)⟩) e q
end
end E
/-! EngT: making objects -/
namespace E
open PySem L2 PySem.Spec PyProof.Rows
/-- C(..): the new object, then __init__ -/
def mMake (c : Nat) (f : CallM) (dd : List D) (a : M (List Arg)) : M D := fun m => (a m).bind fun r => (callTail f dd (.val (.loc r.2.hs.length) :: r.1) ⟨r.2.env, r.2.hs ++ [⟨c, []⟩]⟩).bind fun o => match o.1 with
  | .non => .ok (.loc r.2.hs.length, o.2)
  | _ => .fail
section
variable {X : Cx} {CT : Nat → Addr} {wx : XK} {σ : L2.St} {W W1 : Wd} {H H1 : Hp} {fp fp1 fa : List Addr} {vs : List V} {as : List Arg} {m1 m' : Mem} {d : D} {Q : VK} {f : CallM} {dd : List D} {dvs : List V} {n c : Nat}
theorem RepA.ext {W' : Wd} {H' : Hp} {fp' fq : List Addr} (e : Ext W H W' H' fq) (o : Off W fq) (s : ∀ a ∈ fp, a ∈ fp') (n2 : ∀ a ∈ fp, a ∉ fq) {g : List Addr} (h : RepA X.K W H σ fp vs as g) (n : ∀ a ∈ g, a ∉ fq) : RepA X.K W' H' σ fp' vs as g := by
  induction h with
  | nil => exact .nil
  | val r _ ih => exact .val (r.ext e o fun a m => n a (List.mem_append_left _ m)) (ih fun a m => n a (List.mem_append_right _ m))
  | nam q _ ih => exact .nam q (ih n)
  | bor r q _ ih => exact .bor (r.ext e o fun a m => n2 a (q a m)) (fun a m => s a (q a m)) (ih n)
theorem sp_make (hne : c ≠ BOXC) (hd : Consts X.K dvs dd) (hn : ∀ ds hs o, f ds hs = .ok o → ds.length = n) (p : PostA X.K CT W H σ fp vs as m1 W1 H1 fp1 fa)
    (e : ((callTail f dd (.val (.loc m1.hs.length) :: as) ⟨m1.env, m1.hs ++ [⟨c, []⟩]⟩).bind fun o => match o.1 with
      | .non => Res.ok (D.loc m1.hs.length, o.2)
      | _ => .fail) = .ok (d, m')) (q : ∀ v W' H' fp' fd, Post X.K CT W H σ fp v d m' W' H' fp' fd → Q v H') :
    ∀ x dx, H1 x = none → H1 dx = none → dx ≠ x → spM X.K CT n f (.ref x :: (vs ++ dvs)) (upd (upd H1 dx (.own x)) x (.ins (CT c) dx [])) (fun v H2 => v = .non ∧ Q (.ref x) H2) wx := by
  intro x dx hx hdx ne
  obtain ⟨⟨o, mo⟩, e1, e⟩ := Res.bind_eq e
  dsimp only at e
  split at e
  · cases e
    have hx2 : (upd H1 dx (.own x)) x = none := by rw [upd_ne (Ne.symm ne)]; exact hx
    have x1 : Ext W1 H1 W1 (upd (upd H1 dx (.own x)) x (.ins (CT c) dx [])) [] := (ext_upd hdx).trans (ext_upd hx2) fun a z => by cases z
    let W2 : Wd := ⟨W1.F, W1.ι ++ [x]⟩
    have x2 : Ext W1 H1 W2 (upd (upd H1 dx (.own x)) x (.ins (CT c) dx [])) [] := ⟨x1.fm, fun n a h => by
      show (W1.ι ++ [x])[n]? = some a
      rw [List.getElem?_append_left (List.getElem?_eq_some_iff.mp h).1]; exact h, x1.keep, x1.fnew, x1.there⟩
    have fx2 : Fix W2 (upd (upd H1 dx (.own x)) x (.ins (CT c) dx [])) := fix_upd (fix_upd p.rel.fix)
    obtain ⟨s, g, rfl, h1, h2⟩ := p.rel.s
    have notx : ∀ a ∈ (s ++ g) ++ fa, a ≠ x := fun a z y => by
      subst y
      rcases List.mem_append.mp z with z | z
      · exact (p.rel.own a z).2 hx
      · exact (p.own a z).2 hx
    have nd := p.nd
    have pm : ((s ++ (g ++ [x])) ++ fa).Perm (x :: ((s ++ g) ++ fa)) := by
      rw [List.perm_iff_count]; intro a; simp only [List.count_append, List.count_cons, List.count_nil]; omega
    have nd2 : ((s ++ (g ++ [x])) ++ fa).Nodup := pm.nodup_iff.mpr (List.nodup_cons.mpr ⟨fun z => notx x z rfl, nd⟩)
    have own2 : Own W2 (upd (upd H1 dx (.own x)) x (.ins (CT c) dx [])) ((s ++ (g ++ [x])) ++ fa) := fun a z => by
      rcases List.mem_cons.mp (pm.mem_iff.mp z) with y | y
      · subst y
        exact ⟨fun q => p.rel.fix a q hx, by rw [upd_same]; exact fun z => by cases z⟩
      · have : Own W1 H1 ((s ++ g) ++ fa) := Own.app.mpr ⟨p.rel.own, p.own⟩
        exact (this.ext x2 fun a _ z => by cases z) a y
    rw [List.nodup_append] at nd2
    have r2 : Rel X.K CT W2 (upd (upd H1 dx (.own x)) x (.ins (CT c) dx [])) σ ⟨m1.env, m1.hs ++ [⟨c, []⟩]⟩ (s ++ (g ++ [x])) :=
      ⟨⟨s, g ++ [x], rfl, h1.ext x2 off_nil fun a _ z => (by cases z), (h2.ext x2 off_nil fun a _ z => (by cases z)).snoc hne upd_same⟩, nd2.1, (Own.app.mp own2).1, fx2⟩
    have hi : W2.ι[m1.hs.length]? = some x := by
      show (W1.ι ++ [x])[m1.hs.length]? = some x
      rw [← h2.len]; simp
    have ra : RepA X.K W2 (upd (upd H1 dx (.own x)) x (.ins (CT c) dx [])) σ (s ++ (g ++ [x])) (.ref x :: vs) (.val (.loc m1.hs.length) :: as) ([] ++ fa) :=
      RepA.val (f := []) (.loc hi) (RepA.ext x2 off_nil (fun a z => by
        rcases List.mem_append.mp z with z | z
        · simp [z]
        · simp [z]) (fun a _ z => by cases z) p.rep fun a _ z => by cases z)
    let fb := (s ++ (g ++ [x])) ++ fa
    have sb : ∀ a ∈ fb, a ∈ fp ∨ H a = none := fun a z => by
      rcases List.mem_cons.mp (pm.mem_iff.mp z) with y | y
      · subst y; exact .inr (p.ext.there a hx)
      · exact p.sub a y
    have pa : PostA X.K CT W2 (upd (upd H1 dx (.own x)) x (.ins (CT c) dx [])) σ fb (.ref x :: vs) (.val (.loc m1.hs.length) :: as) ⟨m1.env, m1.hs ++ [⟨c, []⟩]⟩ W2 (upd (upd H1 dx (.own x)) x (.ins (CT c) dx [])) (s ++ (g ++ [x])) ([] ++ fa) :=
      ⟨r2, ra, List.nodup_append.mpr nd2, (Own.app.mp own2).2, Ext.refl _ _ _, fun a z => .inl z⟩
    have xw : Ext W H W2 (upd (upd H1 dx (.own x)) x (.ins (CT c) dx [])) fp := p.ext.trans x2 fun a z => by cases z
    refine sp_call (d := .non) (m' := m') (Q := fun v H2 => v = .non ∧ Q (.ref x) H2) hd hn pa e1 fun v W' H' fp' fd po => ?_
    have rv := po.rep
    cases rv
    exact ⟨rfl, q _ W' H' fp' [] ⟨po.rel, .loc (po.ext.im _ _ hi), po.nd, po.own, xw.trans po.ext sb, fun a z => (po.sub a z).elim (sb a) fun y => .inr (xw.there a y)⟩⟩
  · cases e
variable {CX : CXT} {k : Nat} {fa' : Addr} {fd' : FuncData} {ps : List Str} {ds : List Value} {x : Str} {p pos : Pos} {e : Expr} {es : List Expr} {ml : M (List Arg)}
theorem me_make (M : Mk X.K (CT c) fa') (F : FnOk X.prog X.w X.K X.mg X.base CX k fa' fd' ps (spM X.K CT n f)) (hn : ∀ ds hs o, f ds hs = .ok o → ds.length = n) (hr : Room (k + 1) X.A) (hg : Gl X x) (hm : X.mg x = some (.ref (CT c))) (hb : Binds X.K fd' ps ds) (hd : Vals dvs ds) (hdd : Consts X.K dvs dd) (hx : Passes CX X wx)
    (ha : MA X CT (e :: es) ml) (hdb : (x == ("__debug__" : Str)) = false := by decide) (he : starEach (e :: es) X.env = (false, eval e X.env) :: starEach es X.env := by rfl) (hpl : (backTo pos (starEach es X.env)).any (·.1) = false := by rfl) (hne : c ≠ BOXC := by decide) :
    ME X CT (.Call (.Name x p) (e :: es) [] pos) (mMake c f dd ml) := pe_weak (pe_make M F hr hg hm hb hd hx ha hdb he hpl) fun σ H Q ⟨W, m, fp, d, m', rel, e, q⟩ => by
  obtain ⟨⟨as, m1⟩, e1, e⟩ := Res.bind_eq e
  exact ⟨W, m, fp, as, m1, rel, e1, fun vs W1 H1 fp1 fa pa => sp_make hne hdd hn pa e q⟩
theorem me_make0 (M : Mk X.K (CT c) fa') (F : FnOk X.prog X.w X.K X.mg X.base CX k fa' fd' ps (spM X.K CT n f)) (hn : ∀ ds hs o, f ds hs = .ok o → ds.length = n) (hr : Room (k + 1) X.A) (hg : Gl X x) (hm : X.mg x = some (.ref (CT c))) (hb : Binds X.K fd' ps ds) (hd : Vals dvs ds) (hdd : Consts X.K dvs dd) (hx : Passes CX X wx)
    (hdb : (x == ("__debug__" : Str)) = false := by decide) (hne : c ≠ BOXC := by decide) :
    ME X CT (.Call (.Name x p) [] [] pos) (mMake c f dd maNil) := pe_weak (pe_make0 M F hr hg hm hb hd hx hdb) fun σ H Q ⟨W, m, fp, d, m', rel, e, q⟩ => by
  obtain ⟨⟨as, m1⟩, e1, e⟩ := Res.bind_eq e
  cases e1
  have nd : (fp ++ ([] : List Addr)).Nodup := by rw [List.append_nil]; exact rel.nd
  exact sp_make (as := []) (vs := []) (fp1 := fp) (fa := []) (m1 := m) hne hdd hn ⟨rel, .nil, nd, Own.nil, Ext.refl _ _ _, fun a z => .inl (by simpa using z)⟩ e q
end
end E
/-! EngU: tuples of ints in their order -/
namespace E
open PySem L2 PySem.Spec PyProof.Rows
/-- from the first pair that differs on -/
def lexB (r : Int → Int → Bool) (z : Nat → Nat → Bool) : List Int → List Int → Bool
  | x :: xs, y :: ys => if x = y then lexB r z xs ys else r x y
  | xs, ys => z xs.length ys.length
theorem lexAt_B (r : Int → Int → Bool) (z : Nat → Nat → Bool) (hz : ∀ a b, z (a + 1) (b + 1) = z a b) : ∀ (k : Nat) (ns ms : List Int) (i : Nat), i ≤ ns.length → i ≤ ms.length → k = min (ns.length - i) (ms.length - i) →
    Ob.lexAt (fun j => decide (ns.getD j 0 = ms.getD j 0)) (fun j => r (ns.getD j 0) (ms.getD j 0)) (z ns.length ms.length) i k = lexB r z (ns.drop i) (ms.drop i) := by
  have hzi : ∀ i a b, z (a + i) (b + i) = z a b := by
    intro i
    induction i with
    | zero => intro a b; rfl
    | succ i ih => intro a b; rw [← Nat.add_assoc, ← Nat.add_assoc, hz, ih]
  intro k
  induction k with
  | zero =>
    intro ns ms i h1 h2 hk
    rw [Ob.lexAt_zero]
    have h3 : (ns.drop i).length = ns.length - i := List.length_drop
    have h4 : (ms.drop i).length = ms.length - i := List.length_drop
    have e : z ns.length ms.length = z (ns.drop i).length (ms.drop i).length := by
      rw [h3, h4, ← hzi i (ns.length - i) (ms.length - i), Nat.sub_add_cancel h1, Nat.sub_add_cancel h2]
    rw [e]
    cases hn : ns.drop i with
    | nil => unfold lexB; rfl
    | cons x xs =>
      cases hm : ms.drop i with
      | nil => unfold lexB; rfl
      | cons y ys => rw [hn] at h3; rw [hm] at h4; simp at h3 h4; omega
  | succ k ih =>
    intro ns ms i h1 h2 hk
    have l1 : i < ns.length := by omega
    have l2 : i < ms.length := by omega
    rw [Ob.lexAt_succ, ih ns ms (i + 1) (by omega) (by omega) (by omega), List.drop_eq_getElem_cons l1, List.drop_eq_getElem_cons l2]
    have g1 : ns.getD i 0 = ns[i] := by simp [List.getD_eq_getElem?_getD, l1]
    have g2 : ms.getD i 0 = ms[i] := by simp [List.getD_eq_getElem?_getD, l2]
    rw [g1, g2]
    show (if _ then _ else _) = (if ns[i] = ms[i] then lexB r z (ns.drop (i + 1)) (ms.drop (i + 1)) else r ns[i] ms[i])
    by_cases e : ns[i] = ms[i]
    · rw [if_pos (decide_eq_true e), if_pos e]
    · rw [if_neg (by rw [decide_eq_false e]; simp), if_neg e]
def ltI (x y : Int) : Bool := decide (x < y)
def leI (x y : Int) : Bool := decide (x ≤ y)
def gtI (x y : Int) : Bool := decide (y < x)
def geI (x y : Int) : Bool := decide (y ≤ x)
def tupLt (a b : List Int) : Bool := lexB ltI (fun n m => decide (n < m)) a b
def tupLe (a b : List Int) : Bool := lexB leI (fun n m => decide (n ≤ m)) a b
def tupGt (a b : List Int) : Bool := lexB gtI (fun n m => decide (n > m)) a b
def tupGe (a b : List Int) : Bool := lexB geI (fun n m => decide (n ≥ m)) a b
@[simp] def dLtT : D → D → Res D
  | .int i, .int j => .ok (.bl (decide (i < j)))
  | .str i, .str j => .ok (.bl (decide (i.cps.toList < j.cps.toList)))
  | .tup xs, .tup ys => match toInts xs, toInts ys with
    | some ns, some ms => .ok (.bl (tupLt ns ms))
    | _, _ => .fail
  | _, _ => .fail
def rLtTT (K : PySem.W.Frag) : R2 := fun x y H Q => ∃ (a b : Addr) (ns ms : List Int), x = .ref a ∧ y = .ref b ∧ SqT K H a (ns.map V.int) ∧ SqT K H b (ms.map V.int) ∧ Q (.bl (tupLt ns ms)) H
theorem op_ltTT {X : Cx} (hu : X.A.units < cLine) : OpR X (compareOp .Lt) (rLtTT X.K) := by
  intro pins s σ H x y v u Q I rx ry h
  obtain ⟨a, b, ns, ms, rfl, rfl, ha, hb, q⟩ := h
  cases rx
  cases ry
  obtain ⟨its, r1, p1, _⟩ := I.tuple ha
  obtain ⟨its2, r2, p2, _⟩ := I.tuple hb
  have i1 : IntsAre its ns := Vals.ints r1
  have i2 : IntsAre its2 ms := Vals.ints r2
  have e1 : its.toArray.size = ns.length := by rw [List.size_toArray]; exact i1.length
  have e2 : its2.toArray.size = ms.length := by rw [List.size_toArray]; exact i2.length
  have at1 : ∀ j (h1 : j < its.toArray.size), ∃ t, its.toArray[j] = .int (ns.getD j 0) t := fun j h1 => PyProof.Rows.IntsAre.int_at i1 _ _ (by simp at h1; simp [h1])
  have at2 : ∀ j (h1 : j < its2.toArray.size), ∃ t, its2.toArray[j] = .int (ms.getD j 0) t := fun j h1 => PyProof.Rows.IntsAre.int_at i2 _ _ (by simp at h1; simp [h1])
  have R := Ob.RcOp.tuples_lt (A := X.A) (s := s) (e := fun j => decide (ns.getD j 0 = ms.getD j 0)) (r := fun j => ltI (ns.getD j 0) (ms.getD j 0)) p1 p2 hu (fun j h1 h2 => by
    obtain ⟨t, et⟩ := at1 j h1
    obtain ⟨t', et'⟩ := at2 j h2
    rw [et, et']
    have z : (ns.getD j 0 == ms.getD j 0) = decide (ns.getD j 0 = ms.getD j 0) := by
      by_cases q : ns.getD j 0 = ms.getD j 0
      · rw [decide_eq_true q]; exact beq_iff_eq.mpr q
      · rw [decide_eq_false q]; exact beq_eq_false_iff_ne.mpr q
    rw [← z]
    exact SeqAt.EqAt.int_int _ _ _ _) (fun j h1 h2 _ => by
    obtain ⟨t, et⟩ := at1 j h1
    obtain ⟨t', et'⟩ := at2 j h2
    rw [et, et']
    exact Ob.RcOp.lt_int _ _ _ _)
  rw [e1, e2] at R
  have hB := lexAt_B ltI (fun n m => decide (n < m)) (fun a b => by simp) (min ns.length ms.length) ns ms 0 (Nat.zero_le _) (Nat.zero_le _) (by simp)
  rw [List.drop_zero, List.drop_zero] at hB
  rw [hB] at R
  exact R _ _ _ _ ⟨.bl (tupLt ns ms), H, I, rfl, q⟩
theorem od_ltT {X : Cx} (hu : X.A.units < cLine) : OpD X (compareOp .Lt) dLtT := by
  refine ⟨_, OpR.or op_lt (OpR.or (op_ltTT hu) op_lt_str), fun W H x y d1 d2 f1 f2 d Q x0 a b e q => ?_⟩
  unfold dLtT at e; split at e
  · cases e; cases a; cases b
    exact .inl ⟨_, _, rfl, rfl, q _ W H [] (New.sc x0 .bl)⟩
  · cases e; cases a; cases b
    exact .inr (.inr ⟨_, _, rfl, rfl, q _ W H [] (New.sc x0 .bl)⟩)
  · split at e
    · rename_i ns ms e1 e2
      cases e
      obtain ⟨p, vs, rfl, s, _, l⟩ := a.tupl
      obtain ⟨p', vs', rfl, s', _, l'⟩ := b.tupl
      rw [toInts_eq e1] at l
      rw [toInts_eq e2] at l'
      obtain ⟨rfl, _⟩ := repI l
      obtain ⟨rfl, _⟩ := repI l'
      exact .inr (.inl ⟨p, p', ns, ms, rfl, rfl, s, s', q _ W H [] (New.sc x0 .bl)⟩)
    · cases e
  · cases e
@[simp] def dLeT : D → D → Res D
  | .int i, .int j => .ok (.bl (decide (i ≤ j)))
  | .str i, .str j => .ok (.bl (!decide (j.cps.toList < i.cps.toList)))
  | .tup xs, .tup ys => match toInts xs, toInts ys with
    | some ns, some ms => .ok (.bl (tupLe ns ms))
    | _, _ => .fail
  | _, _ => .fail
def rLeTT (K : PySem.W.Frag) : R2 := fun x y H Q => ∃ (a b : Addr) (ns ms : List Int), x = .ref a ∧ y = .ref b ∧ SqT K H a (ns.map V.int) ∧ SqT K H b (ms.map V.int) ∧ Q (.bl (tupLe ns ms)) H
theorem op_leTT {X : Cx} (hu : X.A.units < cLine) : OpR X (compareOp .LtE) (rLeTT X.K) := by
  intro pins s σ H x y v u Q I rx ry h
  obtain ⟨a, b, ns, ms, rfl, rfl, ha, hb, q⟩ := h
  cases rx
  cases ry
  obtain ⟨its, r1, p1, _⟩ := I.tuple ha
  obtain ⟨its2, r2, p2, _⟩ := I.tuple hb
  have i1 : IntsAre its ns := Vals.ints r1
  have i2 : IntsAre its2 ms := Vals.ints r2
  have e1 : its.toArray.size = ns.length := by rw [List.size_toArray]; exact i1.length
  have e2 : its2.toArray.size = ms.length := by rw [List.size_toArray]; exact i2.length
  have at1 : ∀ j (h1 : j < its.toArray.size), ∃ t, its.toArray[j] = .int (ns.getD j 0) t := fun j h1 => PyProof.Rows.IntsAre.int_at i1 _ _ (by simp at h1; simp [h1])
  have at2 : ∀ j (h1 : j < its2.toArray.size), ∃ t, its2.toArray[j] = .int (ms.getD j 0) t := fun j h1 => PyProof.Rows.IntsAre.int_at i2 _ _ (by simp at h1; simp [h1])
  have R := Ob.RcOp.tuples_le (A := X.A) (s := s) (e := fun j => decide (ns.getD j 0 = ms.getD j 0)) (r := fun j => leI (ns.getD j 0) (ms.getD j 0)) p1 p2 hu (fun j h1 h2 => by
    obtain ⟨t, et⟩ := at1 j h1
    obtain ⟨t', et'⟩ := at2 j h2
    rw [et, et']
    have z : (ns.getD j 0 == ms.getD j 0) = decide (ns.getD j 0 = ms.getD j 0) := by
      by_cases q : ns.getD j 0 = ms.getD j 0
      · rw [decide_eq_true q]; exact beq_iff_eq.mpr q
      · rw [decide_eq_false q]; exact beq_eq_false_iff_ne.mpr q
    rw [← z]
    exact SeqAt.EqAt.int_int _ _ _ _) (fun j h1 h2 _ => by
    obtain ⟨t, et⟩ := at1 j h1
    obtain ⟨t', et'⟩ := at2 j h2
    rw [et, et']
    exact Ob.RcOp.le_int _ _ _ _)
  rw [e1, e2] at R
  have hB := lexAt_B leI (fun n m => decide (n ≤ m)) (fun a b => by simp) (min ns.length ms.length) ns ms 0 (Nat.zero_le _) (Nat.zero_le _) (by simp)
  rw [List.drop_zero, List.drop_zero] at hB
  rw [hB] at R
  exact R _ _ _ _ ⟨.bl (tupLe ns ms), H, I, rfl, q⟩
theorem od_leT {X : Cx} (hu : X.A.units < cLine) : OpD X (compareOp .LtE) dLeT := by
  refine ⟨_, OpR.or op_le (OpR.or (op_leTT hu) op_le_str), fun W H x y d1 d2 f1 f2 d Q x0 a b e q => ?_⟩
  unfold dLeT at e; split at e
  · cases e; cases a; cases b
    exact .inl ⟨_, _, rfl, rfl, q _ W H [] (New.sc x0 .bl)⟩
  · cases e; cases a; cases b
    exact .inr (.inr ⟨_, _, rfl, rfl, q _ W H [] (New.sc x0 .bl)⟩)
  · split at e
    · rename_i ns ms e1 e2
      cases e
      obtain ⟨p, vs, rfl, s, _, l⟩ := a.tupl
      obtain ⟨p', vs', rfl, s', _, l'⟩ := b.tupl
      rw [toInts_eq e1] at l
      rw [toInts_eq e2] at l'
      obtain ⟨rfl, _⟩ := repI l
      obtain ⟨rfl, _⟩ := repI l'
      exact .inr (.inl ⟨p, p', ns, ms, rfl, rfl, s, s', q _ W H [] (New.sc x0 .bl)⟩)
    · cases e
  · cases e
@[simp] def dGtT : D → D → Res D
  | .int i, .int j => .ok (.bl (decide (j < i)))
  | .str i, .str j => .ok (.bl (decide (j.cps.toList < i.cps.toList)))
  | .tup xs, .tup ys => match toInts xs, toInts ys with
    | some ns, some ms => .ok (.bl (tupGt ns ms))
    | _, _ => .fail
  | _, _ => .fail
def rGtTT (K : PySem.W.Frag) : R2 := fun x y H Q => ∃ (a b : Addr) (ns ms : List Int), x = .ref a ∧ y = .ref b ∧ SqT K H a (ns.map V.int) ∧ SqT K H b (ms.map V.int) ∧ Q (.bl (tupGt ns ms)) H
theorem op_gtTT {X : Cx} (hu : X.A.units < cLine) : OpR X (compareOp .Gt) (rGtTT X.K) := by
  intro pins s σ H x y v u Q I rx ry h
  obtain ⟨a, b, ns, ms, rfl, rfl, ha, hb, q⟩ := h
  cases rx
  cases ry
  obtain ⟨its, r1, p1, _⟩ := I.tuple ha
  obtain ⟨its2, r2, p2, _⟩ := I.tuple hb
  have i1 : IntsAre its ns := Vals.ints r1
  have i2 : IntsAre its2 ms := Vals.ints r2
  have e1 : its.toArray.size = ns.length := by rw [List.size_toArray]; exact i1.length
  have e2 : its2.toArray.size = ms.length := by rw [List.size_toArray]; exact i2.length
  have at1 : ∀ j (h1 : j < its.toArray.size), ∃ t, its.toArray[j] = .int (ns.getD j 0) t := fun j h1 => PyProof.Rows.IntsAre.int_at i1 _ _ (by simp at h1; simp [h1])
  have at2 : ∀ j (h1 : j < its2.toArray.size), ∃ t, its2.toArray[j] = .int (ms.getD j 0) t := fun j h1 => PyProof.Rows.IntsAre.int_at i2 _ _ (by simp at h1; simp [h1])
  have R := Ob.RcOp.tuples_gt (A := X.A) (s := s) (e := fun j => decide (ns.getD j 0 = ms.getD j 0)) (r := fun j => gtI (ns.getD j 0) (ms.getD j 0)) p1 p2 hu (fun j h1 h2 => by
    obtain ⟨t, et⟩ := at1 j h1
    obtain ⟨t', et'⟩ := at2 j h2
    rw [et, et']
    have z : (ns.getD j 0 == ms.getD j 0) = decide (ns.getD j 0 = ms.getD j 0) := by
      by_cases q : ns.getD j 0 = ms.getD j 0
      · rw [decide_eq_true q]; exact beq_iff_eq.mpr q
      · rw [decide_eq_false q]; exact beq_eq_false_iff_ne.mpr q
    rw [← z]
    exact SeqAt.EqAt.int_int _ _ _ _) (fun j h1 h2 _ => by
    obtain ⟨t, et⟩ := at1 j h1
    obtain ⟨t', et'⟩ := at2 j h2
    rw [et, et']
    exact Ob.RcOp.gt_int _ _ _ _)
  rw [e1, e2] at R
  have hB := lexAt_B gtI (fun n m => decide (n > m)) (fun a b => by simp) (min ns.length ms.length) ns ms 0 (Nat.zero_le _) (Nat.zero_le _) (by simp)
  rw [List.drop_zero, List.drop_zero] at hB
  rw [hB] at R
  exact R _ _ _ _ ⟨.bl (tupGt ns ms), H, I, rfl, q⟩
theorem od_gtT {X : Cx} (hu : X.A.units < cLine) : OpD X (compareOp .Gt) dGtT := by
  refine ⟨_, OpR.or op_gt (OpR.or (op_gtTT hu) op_gt_str), fun W H x y d1 d2 f1 f2 d Q x0 a b e q => ?_⟩
  unfold dGtT at e; split at e
  · cases e; cases a; cases b
    exact .inl ⟨_, _, rfl, rfl, q _ W H [] (New.sc x0 .bl)⟩
  · cases e; cases a; cases b
    exact .inr (.inr ⟨_, _, rfl, rfl, q _ W H [] (New.sc x0 .bl)⟩)
  · split at e
    · rename_i ns ms e1 e2
      cases e
      obtain ⟨p, vs, rfl, s, _, l⟩ := a.tupl
      obtain ⟨p', vs', rfl, s', _, l'⟩ := b.tupl
      rw [toInts_eq e1] at l
      rw [toInts_eq e2] at l'
      obtain ⟨rfl, _⟩ := repI l
      obtain ⟨rfl, _⟩ := repI l'
      exact .inr (.inl ⟨p, p', ns, ms, rfl, rfl, s, s', q _ W H [] (New.sc x0 .bl)⟩)
    · cases e
  · cases e
@[simp] def dGeT : D → D → Res D
  | .int i, .int j => .ok (.bl (decide (j ≤ i)))
  | .str i, .str j => .ok (.bl (!decide (i.cps.toList < j.cps.toList)))
  | .tup xs, .tup ys => match toInts xs, toInts ys with
    | some ns, some ms => .ok (.bl (tupGe ns ms))
    | _, _ => .fail
  | _, _ => .fail
def rGeTT (K : PySem.W.Frag) : R2 := fun x y H Q => ∃ (a b : Addr) (ns ms : List Int), x = .ref a ∧ y = .ref b ∧ SqT K H a (ns.map V.int) ∧ SqT K H b (ms.map V.int) ∧ Q (.bl (tupGe ns ms)) H
theorem op_geTT {X : Cx} (hu : X.A.units < cLine) : OpR X (compareOp .GtE) (rGeTT X.K) := by
  intro pins s σ H x y v u Q I rx ry h
  obtain ⟨a, b, ns, ms, rfl, rfl, ha, hb, q⟩ := h
  cases rx
  cases ry
  obtain ⟨its, r1, p1, _⟩ := I.tuple ha
  obtain ⟨its2, r2, p2, _⟩ := I.tuple hb
  have i1 : IntsAre its ns := Vals.ints r1
  have i2 : IntsAre its2 ms := Vals.ints r2
  have e1 : its.toArray.size = ns.length := by rw [List.size_toArray]; exact i1.length
  have e2 : its2.toArray.size = ms.length := by rw [List.size_toArray]; exact i2.length
  have at1 : ∀ j (h1 : j < its.toArray.size), ∃ t, its.toArray[j] = .int (ns.getD j 0) t := fun j h1 => PyProof.Rows.IntsAre.int_at i1 _ _ (by simp at h1; simp [h1])
  have at2 : ∀ j (h1 : j < its2.toArray.size), ∃ t, its2.toArray[j] = .int (ms.getD j 0) t := fun j h1 => PyProof.Rows.IntsAre.int_at i2 _ _ (by simp at h1; simp [h1])
  have R := Ob.RcOp.tuples_ge (A := X.A) (s := s) (e := fun j => decide (ns.getD j 0 = ms.getD j 0)) (r := fun j => geI (ns.getD j 0) (ms.getD j 0)) p1 p2 hu (fun j h1 h2 => by
    obtain ⟨t, et⟩ := at1 j h1
    obtain ⟨t', et'⟩ := at2 j h2
    rw [et, et']
    have z : (ns.getD j 0 == ms.getD j 0) = decide (ns.getD j 0 = ms.getD j 0) := by
      by_cases q : ns.getD j 0 = ms.getD j 0
      · rw [decide_eq_true q]; exact beq_iff_eq.mpr q
      · rw [decide_eq_false q]; exact beq_eq_false_iff_ne.mpr q
    rw [← z]
    exact SeqAt.EqAt.int_int _ _ _ _) (fun j h1 h2 _ => by
    obtain ⟨t, et⟩ := at1 j h1
    obtain ⟨t', et'⟩ := at2 j h2
    rw [et, et']
    exact Ob.RcOp.ge_int _ _ _ _)
  rw [e1, e2] at R
  have hB := lexAt_B geI (fun n m => decide (n ≥ m)) (fun a b => by simp) (min ns.length ms.length) ns ms 0 (Nat.zero_le _) (Nat.zero_le _) (by simp)
  rw [List.drop_zero, List.drop_zero] at hB
  rw [hB] at R
  exact R _ _ _ _ ⟨.bl (tupGe ns ms), H, I, rfl, q⟩
theorem od_geT {X : Cx} (hu : X.A.units < cLine) : OpD X (compareOp .GtE) dGeT := by
  refine ⟨_, OpR.or op_ge (OpR.or (op_geTT hu) op_ge_str), fun W H x y d1 d2 f1 f2 d Q x0 a b e q => ?_⟩
  unfold dGeT at e; split at e
  · cases e; cases a; cases b
    exact .inl ⟨_, _, rfl, rfl, q _ W H [] (New.sc x0 .bl)⟩
  · cases e; cases a; cases b
    exact .inr (.inr ⟨_, _, rfl, rfl, q _ W H [] (New.sc x0 .bl)⟩)
  · split at e
    · rename_i ns ms e1 e2
      cases e
      obtain ⟨p, vs, rfl, s, _, l⟩ := a.tupl
      obtain ⟨p', vs', rfl, s', _, l'⟩ := b.tupl
      rw [toInts_eq e1] at l
      rw [toInts_eq e2] at l'
      obtain ⟨rfl, _⟩ := repI l
      obtain ⟨rfl, _⟩ := repI l'
      exact .inr (.inl ⟨p, p', ns, ms, rfl, rfl, s, s', q _ W H [] (New.sc x0 .bl)⟩)
    · cases e
  · cases e
end E
/-! EngV: defs with defaults; one of two readings; max, min -/
namespace E
open PySem L2 PySem.Spec PyProof.Rows
section
variable {P : Program} {w : World} {K : PySem.W.Frag} {mg : Str → Option Value} {base : Heap} {CT : Nat → Addr}
theorem fun_okD {x qual : Str} {st : Stmt} {f : Addr} {fd : FuncData} {N ps : List Str} {k : Nat} {pin : List Nat} {b : MS} {dvs : List V} {kws : List (Str × V)} (F : FunD K x qual (defArgs st) (defBody st) (defScope st) dvs kws f fd) (S : FnScope N ps (defScope st))
    (hbody : ∀ (cdv : Value) (A : Around) (outer : List Env) (s : Shared) (H : Hp) (wx : XK), Room k (A.deeper (envOfC qual (defScope st) s.heap.objs.size f cdv)) → MSs (cxOf CX0 P w K mg base N qual (defScope st) f cdv A outer s H wx).nox CT pin (defBody st) b) :
    FnOk P w K mg base CX0 (k + 1) f fd ps (spM K CT ps.length (mDef ps.length N.length pin b)) :=
  F.ok S (fun vs H Q E h => spM_len h) fun cdv A outer s H vs Q E hr h => ⟨_, (hbody cdv A outer s H E hr).nox, body_ok h⟩
end
def mOrM (a b : M D) : M D := fun m => match a m with
  | .ok r => .ok r
  | _ => b m
theorem pe_or2 {X : Cx} {e : Expr} {t t' : TE} (h : PE X e t) (h' : PE X e t') : PE X e (fun σ H Q => t σ H Q ∨ t' σ H Q) := ⟨fun pins s σ H Q I q => q.elim (h.run pins s σ H Q I) (h'.run pins s σ H Q I)⟩
theorem me_or2 {X : Cx} {CT : Nat → Addr} {e : Expr} {a b : M D} (ha : ME X CT e a) (hb : ME X CT e b) : ME X CT e (mOrM a b) := pe_weak (pe_or2 ha hb) fun σ H Q ⟨W, m, fp, d, m', rel, e, q⟩ => by
  unfold mOrM at e
  split at e
  · rename_i r er
    cases e
    exact .inl ⟨W, m, fp, d, m', rel, er, q⟩
  · exact .inr ⟨W, m, fp, d, m', rel, e, q⟩
end E
/-! EngW: reversed(..), enumerate(..) as what a loop walks -/
namespace E
open PySem L2 PySem.Spec PyProof.Rows
def revIt (it : It) : It := (it.1.reverse, it.2)
def enumD (xs : List D) : List D := (List.range xs.length).map fun (k : Nat) => D.tup [.int (k : Int), xs.getD k .non]
def enumIt (it : It) : It := (enumD it.1, it.2)
def miRevV (e : M D) : M It := fun m => (miV e m).bind fun r => .ok (revIt r.1, r.2)
def miRevN (i : Nat) : M It := fun m => (miN i m).bind fun r => .ok (revIt r.1, r.2)
section
variable {K : PySem.W.Frag} {CT : Nat → Addr} {pi : List Nat} {W W2 : Wd} {H H2 : Hp} {σ σ2 : L2.St} {m2 : Mem} {fp fp2 : List Addr}
theorem runs_rl {a : Addr} {xs : List D} {ok : Mem → Prop} {n : Nat} (hn : n = xs.length) (h : ∀ m2 σ2 W2 H2 fp2, PostS K CT pi W H σ fp m2 σ2 W2 H2 fp2 → ok m2 → ∃ vs, SqL K H2 a vs ∧ RepL K W2 H2 vs xs []) : Runs K CT pi (Itv K a n) W H σ fp xs.reverse ok := by
  subst hn
  intro m2 σ2 W2 H2 fp2 p o i
  obtain ⟨vs, s, l⟩ := h m2 σ2 W2 H2 fp2 p o
  refine ⟨fun d e => ?_, fun hl => by
    have hl : xs.length ≤ i := by simpa using hl
    exact hl⟩
  have hi : i < xs.length := by simpa using (List.getElem?_eq_some_iff.mp e).1
  rw [List.getElem?_reverse hi] at e
  obtain ⟨v, h1, h2⟩ := l.item e
  refine ⟨⟨hi, vs, v, s, h1⟩, fun x H3 y => ?_⟩
  obtain ⟨rfl, y⟩ := y
  have := y vs s
  rw [h1] at this
  cases this
  exact ⟨W2, h2, Ext.refl _ _ _, rfl, p.rel.fix⟩
theorem runs_rt {a : Addr} {xs : List D} {ok : Mem → Prop} {n : Nat} (hn : n = xs.length) (h : ∀ m2 σ2 W2 H2 fp2, PostS K CT pi W H σ fp m2 σ2 W2 H2 fp2 → ok m2 → ∃ vs, SqT K H2 a vs ∧ RepL K W2 H2 vs xs []) : Runs K CT pi (RT.ItvT K a n) W H σ fp xs.reverse ok := by
  subst hn
  intro m2 σ2 W2 H2 fp2 p o i
  obtain ⟨vs, s, l⟩ := h m2 σ2 W2 H2 fp2 p o
  refine ⟨fun d e => ?_, fun hl => by
    have hl : xs.length ≤ i := by simpa using hl
    exact hl⟩
  have hi : i < xs.length := by simpa using (List.getElem?_eq_some_iff.mp e).1
  rw [List.getElem?_reverse hi] at e
  obtain ⟨v, h1, h2⟩ := l.item e
  refine ⟨⟨hi, vs, v, s, h1⟩, fun x H3 y => ?_⟩
  obtain ⟨rfl, y⟩ := y
  have := y vs s
  rw [h1] at this
  cases this
  exact ⟨W2, h2, Ext.refl _ _ _, rfl, p.rel.fix⟩
theorem runs_en {a : Addr} {xs : List D} {ok : Mem → Prop} (h : ∀ m2 σ2 W2 H2 fp2, PostS K CT pi W H σ fp m2 σ2 W2 H2 fp2 → ok m2 → ∃ vs, SqL K H2 a vs ∧ RepL K W2 H2 vs xs []) : Runs K CT pi (Ite K a) W H σ fp (enumD xs) ok := by
  intro m2 σ2 W2 H2 fp2 p o i
  obtain ⟨vs, s, l⟩ := h m2 σ2 W2 H2 fp2 p o
  refine ⟨fun d e => ?_, fun hl => ⟨vs, s, by
    rw [l.length]
    simpa [enumD] using hl⟩⟩
  have hi : i < xs.length := by simpa [enumD] using (List.getElem?_eq_some_iff.mp e).1
  unfold enumD at e
  rw [List.getElem?_map, List.getElem?_range hi] at e
  cases e
  have e : xs[i]? = some (xs.getD i .non) := by simp [List.getD_eq_getElem?_getD, hi]
  obtain ⟨v, h1, h2⟩ := l.item e
  refine ⟨⟨vs, v, s, h1⟩, fun x H3 y => ?_⟩
  obtain ⟨T, x', rfl, hT, rfl, y⟩ := y
  have := y vs s
  rw [h1] at this
  cases this
  have n := New.tup (K := K) (p := T) (vs := [.int (i : Nat), v]) (ds := [.int (i : Nat), xs.getD i .non]) p.rel.fix hT (.cons (f := []) (g := []) .int (.cons (f := []) (g := []) h2 .nil))
  exact ⟨_, n.rep, n.ext, n.ι, n.fix⟩
end
section
variable {X : Cx} {CT : Nat → Addr} {pi pin : List Nat} {e tg : Expr} {pos p0 : Pos} {me : M D} {i : Nat}
theorem mi_revV (hg : Gl X "reversed") (hm : X.mg "reversed" = none) (h : ME X CT e me) (hs : starEach [e] X.env = (false, eval e X.env) :: starEach [] X.env := by rfl) : MI X CT pi tg (.Call (.Name "reversed" p0) [e] [] pos) (miRevV me) := pi_weak (RT.pi_revA hg hm h hs) fun σ H R ⟨W, m, fp, it, m', rel, e, k⟩ => by
  obtain ⟨⟨it0, m0⟩, e0, e⟩ := Res.bind_eq e
  cases e
  obtain ⟨⟨d, m1⟩, e1, e⟩ := Res.bind_eq e0
  obtain ⟨it1, e2, e⟩ := Res.bind_eq e
  cases e
  dsimp only at e2
  refine ⟨W, m, fp, d, m1, rel, e1, fun v W1 H1 fp1 fd p => ?_⟩
  unfold itOf at e2
  split at e2
  · obtain ⟨p0, e2⟩ := Res.when_eq e2
    cases e2
    obtain ⟨a, vs, rfl, s, l, st⟩ := p.rep.lstQ p0
    have nd := p.nd
    rw [List.nodup_append] at nd
    exact ⟨a, vs, rfl, .inl ⟨s, k _ W1 H1 fp1 p.t (runs_rl l.length fun m2 σ2 W2 H2 fp2 q _ => ⟨vs, st q.ext p.rel.off (fun b z y => nd.2.2 b y b z rfl), l.ext q.ext p.rel.off fun a z => by cases z⟩)⟩⟩
  · obtain ⟨p0, e2⟩ := Res.when_eq e2
    cases e2
    obtain ⟨a, vs, rfl, s, z, l⟩ := p.rep.tupl
    obtain rfl := l.pure p0
    exact ⟨a, vs, rfl, .inr ⟨s, k _ W1 H1 fp1 p.t (runs_rt l.length fun m2 σ2 W2 H2 fp2 q _ => ⟨vs, (z.ext q.ext p.rel.off).sq, l.ext q.ext p.rel.off fun a z => by cases z⟩)⟩⟩
  · cases e2
theorem mi_revN (hg : Gl X "reversed") (hm : X.mg "reversed" = none) (h : PE X e (tVar i)) (hs : starEach [e] X.env = (false, eval e X.env) :: starEach [] X.env := by rfl) : MI X CT [i] tg (.Call (.Name "reversed" p0) [e] [] pos) (miRevN i) := pi_weak (RT.pi_revA hg hm h hs) fun σ H R ⟨W, m, fp, it, m', rel, e, k⟩ => by
  obtain ⟨⟨it0, m0⟩, e0, e⟩ := Res.bind_eq e
  cases e
  obtain ⟨d, e1, e⟩ := Res.bind_eq e0
  obtain ⟨it1, e2, e⟩ := Res.bind_eq e
  cases e
  obtain ⟨q1, q2⟩ := mqVar_eq e1
  obtain ⟨v, s, f1, rp⟩ : ∃ v, σ[i]? = some (some v) ∧ ∃ f1, RepD X.K W H v d f1 := by
    obtain ⟨f, g, rfl, h1, h2⟩ := rel.s
    obtain ⟨v, _, f1, _, _, s, r, _⟩ := h1.at q1 q2
    exact ⟨v, s, f1, r⟩
  have post : PostT X.K CT W H σ fp m W H fp := ⟨rel, Ext.refl _ _ _, fun a z => .inl z⟩
  have again : ∀ m2 σ2 W2 H2 fp2, PostS X.K CT [i] W H σ fp m2 σ2 W2 H2 fp2 → m2.env[i]? = some d → ∃ f, RepD X.K W2 H2 v d f := fun m2 σ2 W2 H2 fp2 p o => by
    obtain ⟨f, g, rfl, h1, h2⟩ := p.rel.s
    obtain ⟨v', _, f1, _, _, s', r, _⟩ := h1.at o q2
    rw [p.pin i (List.mem_cons_self ..), s] at s'
    cases s'
    exact ⟨f1, r⟩
  refine ⟨_, s, ?_⟩
  unfold itOf at e2
  split at e2
  · obtain ⟨p0, e2⟩ := Res.when_eq e2
    cases e2
    obtain ⟨a, vs, g, rfl, sq, l, sb⟩ := rp.lst
    refine ⟨a, vs, rfl, .inl ⟨sq, k _ W H fp post (runs_rl l.length fun m2 σ2 W2 H2 fp2 q o => ?_)⟩⟩
    obtain ⟨f, r⟩ := again m2 σ2 W2 H2 fp2 q o
    obtain ⟨a', vs', g', e', sq', l', _⟩ := r.lst
    cases e'
    obtain rfl := l'.pure p0
    exact ⟨vs', sq', l'⟩
  · obtain ⟨p0, e2⟩ := Res.when_eq e2
    cases e2
    obtain ⟨a, vs, rfl, sq, z, l⟩ := rp.tupl
    obtain rfl := l.pure p0
    exact ⟨a, vs, rfl, .inr ⟨sq, k _ W H fp post (runs_rt l.length fun m2 σ2 W2 H2 fp2 q o => ⟨vs, (z.ext q.ext rel.off).sq, l.ext q.ext rel.off fun a z => by cases z⟩)⟩⟩
  · cases e2
end
@[simp] def enOf (ok : Mem → Prop) (m : Mem) : D → Res (It × Mem)
  | .lst _ xs => Res.when (pureL xs) (.ok ((enumD xs, ok), m))
  | _ => .fail
def miEnV (e : M D) : M It := fun m => (e m).bind fun r => enOf (fun (_ : Mem) => True) r.2 r.1
def miEnN (i : Nat) : M It := fun m => (mqVar i m).bind fun d => enOf (fun m' => m'.env[i]? = some d) m d
section
variable {X : Cx} {CT : Nat → Addr} {pi pin : List Nat} {e : Expr} {elts : List Expr} {kk : Nat} {pos p0 tpos : Pos} {me : M D} {i : Nat}
theorem mi_enV (hg : Gl X "enumerate") (hm : X.mg "enumerate" = none) (h : ME X CT e me) (hs : starEach [e] X.env = [(false, eval e X.env)] := by rfl) (hs' : starEach [e] X.env = (false, eval e X.env) :: starEach [] X.env := by rfl) : MI X CT pi (.Tuple elts kk tpos) (.Call (.Name "enumerate" p0) [e] [] pos) (miEnV me) :=
  pi_weak (pi_enum hg hm (ma_v h ma_nil hs') hs) fun σ H R ⟨W, m, fp, it, m', rel, e, k⟩ => by
  obtain ⟨⟨d, m1⟩, e1, e⟩ := Res.bind_eq e
  dsimp only at e
  cases d with
  | lst o xs =>
    obtain ⟨p0, e⟩ := Res.when_eq e
    cases e
    refine ⟨W, m, fp, [.val (.lst o xs)], m', rel, ?_, fun vs W1 H1 fp1 fd p => ?_⟩
    · show (me m).bind _ = _
      rw [e1]; rfl
    · obtain ⟨pr, prep, pnd, pown, pext, psub⟩ := p
      cases prep with
      | val rv rr =>
        cases rr
        obtain ⟨a, vs, rfl, s, l, st⟩ := rv.lstQ p0
        rw [List.append_nil] at pnd psub
        rw [List.nodup_append] at pnd
        exact ⟨a, vs, rfl, s, k _ W1 H1 fp1 ⟨pr, pext, fun a z => psub a (List.mem_append_left _ z)⟩ (runs_en fun m2 σ2 W2 H2 fp2 q _ => ⟨vs, st q.ext pr.off (fun b z y => pnd.2.2 b y b z rfl), l.ext q.ext pr.off fun a z => by cases z⟩)⟩
  | _ => cases e
theorem mi_enN (hg : Gl X "enumerate") (hm : X.mg "enumerate" = none) (h : PE X e (tVar i)) (hs : starEach [e] X.env = [(false, eval e X.env)] := by rfl) (hs' : starEach [e] X.env = (false, eval e X.env) :: starEach [] X.env := by rfl) : MI X CT [i] (.Tuple elts kk tpos) (.Call (.Name "enumerate" p0) [e] [] pos) (miEnN i) :=
  pi_weak (pi_enum hg hm (ma_n h ma_nil hs') hs) fun σ H R ⟨W, m, fp, it, m', rel, e, k⟩ => by
  obtain ⟨d, e1, e⟩ := Res.bind_eq e
  obtain ⟨q1, q2⟩ := mqVar_eq e1
  cases d with
  | lst o xs =>
    obtain ⟨p0, e⟩ := Res.when_eq e
    cases e
    refine ⟨W, m, fp, [.nam i], m, rel, ?_, fun vs W1 H1 fp1 fd p => ?_⟩
    · show (mqVar i m).bind _ = _
      rw [e1]; rfl
    · obtain ⟨pr, prep, pnd, pown, pext, psub⟩ := p
      cases prep with
      | nam sv rr =>
        cases rr
        have again : ∀ m2 σ2 W2 H2 fp2, PostS X.K CT [i] W1 H1 σ fp1 m2 σ2 W2 H2 fp2 → m2.env[i]? = some (.lst o xs) → ∃ f, RepD X.K W2 H2 _ (.lst o xs) f := fun m2 σ2 W2 H2 fp2 p o => by
          obtain ⟨f, g, rfl, h1, h2⟩ := p.rel.s
          obtain ⟨v', _, f1, _, _, s', r, _⟩ := h1.at o q2
          rw [p.pin i (List.mem_cons_self ..), sv] at s'
          cases s'
          exact ⟨f1, r⟩
        obtain ⟨f, r⟩ := again m σ W1 H1 fp1 (.refl pr) q1
        obtain ⟨a, vs, g, rfl, sq, l, sb⟩ := r.lst
        refine ⟨a, vs, rfl, sq, k _ W1 H1 fp1 ⟨pr, pext, fun a z => psub a (List.mem_append_left _ z)⟩ (runs_en fun m2 σ2 W2 H2 fp2 q o => ?_)⟩
        obtain ⟨f, r⟩ := again m2 σ2 W2 H2 fp2 q o
        obtain ⟨a', vs', g', e', sq', l', _⟩ := r.lst
        cases e'
        obtain rfl := l'.pure p0
        exact ⟨vs', sq', l'⟩
  | _ => cases e
end
end E
/-! EngX: set comprehensions by any rule of set.add; sets of tuples of ints -/
namespace E
open PySem L2 PySem.Spec PyProof.Rows

abbrev freshSet (w : World) : Obj := { cls := .type "set", dict := none, data := .set #[] 0 (.fresh 0 0 (!w.params.followText "set-order")) }
/-- {elt for tg in iter if ..}: O0 what a new set is, r what set.add asks -/
def tSg (O0 : Addr → HO) (r : V → List V → Hp → VK → Prop) (wi : TI) (g : TG) (tt : TT) (te : TE) (vs : List Nat) : TE := fun σ H Q => wi σ H fun J H1 => ∀ D, H1 D = none →
  ∃ Z : Nat → Nat → Hp → Prop, (∃ m, Z 0 m (upd H1 D (O0 D))) ∧ ∀ i m H2, Z i m H2 →
    (J.stop i H2 ∧ Q (.ref D) H2) ∨ (J.go i H2 ∧ ∃ Y : Hp → Prop, (∀ H', Y H' → ∃ m', m' < m ∧ Z (i + 1) m' H') ∧
      ∀ x H', J.yld i H2 x H' → g x (wipe σ vs) H' fun σ3 H3 => wipe σ3 vs = wipe σ vs ∧ tt σ3 H3 fun b H4 => if b = true then te σ3 H4 fun y H5 => r (.ref D) [y] H5 (fun _ H6 => Y H6) else Y H4)
section
variable {X : Cx}
theorem pe_sg {elt tg iter : Expr} {ifs : List Expr} {scope : Scope} {own : List (Str × Nat)} {pos : Pos} {wi : TI} {g : TG} {tt : TT} {te : TE} {O0 : Addr → HO} {r : V → List V → Hp → VK → Prop}
    (hc : X.calm = true) (hN : X.N.Nodup) (hi : PI X tg iter wi) (ok : BlkOk X.N X.env.scope scope own)
    (hnew : ∀ (H : Hp) (h : Heap), ObjOk X.prog X.w H (h.push (freshSet X.w)) h.objs.size (O0 h.objs.size))
    (hg : ∀ (s : Shared) (H : Hp) (C : Addr) (cl : List (Str × Addr)) (fp : List Addr), PG (X.blk s H scope (compEnvC scope cl C X.env) fp) tg g)
    (ht : ∀ (s : Shared) (H : Hp) (C : Addr) (cl : List (Str × Addr)) (fp : List Addr), PTs (X.blk s H scope (compEnvC scope cl C X.env) fp) ifs tt)
    (he : ∀ (s : Shared) (H : Hp) (C : Addr) (cl : List (Str × Addr)) (fp : List Addr), PE (X.blk s H scope (compEnvC scope cl C X.env) fp) elt te)
    (ha : ∀ (s : Shared) (H : Hp) (C : Addr) (cl : List (Str × Addr)) (fp : List Addr), MtR (X.blk s H scope (compEnvC scope cl C X.env) fp) "set.add" r)
    (hs : ∀ x, foldedSetIterable iter X.env x = pure x := by intro _; rfl) :
    PE X (.SetComp elt [⟨tg, iter, ifs, 0⟩] scope pos) (tSg O0 r wi g tt te (own.map (·.2))) := ⟨fun pins s σ H Q I h => by
  have frees : ∀ y ∈ scope.names, y.2 = .free → ∃ c, X.env.cells.lookup y.1 = some c := fun y hy e => (ok.free y hy e).elim (fun k => I.ok.has _ (.inl k)) fun k => I.ok.has _ (.inr k)
  show wpAny _ _ (comprehension (.SetComp elt [⟨tg, iter, ifs, 0⟩] scope pos) scope X.env (firstIterPos [⟨tg, iter, ifs, 0⟩] pos) (newSet (.type "set")) (firstAsync [⟨tg, iter, ifs, 0⟩]) (firstIter [⟨tg, iter, ifs, 0⟩] X.env)) _ _ _
  refine wpAny_comprehension_free (use := none) rfl hs (closure_ok frees) ok.kind (fun y hy e => by rw [ok.uniq y hy, e]) (thn (hi.run pins s σ H _ I h) fun _ _ k1 => thn k1 fun _ t k2 => ?_)
  obtain ⟨ia, fp, T0, J, K1, rfl, I1, T, t1, f1, q⟩ := k2
  refine PpSet.newSet_ok (newEnv_comp ?_)
  have free : K1 t.heap.objs.size = none := I1.hok.fresh (Nat.le_refl _)
  obtain ⟨Z, ⟨m0, z0⟩, turn⟩ := q t.heap.objs.size free
  -- the heap with the new set
  let v : Shared := { t with heap := t.heap.push (freshSet X.w) }
  let D : Addr := t.heap.objs.size
  let K2 : Hp := upd K1 D (O0 D)
  have I2 : Inv X pins σ K2 v := I1.laid (t' := t.toks) (fun b o e => Heap.get?_push_of_some _ e) (Nat.le_refl _) (hnew _ _)
  have under : ∀ b ∈ fp, b < D := fun b hb => by
    obtain ⟨o, e, _⟩ := T.obj _ _ t1 b hb
    exact Heap.lt_size e
  have f2 : ∀ b ∈ fp, FpOk X pins K2 b ∧ b < v.heap.objs.size := fun b hb => by
    have lt := under b hb
    refine ⟨⟨?_, (f1 b hb).2⟩, ?_⟩
    · show upd K1 D (O0 D) b = none
      rw [upd_ne (Nat.ne_of_lt lt)]
      exact (f1 b hb).1
    · show b < (t.heap.push (freshSet X.w)).objs.size
      rw [Heap.size_push]
      exact Nat.lt_succ_of_lt lt
  have t2 : T0 0 v.heap := T.keep _ _ _ t1 fun b _ o e => Heap.get?_push_of_some _ e
  have I3 := block_start I2 ok hN f2
  show codeAny _ _ (.compStart (.SetComp elt [⟨tg, iter, ifs, 0⟩] scope pos) 0 (.ref ia) (.ref D) (compEnvC scope (cellsFrom (v.heap.objs.size + 1) scope.names (cloFrom X.env.cells scope.names [])) v.heap.objs.size X.env)) _ { v with heap := pushCells (v.heap.push { cls := .type "dict", data := .dict #[] }) scope.names }
  -- names for what the block runs in
  generalize hcl : cellsFrom (v.heap.objs.size + 1) scope.names (cloFrom X.env.cells scope.names []) = cl at I3 ⊢
  have pg := hg v K2 v.heap.objs.size cl fp
  have pt := ht v K2 v.heap.objs.size cl fp
  have pe := he v K2 v.heap.objs.size cl fp
  have pa := ha v K2 v.heap.objs.size cl fp
  have cL : (compEnvC scope cl v.heap.objs.size X.env).locals = v.heap.objs.size := rfl
  generalize hce : compEnvC scope cl v.heap.objs.size X.env = ce at I3 pg pt pe pa cL ⊢
  generalize hv4 : ({ v with heap := pushCells (v.heap.push { cls := .type "dict", data := .dict #[] }) scope.names } : Shared) = v4 at I3 ⊢
  have t4 : T0 0 v4.heap := T.keep _ _ _ t2 fun b _ o e => by rw [← hv4]; exact pushCells_keeps _ _ _ _ (Heap.get?_push_of_some _ e)
  have still : ∀ {σ' : L2.St} {H' : Hp} {s' : Shared}, Inv (X.blk v K2 scope ce fp) [] σ' H' s' → (∀ b ∈ fp, H' b = none) → ∀ b ∈ fp, FpOk (X.blk v K2 scope ce fp) [] H' b := fun {_ _ _} I' hn b hb =>
    ⟨hn b hb, (I'.ok.exf b hb).1, I'.ok.exfs b hb, .inl hb, fun x c e => (I'.ok.exf b hb).2 x c e, fun p hp => nomatch hp⟩
  -- what holds ahead of each turn
  refine (fun loop => PpSet.codeAny_compStart_set loop (T.self X.A 0 _ _ _ t4 loop)) ?_
  refine PpSet.compLoopS_any (fun n s' => ∃ i H', Inv (X.blk v K2 scope ce fp) [] (wipe σ (own.map (·.2))) H' s' ∧ T0 i s'.heap ∧ (∀ b ∈ fp, H' b = none) ∧ Z i n H') ?_ m0 ⟨0, K2, I3, t4, fun b hb => (f2 b hb).1.1, z0⟩
  · rintro n s5 ⟨i, H5, I5, st5, n5, w5⟩
    rcases turn i n H5 w5 with ⟨stop, qq⟩ | ⟨go, Y, hY, step⟩
    · refine thnF (T.done (X.blk v K2 scope ce fp) rfl rfl rfl hc i [] s5 _ H5 (fun _ _ => False) I5 (still I5 n5) st5 stop) fun _ s6 k6 => ?_
      obtain ⟨rfl, I6⟩ := k6
      have out : Inv X pins σ H5 s6 := I2.call' (ch := fp) I6.os I6.base I6.hok I6.bare fun b hb => ⟨(f2 b hb).1.2.2.2.1, (f2 b hb).1.2.1, (f2 b hb).1.2.2.2.2.1, (f2 b hb).1.2.2.2.2.2⟩
      have nC : H5 v.heap.objs.size = none := cL ▸ (I6.free : H5 ce.locals = none)
      obtain ⟨ns, hn, _⟩ := I6.loc
      have hn : s6.heap.Ns v.heap.objs.size ns := cL ▸ (show s6.heap.Ns ce.locals ns from hn)
      obtain ⟨g0, g1, g2, g3, g4, g5⟩ := I2.fpOk (Nat.le_refl _) nC
      exact ⟨ns, hn, fun h'' sb => ⟨.ref D, H5, out.turned (t' := s6.toks) (fun b o hb e => (sb.2 b hb).trans e) g0 g1 g3 g4 g5, rfl, qq⟩⟩
    · refine thnF (T.item (X.blk v K2 scope ce fp) rfl rfl rfl hc i [] s5 _ H5 (fun _ _ => False) I5 (still I5 n5) st5 go) fun _ s6 k6 => ?_
      obtain ⟨u, rfl, h6⟩ := k6
      refine thnF h6 fun _ s7 ⟨x, H7, I7, r7, y7, st7, n7⟩ => ?_
      have I7' := I7.pinned (still I7 n7) (T.obj _ _ st7)
      refine thnF (pg.run _ s7 _ H7 x u _ I7' r7 (step x H7 y7)) fun _ s8 ⟨σ8, H8, I8, hw8, q8⟩ => ?_
      have behind : ∀ {s' : Shared} {H' : Hp}, Inv (X.blk v K2 scope ce fp) ([] ++ pinsAt fp s7.heap) σ8 H' s' → Y H' → ∃ m, m < n ∧ ∃ i H', Inv (X.blk v K2 scope ce fp) [] (wipe σ (own.map (·.2))) H' s' ∧ T0 i s'.heap ∧ (∀ b ∈ fp, H' b = none) ∧ Z i m H' := fun {s' H'} I' nx => by
        obtain ⟨m', hm, z'⟩ := hY H' nx
        have there : ∀ b ∈ fp, ∀ o, s7.heap.get? b = some o → s'.heap.get? b = some o ∧ H' b = none := fun b hb o e => by
          have k := I'.pin (b, o) (List.mem_append_right _ (List.mem_append_right _ (mem_pinsAt hb e)))
          exact ⟨k.1, k.2.1⟩
        refine ⟨m', hm, i + 1, H', (I'.unpinned (pins := [])).weak (by rw [← hw8, wipe_length]) (fun j v e => ?_), T.keep _ _ _ st7 fun b hb o e => (there b hb o e).1, fun b hb => ?_, z'⟩
        · exact (wipe_some (hw8.symm ▸ e : (wipe σ8 (own.map (·.2)))[j]? = some (some v))).1
        · obtain ⟨o, e, _⟩ := T.obj _ _ st7 b hb
          exact (there b hb o e).2
      refine thnF (pt.run _ s8 σ8 H8 _ I8 q8) fun b s9 ⟨H9, I9, q9⟩ => ?_
      cases b with
      | false => exact behind I9 q9
      | true =>
        refine thnF (pe.run _ s9 σ8 H9 _ I9 q9) fun z s10 ⟨yv, H10, I10, r10, k10⟩ => ?_
        exact thnF (pa _ s10 σ8 H10 (.ref D) [yv] (.ref D) [z] _ I10 rfl (.cons r10 .nil) k10) fun _ s11 ⟨_, H11, I11, _, k11⟩ => behind I11 k11⟩
/-- found.add(t), t a tuple of ints -/
def rAddT (K : PySem.W.Frag) (P : Program) (w : World) : V → List V → Hp → VK → Prop := fun x xs H Q => ∃ (D b : Addr) (k : List Int) (L : List (Addr × List Int)), x = .ref D ∧ xs = [.ref b] ∧ H D = some (SetTO P w D L) ∧ SqT K H b (k.map V.int) ∧
  (∀ p ∈ L, SqT K H p.1 (p.2.map V.int)) ∧ L.length + 1 < 64 ∧ ∀ L', (k ∈ L.map (·.2) → L' = L) → (k ∉ L.map (·.2) → L'.Perm ((b, k) :: L)) → Q .non (upd H D (SetTO P w D L'))
theorem mt_addT (hu : X.A.units + 64 < cLine) : MtR X "set.add" (rAddT X.K X.prog X.w) := by
  intro pins s σ H x xs v us Q I rx rxs h
  obtain ⟨D, b, k, L, rfl, rfl, hD, hb, hL, few, q⟩ := h
  cases rx
  cases rxs with
  | cons ry rt =>
    cases rt
    cases ry
    have R0 : SetT0 X.prog X.w s.heap D L := (I.hok D _ hD).1
    obtain ⟨es, ep, t, R⟩ := R0.full fun p hp => Inv.isT I (hL p hp)
    have hx := Inv.isT I hb
    have hu1 : X.A.in1.units < cLine := by
      show X.A.units + 1 < cLine
      omega
    obtain ⟨o, ho, hex, hd⟩ := R.ob
    have ty : s.TypeIs (.ref D) "set" := ⟨o, ho, by rw [hex.1]⟩
    refine wpAny_call_entry F.slot_set_add ty F.entry_set_add ?_ (F.args_set_add_2 _ _)
    unfold Builtin.«set.add» Builtin.Frozenset.oneOther
    simp only [List.isEmpty_nil, bind_assoc]
    unfold Builtin.Frozenset.addrOf setAdd
    refine wpAny_bind (wpAny_pure (wpAny_bind (wpAny_pure (wpAny_bind (wpAny_holding (wpAny_bind (wpAny_pyHash_tuple hu1 hx ?_)))))))
    refine add_at (s := { s with toks := s.toks + (k.length + 1) }) R hx hu1 few fun c h' L' es' ep' t' sb R' e1 e2 => ?_
    show wpAny _ _ (ret Value.none) _ _ _
    refine wpAny_pure ⟨_, rfl, .non, upd H D (SetTO X.prog X.w D L'), ?_, rfl, q L' e1 e2⟩
    refine I.write (e := D) (t' := s.toks + (k.length + 1)) (by rw [hD]; trivial) (.inl rfl) (fun b u hb hu => (sb.2 b hb).trans hu) ?_ (setTO_new R'.t0)
    obtain ⟨o', ho', _⟩ := R'.ob
    exact ⟨o', ho'⟩
theorem newT {P : Program} {w : World} (H : Hp) (h : Heap) : ObjOk P w H (h.push (freshSet w)) h.objs.size (SetTO P w h.objs.size []) :=
  setTO_new (SetTR.t0 (setTR_fresh (Heap.get?_push_size h rfl)))
end
end E
/-! EngY: sorted({..}) of pairs of ints -/
namespace E
open PySem L2 PySem.Spec PyProof.Rows

def toPair : D → Option (Int × Int)
  | .tup [.int x, .int y] => some (x, y)
  | _ => none
def toPairs : List D → Option (List (Int × Int))
  | [] => some []
  | d :: r => match toPair d, toPairs r with
    | some p, some ps => some (p :: ps)
    | _, _ => none
def pD (p : Int × Int) : D := .tup [.int p.1, .int p.2]
def pL (p : Int × Int) : List Int := [p.1, p.2]
def pOk (p : Int × Int) : Bool := decide (0 ≤ p.1 ∧ p.1 < 1000000 ∧ 0 ≤ p.2 ∧ p.2 < 1000000)
def ltP (p q : Int × Int) : Prop := p.1 < q.1 ∨ p.1 = q.1 ∧ p.2 < q.2
instance (p q : Int × Int) : Decidable (ltP p q) := by unfold ltP; infer_instance
/-- into a row of different ones, in order -/
def insP (p : Int × Int) : List (Int × Int) → List (Int × Int)
  | [] => [p]
  | q :: r => if p = q then q :: r else if ltP p q then p :: q :: r else q :: insP p r
def sortP : List (Int × Int) → List (Int × Int)
  | [] => []
  | p :: r => insP p (sortP r)
theorem mem_insP {p q : Int × Int} : ∀ {r : List (Int × Int)}, q ∈ insP p r ↔ q = p ∨ q ∈ r
  | [] => by simp [insP]
  | z :: r => by
    unfold insP
    split
    · rename_i h; subst h; simp
    · split
      · simp
      · rw [List.mem_cons, mem_insP, List.mem_cons]
        constructor
        · rintro (h | h | h)
          · exact .inr (.inl h)
          · exact .inl h
          · exact .inr (.inr h)
        · rintro (h | h | h)
          · exact .inr (.inl h)
          · exact .inl h
          · exact .inr (.inr h)
theorem mem_sortP {q : Int × Int} : ∀ {r : List (Int × Int)}, q ∈ sortP r ↔ q ∈ r
  | [] => by simp [sortP]
  | p :: r => by rw [sortP, mem_insP, mem_sortP, List.mem_cons]
theorem insP_pw {p : Int × Int} : ∀ {r : List (Int × Int)}, r.Pairwise ltP → (insP p r).Pairwise ltP
  | [], _ => by simp [insP]
  | z :: r, h => by
    rw [List.pairwise_cons] at h
    unfold insP
    split
    · exact List.pairwise_cons.mpr h
    · rename_i h1
      split
      · rename_i h2
        refine List.pairwise_cons.mpr ⟨fun a m => ?_, List.pairwise_cons.mpr h⟩
        rcases List.mem_cons.mp m with m | m
        · subst m; exact h2
        · have := h.1 a m
          unfold ltP at h2 this ⊢
          omega
      · rename_i h2
        refine List.pairwise_cons.mpr ⟨fun a m => ?_, insP_pw h.2⟩
        rcases mem_insP.mp m with m | m
        · subst m
          have h3 : ¬ (a.1 = z.1 ∧ a.2 = z.2) := fun e => h1 (Prod.ext e.1 e.2)
          unfold ltP at h2 ⊢
          omega
        · exact h.1 a m
theorem sortP_pw : ∀ r : List (Int × Int), (sortP r).Pairwise ltP
  | [] => List.Pairwise.nil
  | _ :: r => insP_pw (sortP_pw r)
theorem code_pL (p : Int × Int) : TS.code 1000000 (pL p) = p.1 * 1000000 + p.2 := by
  show p.1 * 1000000 ^ 1 + (p.2 * 1000000 ^ 0 + 0) = _
  have e1 : (1000000 : Int) ^ 1 = 1000000 := by decide
  have e0 : (1000000 : Int) ^ 0 = 1 := by decide
  rw [e1, e0, Int.mul_one, Int.add_zero]
theorem pOk_of {p : Int × Int} (h : pOk p = true) : 0 ≤ p.1 ∧ p.1 < 1000000 ∧ 0 ≤ p.2 ∧ p.2 < 1000000 := of_decide_eq_true h
theorem toPair_eq {d : D} {p : Int × Int} (h : toPair d = some p) : d = pD p := by
  unfold toPair at h
  split at h
  · cases h; rfl
  · cases h
theorem toPairs_app : ∀ {a b : List D} {ps : List (Int × Int)}, toPairs (a ++ b) = some ps → ∃ p1 p2, toPairs a = some p1 ∧ toPairs b = some p2 ∧ ps = p1 ++ p2
  | [], b, ps, h => ⟨[], ps, rfl, h, rfl⟩
  | d :: a, b, ps, h => by
    rw [List.cons_append, toPairs] at h
    split at h
    · rename_i p qs e1 e2
      cases h
      obtain ⟨p1, p2, h1, h2, rfl⟩ := toPairs_app e2
      exact ⟨p :: p1, p2, by rw [toPairs, e1, h1], h2, rfl⟩
    · cases h
theorem toPairs_len : ∀ {a : List D} {ps : List (Int × Int)}, toPairs a = some ps → ps.length = a.length
  | [], _, h => by cases h; rfl
  | d :: a, ps, h => by
    rw [toPairs] at h
    split at h
    · rename_i p qs e1 e2
      cases h
      rw [List.length_cons, List.length_cons, toPairs_len e2]
    · cases h
/-- the row that the library tells is the one that sortP tells -/
theorem sorted_is {ps : List (Int × Int)} {ks : List (List Int)} (hb : ∀ p ∈ ps, pOk p = true) (hm : ∀ k, k ∈ ks ↔ k ∈ ps.map pL) (nd : ks.Nodup) (pw : ks.Pairwise fun a b => TS.code 1000000 a ≤ TS.code 1000000 b) : ks = (sortP ps).map pL := by
  have inj : ∀ p q, pL p = pL q → p = q := fun p q h => by
    unfold pL at h
    injection h with h1 h2
    injection h2 with h2 _
    exact Prod.ext h1 h2
  have nd2 : ((sortP ps).map pL).Nodup := by
    rw [List.nodup_iff_pairwise_ne, List.pairwise_map]
    refine (sortP_pw ps).imp fun {a b} h e => ?_
    have := inj _ _ e
    subst this
    unfold ltP at h
    omega
  have hm2 : ∀ k, k ∈ ks ↔ k ∈ (sortP ps).map pL := fun k => by
    rw [hm, List.mem_map, List.mem_map]
    exact ⟨fun ⟨p, h1, h2⟩ => ⟨p, mem_sortP.mpr h1, h2⟩, fun ⟨p, h1, h2⟩ => ⟨p, mem_sortP.mp h1, h2⟩⟩
  have pm : ks.Perm ((sortP ps).map pL) := (List.perm_ext_iff_of_nodup nd nd2).mpr hm2
  have pw2 : ((sortP ps).map pL).Pairwise fun a b => TS.code 1000000 a ≤ TS.code 1000000 b := by
    rw [List.pairwise_map]
    refine (sortP_pw ps).imp_of_mem fun {a b} ma mb h => ?_
    have ba := pOk_of (hb a (mem_sortP.mp ma))
    have bb := pOk_of (hb b (mem_sortP.mp mb))
    rw [code_pL, code_pL]
    unfold ltP at h
    omega
  refine pm.eq_of_pairwise (fun a b ma mb h1 h2 => ?_) pw pw2
  obtain ⟨p, hp, rfl⟩ := List.mem_map.mp ((hm a).mp ma)
  obtain ⟨q, hq, rfl⟩ := List.mem_map.mp ((hm b).mp (pm.mem_iff.mpr mb))
  rw [code_pL, code_pL] at h1 h2
  have bp := pOk_of (hb p hp)
  have bq := pOk_of (hb q hq)
  congr 1
  exact Prod.ext (by omega) (by omega)
/-- sorted({el for .. in it if tt}), pairs of ints -/
noncomputable def mSortSet (it : M E.It) (vs : List Nat) (b : D → Mem → Res Mem) (tt : M Bool) (el : M D) : M D := fun m => (it m).bind fun r =>
  Res.when (vs.all fun v => decide (v < r.2.env.length)) ((lcM r.1.2 vs b tt el r.1.1 [] ⟨undL vs r.2.env, r.2.hs⟩).bind fun o => (Res.of (toPairs o.1)).bind fun ps =>
    Res.when (decide (ps.length < 63) && ps.all pOk) (.ok (.lst true ((sortP ps).map pD), ⟨restore r.2.env vs o.2.env, o.2.hs⟩)))
theorem lcM_pre {ok : Mem → Prop} {vs : List Nat} {b : D → Mem → Res Mem} {tt : M Bool} {el : M D} : ∀ {xs acc : List D} {m mE : Mem} {res : List D}, lcM ok vs b tt el xs acc m = .ok (res, mE) → ∃ r, res = acc ++ r
  | [], acc, m, mE, res, e => by
    obtain ⟨o, e⟩ := Res.ifP_eq e
    cases e
    exact ⟨[], (List.append_nil _).symm⟩
  | x :: xs, acc, m, mE, res, e => by
    obtain ⟨o, e⟩ := Res.ifP_eq e
    obtain ⟨m1, e1, e⟩ := Res.bind_eq e
    obtain ⟨⟨c, m2⟩, e2, e⟩ := Res.bind_eq e
    dsimp only at e
    split at e
    · obtain ⟨⟨d, m3⟩, e3, e⟩ := Res.bind_eq e
      obtain ⟨_, e⟩ := Res.when_eq e
      obtain ⟨r, rfl⟩ := lcM_pre e
      exact ⟨d :: r, by simp⟩
    · exact lcM_pre e
theorem rep_pair {K : PySem.W.Frag} {W : Wd} {H : Hp} {v : V} {p : Int × Int} {g : List Addr} (r : RepD K W H v (pD p) g) : g = [] ∧ ∃ a, v = .ref a ∧ FzT K W H a ((pL p).map V.int) := by
  cases r with
  | tup h l =>
    cases l with
    | cons r1 l =>
      cases l with
      | cons r2 l =>
        cases l
        cases r1
        cases r2
        exact ⟨rfl, _, rfl, h⟩
theorem rep_pairs {K : PySem.W.Frag} {W : Wd} {H : Hp} : ∀ {L : List (Addr × List Int)} {ps : List (Int × Int)}, L.map (·.2) = ps.map pL → (∀ q ∈ L, FzT K W H q.1 (q.2.map V.int)) → RepL K W H (L.map fun q => V.ref q.1) (ps.map pD) []
  | [], ps, e, _ => by
    cases ps with
    | nil => exact .nil
    | cons p ps => cases e
  | q :: L, ps, e, h => by
    cases ps with
    | nil => cases e
    | cons p ps =>
      rw [List.map_cons, List.map_cons] at e
      injection e with e1 e2
      have h1 := h q (List.mem_cons_self ..)
      rw [e1] at h1
      refine RepL.cons (f := []) (g := []) ?_ (rep_pairs e2 fun r m => h r (List.mem_cons_of_mem _ m))
      exact RepD.tup h1 (RepL.cons (f := []) .int (RepL.cons (f := []) .int .nil))
section
variable {X : Cx} {CT : Nat → Addr} {pi pin : List Nat} {elt tg iter : Expr} {ifs : List Expr} {scope : Scope} {own : List (Str × Nat)} {pos p0 pos' : Pos} {it : M E.It} {b : D → Mem → Res Mem} {tt : M Bool} {el : M D}
theorem tsg {vs : List Nat} (hvs : vs.Nodup) (hpi : ∀ i ∈ pi, i ∉ vs) (hpin : ∀ i, i < X.N.length → i ∉ vs → i ∈ pin) :
    ∀ σ H Q, σ.length = X.N.length → tM X.K CT (mSortSet it vs b tt el) σ H Q → tSg (fun D => SetTO X.prog X.w D []) (rAddT X.K X.prog X.w) (tI X.K CT pi it) (tG X.K CT pin b) (tT X.K CT tt) (tM X.K CT el) vs σ H (fun v H' => rSortedT X.K X.prog X.w [v] H' Q) := fun σ H Q hσ ⟨W, m, fp, d, m', rel, e, k⟩ => by
  obtain ⟨⟨⟨xs, ok⟩, m1⟩, e1, e⟩ := Res.bind_eq e
  obtain ⟨hid, e⟩ := Res.when_eq e
  obtain ⟨⟨res, mE⟩, e2, e⟩ := Res.bind_eq e
  obtain ⟨ps, eps, e⟩ := Res.bind_eq e
  obtain ⟨hok, e⟩ := Res.when_eq e
  cases e
  dsimp only at hid e2 eps hok
  rw [Bool.and_eq_true, decide_eq_true_eq, List.all_eq_true] at hok
  obtain ⟨hlen, hall⟩ := hok
  have eps := Res.of_eq eps
  refine ⟨W, m, fp, (xs, ok), m1, rel, e1, fun J W1 H1 fp1 p1 run D hD => ?_⟩
  dsimp only at run
  have lenEnv : m1.env.length = σ.length := by
    obtain ⟨f, g, _, h1, _⟩ := p1.rel.s
    exact h1.length.symm
  have hidR : ∀ v ∈ vs, hidV (m1.env.getD v .und) = .und ∨ ∃ x, σ[v]? = some (some x) ∧ RepD X.K W1 H1 x (hidV (m1.env.getD v .und)) [] := fun v mv => by
    cases he : m1.env[v]? with
    | none => exact .inl (by rw [List.getD_eq_getElem?_getD, he]; rfl)
    | some dv =>
      have eg : m1.env.getD v .und = dv := by rw [List.getD_eq_getElem?_getD, he]; rfl
      rw [eg]
      unfold hidV
      by_cases pd : dv.pure = true
      · rw [if_pos pd]
        have hu : dv ≠ .und := by intro z; subst z; cases pd
        obtain ⟨f, g, _, h1, _⟩ := p1.rel.s
        obtain ⟨x, A, f1, B, _, s, r, _⟩ := h1.at he hu
        obtain rfl := r.pure pd
        exact .inr ⟨x, s, r⟩
      · rw [if_neg pd]
        exact .inl rfl
  have wiped : ∀ {W2 H2 σ2 m2 fp2}, Rel X.K CT W2 H2 σ2 m2 fp2 → L2.wipe σ2 vs = L2.wipe σ vs → ∃ fp3, Rel X.K CT W2 H2 (L2.wipe σ vs) ⟨undL vs m2.env, m2.hs⟩ fp3 ∧ (∀ a ∈ fp3, a ∈ fp2) := fun {W2 H2 σ2 m2 fp2} r ew => by
    obtain ⟨f, g, rfl, h1, h2⟩ := r.s
    obtain ⟨f', rr, pm, k1⟩ := h1.wipe vs
    rw [ew] at k1
    have pm2 : ((f' ++ g) ++ rr).Perm (f ++ g) := by
      rw [List.perm_iff_count]; intro a
      have := pm.count_eq a
      simp only [List.count_append] at this ⊢; omega
    have nd := pm2.nodup_iff.mpr r.nd
    rw [List.nodup_append] at nd
    refine ⟨f' ++ g, ⟨⟨f', g, rfl, k1, h2⟩, nd.1, fun a z => r.own a (pm2.mem_iff.mp (List.mem_append_left _ z)), r.fix⟩, fun a z => pm2.mem_iff.mp (List.mem_append_left _ z)⟩
  have pw : ∀ i ∈ pi, (L2.wipe σ vs)[i]? = σ[i]? := fun i z => wipe_out (hpi i z)
  -- what holds: acc the items so far, L what the set has
  let Iv : Nat → Wd → Hp → Mem → List Addr → List (Addr × List Int) → List E.D → Prop := fun i W2 H2 m2 fp2 L acc =>
    PostS X.K CT pi W1 H1 σ fp1 m2 (L2.wipe σ vs) W2 H2 fp2 ∧ H2 D = some (SetTO X.prog X.w D L) ∧ (∀ q ∈ L, FzT X.K W2 H2 q.1 (q.2.map V.int)) ∧ (∀ qs, toPairs acc = some qs → ∀ z, z ∈ L.map (·.2) ↔ z ∈ qs.map pL) ∧ L.length ≤ acc.length ∧ D ∉ fp2 ∧ ¬ W2.F D ∧
    (∀ v ∈ vs, v < m2.env.length → m2.env[v]? = some .und) ∧ m2.env.length = m1.env.length ∧ lcM ok vs b tt el (xs.drop i) acc m2 = .ok (res, mE)
  refine ⟨fun i n H2 => n = xs.length - i ∧ ∃ W2 m2 fp2 L acc, Iv i W2 H2 m2 fp2 L acc, ⟨xs.length, rfl, ?_⟩, fun i n H2 ⟨hn, W2, m2, fp2, L, acc, p2, hd, hz, hmem, hle, dfp, dF, un, ln, e3⟩ => ?_⟩
  · obtain ⟨fp3, r3, s3⟩ := wiped p1.rel rfl
    have x := ext_upd (W := W1) (o := SetTO X.prog X.w D []) hD
    refine ⟨W1, ⟨undL vs m1.env, m1.hs⟩, fp3, [], [], ⟨r3.ext x off_nil (fun a _ z => by cases z) rfl (fix_upd r3.fix), x.sub (fun a z => by cases z), fun a z => .inl (s3 a z), pw, by rw [L2.wipe_length]⟩, upd_same, (fun q m => by cases m), (fun qs e z => by cases e; simp), Nat.le_refl _, (fun z => (r3.own D z).2 hD), (fun z => p1.rel.fix D z hD), fun v mv hl => undL_get _ _ (by rw [undL_length] at hl; exact hl) vs mv, undL_length _ _, e2⟩
  have okrun : ok m2 → _ := fun o => run m2 (L2.wipe σ vs) W2 H2 fp2 p2 o i
  cases hx : xs[i]? with
  | none =>
    have hl : xs.length ≤ i := by simpa using hx
    rw [List.drop_of_length_le hl] at e3
    obtain ⟨o, e3⟩ := Res.ifP_eq e3
    cases e3
    refine .inl ⟨(okrun o).2 hl, ?_⟩
    have hm := hmem ps eps
    refine ⟨D, L, 2, 1000000, rfl, hd, fun q m => (hz q m).sq, by decide, fun q m => ?_, fun L' p pm nd few srt hp => ?_⟩
    · obtain ⟨z, hz1, hz2⟩ := List.mem_map.mp ((hm q.2).mp (List.mem_map.mpr ⟨q, m, rfl⟩))
      have bz := pOk_of (hall z hz1)
      rw [← hz2]
      refine ⟨rfl, fun y my => ?_⟩
      rcases List.mem_cons.mp my with rfl | my
      · exact ⟨bz.1, bz.2.1⟩
      · rw [List.mem_singleton.mp my]
        exact ⟨bz.2.2.1, bz.2.2.2⟩
    · have hs : L'.map (·.2) = (sortP ps).map pL := sorted_is hall (fun z => by rw [← hm]; exact (pm.map (·.2)).mem_iff) nd (List.pairwise_map.mpr srt)
      have rl := rep_pairs hs (K := X.K) (W := W2) (H := H2) fun q m => hz q (pm.mem_iff.mp m)
      obtain ⟨f, g, rfl, h1, h2⟩ := p2.rel.s
      have hidE : ∀ v ∈ vs, hidV (m1.env.getD v .und) = .und ∨ ∃ x, σ[v]? = some (some x) ∧ RepD X.K W2 H2 x (hidV (m1.env.getD v .und)) [] := fun v mv => (hidR v mv).imp id fun ⟨x, s, r⟩ => ⟨x, s, r.ext p2.ext p1.rel.off fun a z => by cases z⟩
      have hback : RepS X.K W2 H2 σ (restore m1.env vs mE.env) f := by
        have hin : ∀ v ∈ vs, v < mE.env.length := fun v mv => by
          rw [ln]
          exact of_decide_eq_true ((List.all_eq_true.mp hid) v mv)
        exact h1.unwipe hvs (fun v mv => un v mv (hin v mv)) hidE
      have rel2 : Rel X.K CT W2 H2 σ ⟨restore m1.env vs mE.env, mE.hs⟩ (f ++ g) := ⟨⟨f, g, rfl, hback, h2⟩, p2.rel.nd, p2.rel.own, p2.rel.fix⟩
      refine k _ W2 _ _ [p] ((New.lst p2.rel.fix hp rl).post rel2 (p1.ext.trans p2.ext p1.sub) fun a z => ?_)
      exact (p2.sub a z).elim (p1.sub a) fun y => .inr (p1.ext.there a y)
  | some x =>
    obtain ⟨hl, hx'⟩ := List.getElem?_eq_some_iff.mp hx
    rw [List.drop_eq_getElem_cons hl, hx'] at e3
    obtain ⟨o, e3⟩ := Res.ifP_eq e3
    obtain ⟨m3, e4, e3⟩ := Res.bind_eq e3
    obtain ⟨⟨c, m4⟩, e5, e3⟩ := Res.bind_eq e3
    obtain ⟨g, y⟩ := (okrun o).1 x hx
    refine .inr ⟨g, fun H' => ∃ W2 m2 fp2 L acc, Iv (i + 1) W2 H' m2 fp2 L acc, fun H' q => ⟨n - 1, by omega, by omega, q⟩, fun v H3 hy => ?_⟩
    obtain ⟨W3, rv, x3, i3, fx3⟩ := y v H3 hy
    have r3 : Rel X.K CT W3 H3 (L2.wipe σ vs) m2 fp2 := p2.rel.ext x3 off_nil (fun a _ z => by cases z) i3 fx3
    refine ⟨W3, m2, fp2, x, [], m3, r3, rv, by rw [List.append_nil]; exact p2.rel.nd, Own.nil, e4, fun σ4 W4 H4 fp4 p4 => ?_⟩
    rw [List.append_nil] at p4
    have ew : L2.wipe σ4 vs = L2.wipe σ vs := by
      have := wipe_eq (σ := L2.wipe σ vs) (σ2 := σ4) p4.len (vs := vs) fun j hj => by
        by_cases hjl : j < X.N.length
        · exact p4.pin j (hpin j hjl hj)
        · have l1 : (L2.wipe σ vs).length = X.N.length := by rw [L2.wipe_length]; exact hσ
          rw [List.getElem?_eq_none (by rw [p4.len, l1]; omega), List.getElem?_eq_none (by rw [l1]; omega)]
      rw [this]
      exact wipe_eq (by rw [L2.wipe_length]) fun j hj => wipe_out hj
    refine ⟨ew, W4, m3, fp4, c, m4, p4.rel, e5, fun W5 H5 fp5 p5 => ?_⟩
    have x25 : Ext W2 H2 W5 H5 fp2 := ((x3.sub (fq := fp2) fun a z => by cases z).trans p4.ext (fun a z => .inl z)).trans p5.ext fun a z => (p4.sub a z).imp id (x3.there a)
    have s25 : ∀ a ∈ fp5, a ∈ fp2 ∨ H2 a = none := fun a z => by
      rcases p5.sub a z with z | z
      · exact (p4.sub a z).imp id (x3.there a)
      · exact .inr (x3.there a (p4.ext.there a z))
    have off2 := p2.rel.off
    have hd5 : H5 D = some (SetTO X.prog X.w D L) := x25.keep D _ hd dfp
    have hz5 : ∀ q ∈ L, FzT X.K W5 H5 q.1 (q.2.map V.int) := fun q m => (hz q m).ext x25 off2
    have d5 : D ∉ fp5 := fun z => by
      rcases s25 D z with z | z
      · exact dfp z
      · rw [hd] at z; cases z
    have dF5 : ¬ W5.F D := fun z => by
      rcases x25.fnew D z with z | z | z
      · exact dF z
      · exact dfp z
      · rw [hd] at z; cases z
    have len4 : ∀ {σ2 W2 H2 m2 fp2}, Rel X.K CT W2 H2 σ2 m2 fp2 → σ2.length = σ.length → m2.env.length = m1.env.length := fun r el => by
      obtain ⟨f, g, _, h1, _⟩ := r.s
      rw [← h1.length, el, lenEnv]
    have lenσ4 : σ4.length = σ.length := by rw [p4.len, L2.wipe_length]
    cases c with
    | false =>
      refine iteF ?_
      rw [if_neg Bool.false_ne_true] at e3
      obtain ⟨fp6, r6, s6⟩ := wiped p5.rel ew
      refine ⟨W5, ⟨undL vs m4.env, m4.hs⟩, fp6, L, acc, ⟨r6, p2.ext.trans x25 p2.sub, subT p2.sub (fun a z => s25 a (s6 a z)) p2.ext.there, pw, by rw [L2.wipe_length]⟩, hd5, hz5, hmem, hle, (fun z => d5 (s6 D z)), dF5, fun v mv hl => undL_get _ _ (by rw [undL_length] at hl; exact hl) vs mv, ?_, e3⟩
      rw [undL_length]
      exact len4 p5.rel lenσ4
    | true =>
      refine iteT ?_
      rw [if_pos rfl] at e3
      obtain ⟨⟨dr, m6⟩, e6, e3⟩ := Res.bind_eq e3
      obtain ⟨hsz, e3⟩ := Res.when_eq e3
      -- the item is a pair
      obtain ⟨r, hr⟩ := lcM_pre e3
      have hp := eps
      rw [hr] at hp
      obtain ⟨q1, q2, hq1, hq2, hq⟩ := toPairs_app hp
      obtain ⟨a1, a2, ha1, ha2, ha⟩ := toPairs_app hq1
      have ha2' : ∃ z, toPair dr = some z ∧ a2 = [z] := by
        rw [toPairs] at ha2
        split at ha2
        · rename_i z zs ez ezs
          cases ezs
          cases ha2
          exact ⟨z, ez, rfl⟩
        · cases ha2
      obtain ⟨z, hz0, rfl⟩ := ha2'
      have hdr := toPair_eq hz0
      subst hdr
      refine ⟨W5, m4, fp5, pD z, m6, p5.rel, e6, fun y6 W6 H6 fp6 fd6 p6 => ?_⟩
      obtain ⟨rfl, ad, rfl, hF⟩ := rep_pair p6.rep
      have hd6 : H6 D = some (SetTO X.prog X.w D L) := p6.ext.keep D _ hd5 d5
      have hz6 : ∀ q ∈ L, FzT X.K W6 H6 q.1 (q.2.map V.int) := fun q m => (hz5 q m).ext p6.ext p5.rel.off
      have hlL : L.length + 1 < 64 := by
        have h1 := toPairs_len hp
        have h2 := toPairs_len ha1
        have h3 := congrArg List.length hq
        have h4 := congrArg List.length ha
        rw [List.length_append] at h1 h3 h4
        rw [List.length_append] at h1
        simp only [List.length_singleton] at h1 h4
        omega
      have nd6 : D ∉ fp6 := fun w => by
        rcases p6.sub D (List.mem_append_left _ w) with w | w
        · exact d5 w
        · rw [hd5] at w; cases w
      have dF6 : ¬ W6.F D := fun w => by
        rcases p6.ext.fnew D w with w | w | w
        · exact dF5 w
        · exact d5 w
        · rw [hd5] at w; cases w
      refine ⟨D, ad, pL z, L, rfl, rfl, hd6, hF.sq, fun q m => (hz6 q m).sq, hlL, fun L' c1 c2 => ?_⟩
      have xD : Ext W6 H6 W6 (upd H6 D (SetTO X.prog X.w D L')) [D] := ⟨fun _ h => h, fun _ _ h => h, fun a o h n => by rw [upd_ne (fun z => n (by simp [z]))]; exact h, fun _ h => .inl h, fun a h => by
        by_cases e : a = D
        · subst e; rw [upd_same] at h; cases h
        · rw [upd_ne e] at h; exact h⟩
      have offD : Off W6 [D] := fun a w => by
        rw [List.mem_singleton.mp w]
        exact dF6
      have fixD : Fix W6 (upd H6 D (SetTO X.prog X.w D L')) := fix_upd p6.rel.fix
      obtain ⟨fp7, r7, s7⟩ := wiped p6.rel ew
      have r8 := r7.ext xD offD (fun a w y => nd6 (by rw [List.mem_singleton.mp y] at w; exact s7 D w)) rfl fixD
      have x26 : Ext W2 H2 W6 H6 fp2 := x25.trans p6.ext s25
      have x28 : Ext W1 H1 W6 (upd H6 D (SetTO X.prog X.w D L')) fp1 := ⟨fun a h => p2.ext.fm a h |> x26.fm a, fun n a h => x26.im n a (p2.ext.im n a h), fun a o h n => by
          have e : a ≠ D := fun e => by subst e; rw [hD] at h; cases h
          rw [upd_ne e]
          exact (p2.ext.trans x26 p2.sub).keep a o h n, fun a h => (p2.ext.trans x26 p2.sub).fnew a h, fun a h => (p2.ext.trans x26 p2.sub).there a (xD.there a h)⟩
      have s26 : ∀ a ∈ fp6, a ∈ fp1 ∨ H1 a = none := fun a w => by
        rcases p6.sub a (List.mem_append_left _ w) with w | w
        · rcases s25 a w with w | w
          · exact p2.sub a w
          · exact .inr (p2.ext.there a w)
        · exact .inr (p2.ext.there a (x25.there a w))
      have memL : ∀ q, q ∈ L' → q ∈ L ∨ q = (ad, pL z) := fun q m => by
        by_cases c : pL z ∈ L.map (·.2)
        · rw [c1 c] at m; exact .inl m
        · rcases List.mem_cons.mp ((c2 c).mem_iff.mp m) with m | m
          · exact .inr m
          · exact .inl m
      refine ⟨W6, ⟨undL vs m6.env, m6.hs⟩, fp7, L', acc ++ [pD z], ⟨r8, x28, fun a w => s26 a (s7 a w), pw, by rw [L2.wipe_length]⟩, upd_same, fun q m => ?_, fun qs eq w => ?_, ?_, (fun w => nd6 (s7 D w)), dF6, fun v mv hl => undL_get _ _ (by rw [undL_length] at hl; exact hl) vs mv, ?_, e3⟩
      · have : FzT X.K W6 H6 q.1 (q.2.map V.int) := by
          rcases memL q m with m | m
          · exact hz6 q m
          · subst m; exact hF
        exact this.ext xD offD
      · obtain ⟨b1, b2, hb1, hb2, rfl⟩ := toPairs_app eq
        have : b2 = [z] := by
          rw [ha2] at hb2
          cases hb2
          rfl
        subst this
        have key := hmem b1 hb1
        rw [List.map_append, List.mem_append, ← key w]
        by_cases c : pL z ∈ L.map (·.2)
        · rw [c1 c]
          constructor
          · exact .inl
          · rintro (h | h)
            · exact h
            · rw [List.map_cons, List.map_nil, List.mem_singleton] at h
              rw [h]; exact c
        · rw [((c2 c).map (·.2)).mem_iff, List.map_cons, List.mem_cons, List.map_cons, List.map_nil, List.mem_singleton]
          exact ⟨fun h => h.symm, fun h => h.symm⟩
      · rw [List.length_append, List.length_singleton]
        by_cases c : pL z ∈ L.map (·.2)
        · rw [c1 c]; omega
        · rw [(c2 c).length_eq, List.length_cons]; omega
      · rw [undL_length]
        exact len4 p6.rel lenσ4
theorem pe_weakN' {e : Expr} {t t' : TE} (h : PE X e t) (k : ∀ σ H Q, σ.length = X.N.length → t' σ H Q → t σ H Q) : PE X e t' := pe_weakN h k
theorem me_sortSet (hc : X.calm = true) (hN : X.N.Nodup) (hu : X.A.units + 64 < cLine) (hsg : Gl X "sorted") (hsm : X.mg "sorted" = none) (hi : MI X CT pi tg iter it) (ok : BlkOk X.N X.env.scope scope own)
    (hg : ∀ (s : Shared) (H : Hp) (C : Addr) (cl : List (Str × Addr)) (fp : List Addr), MG (X.blk s H scope (compEnvC scope cl C X.env) fp) CT pin tg b) (ht : ∀ (s : Shared) (H : Hp) (C : Addr) (cl : List (Str × Addr)) (fp : List Addr), MTs (X.blk s H scope (compEnvC scope cl C X.env) fp) CT ifs tt)
    (he : ∀ (s : Shared) (H : Hp) (C : Addr) (cl : List (Str × Addr)) (fp : List Addr), ME (X.blk s H scope (compEnvC scope cl C X.env) fp) CT elt el)
    (hvs : (own.map (·.2)).Nodup) (hpi : ∀ i ∈ pi, i ∉ own.map (·.2)) (hpin : ∀ i, i < X.N.length → i ∉ own.map (·.2) → i ∈ pin) (hs : ∀ x, foldedSetIterable iter X.env x = pure x := by intro _; rfl)
    (na : starEach [.SetComp elt [⟨tg, iter, ifs, 0⟩] scope pos] X.env = (false, eval (.SetComp elt [⟨tg, iter, ifs, 0⟩] scope pos) X.env) :: starEach [] X.env := by rfl) :
    ME X CT (.Call (.Name "sorted" p0) [.SetComp elt [⟨tg, iter, ifs, 0⟩] scope pos] [] pos') (mSortSet it (own.map (·.2)) b tt el) :=
  pe_weakN (pe_callB (cr_sortedT hc) hsg hsm (by decide +kernel) (pa_cons (pe_sg (O0 := fun D => SetTO X.prog X.w D []) (r := rAddT X.K X.prog X.w) (g := tG X.K CT pin b) (tt := tT X.K CT tt) (te := tM X.K CT el) hc hN hi ok (fun H h => newT H h) hg ht he (fun s H C cl fp => mt_addT (X := X.blk s H scope (compEnvC scope cl C X.env) fp) hu) hs) pa_nil na)) fun σ H Q hσ q => tsg hvs hpi hpin σ H Q hσ q
end
end E
/-! EngZ: max of a list of pairs of ints -/
namespace E
open PySem L2 PySem.Spec PyProof.Rows

/-- all that h has, h' has -/
abbrev Kp (h h' : Heap) : Prop := ∀ b o, h.get? b = some o → h'.get? b = some o
section
variable {prog : Program} {w : World} {A : Around} {R : Result → Shared → Prop} {h0 : Heap} {I S l : Addr} {vs : Array Value} {bt : Nat → Nat → Bool}
/-- the place where the best value stands -/
abbrev bestList (v : Value) (c : Nat) : Obj := { cls := .type "list", dict := none, data := .seq #[v, v] c, slots := #[] }
/-- > of two of the values, wherever the old heap is kept -/
def GtIn (prog : Program) (w : World) (A : Around) (h0 : Heap) (vs : Array Value) (bt : Nat → Nat → Bool) : Prop :=
  ∀ (i j : Nat) (x y : Value) (s : Shared), vs[i]? = some x → vs[j]? = some y → Kp h0 s.heap → ∀ (Q E : Value → Shared → Prop), Q (.bool (bt i j)) s → wpAny (model prog w) A (richCompare .Gt x y) Q E s
theorem max_turns {s0 : Shared} (hh : A.handled = none) (hne : l ≠ I) (cmp : GtIn prog w A.in1 h0 vs bt) (hI : h0.get? I = none) (hS : h0.get? S = none) (sI : S ≠ I) (sl : S ≠ l) (ll : ∃ o, h0.get? l = some o)
    (hR : ∀ v h' tk, vs[argBest bt (vs.size - 1)]? = some v → Kp h0 h' → R (.ok (.ret v)) { s0 with heap := h', toks := tk }) :
    ∀ (k j : Nat) (h : Heap) (t : Nat) (v : Value) (c : Nat), vs.size - (j + 1) = k → j + 1 ≤ vs.size → (h.IsListIter I l (j + 1) ∧ h.IsList l vs) → vs[argBest bt j]? = some v → h.get? S = some (bestList v c) → Kp h0 h →
    codeAny (model prog w) A (.builtin "max.loop" ⟨[.ref I, .none, .ref S], []⟩) R { s0 with heap := h, toks := t } := by
  have W := Walks.list (prog := prog) (w := w) (A := A.in1) hh I l hne vs
  have iw : ∀ {h h' : Heap}, (∀ b o, b ∉ [I] → h.get? b = some o → h'.get? b = some o) → Kp h0 h → Kp h0 h' := fun k kk b o e => k b o (fun m => by rw [List.mem_singleton.mp m, hI] at e; cases e) (kk b o e)
  intro k
  induction k with
  | zero =>
    intro j h t v c hk hj st hb hs kk
    refine codeAny_builtin PySem.F.entry_max_loop ?_
    rw [Around.under_plainId PySem.F.plain_max_loop _]
    show wpAny _ _ (seqItems? (Value.ref S) >>= _) _ _ _
    refine wpAny_bind (wpAny_seqItems hs rfl ?_)
    show wpAny _ _ (tryCatch (pyNext (Value.ref I)) _ >>= _) _ _ _
    refine wpAny_bind (wpAny_tryCatch (W.done _ _ _ ((show j + 1 = vs.size by omega) ▸ st) fun h' tk hk' => ?_))
    show wpAny _ _ (updateSeq S (fun _ : Array Value => #[]) >>= _) _ _ _
    refine wpAny_bind (wpAny_updateSeq (hk' S _ (fun m => sI (List.mem_singleton.mp m)) hs) rfl (wpAny_bind (wpAny_letGo (wpAny_pure ?_))))
    exact hR v _ tk ((show j = vs.size - 1 by omega) ▸ hb) fun b o e => (Heap.get?_update_other _ _ (fun z : S = b => by rw [← z, hS] at e; cases e)).trans (iw hk' kk b o e)
  | succ k ih =>
    intro j h t v c hk hj st hb hs kk
    refine codeAny_builtin PySem.F.entry_max_loop ?_
    rw [Around.under_plainId PySem.F.plain_max_loop _]
    show wpAny _ _ (seqItems? (Value.ref S) >>= _) _ _ _
    refine wpAny_bind (wpAny_seqItems hs rfl ?_)
    show wpAny _ _ (tryCatch (pyNext (Value.ref I)) _ >>= _) _ _ _
    refine wpAny_bind (wpAny_tryCatch (W.item (j + 1) _ _ _ (by omega) st fun x h' tk hx st' hk' => ?_))
    have hs' := hk' S _ (fun m => sI (List.mem_singleton.mp m)) hs
    show wpAny _ _ (tryCatch (holding [x, x] (richCompare .Gt x v >>= _)) _ >>= _) _ _ _
    refine wpAny_bind (wpAny_tryCatch (wpAny_holding (wpAny_bind (cmp (j + 1) (argBest bt j) x v _ hx hb (iw hk' kk) _ _ ?_))))
    refine wpAny_bind (wpAny_holding (wpAny_truthy_bool (wpAny_bind (wpAny_letGo (wpAny_pure ?_)))))
    have hname : toString "max" ++ toString ".loop" = "max.loop" := by decide
    cases hc : bt (j + 1) (argBest bt j) with
    | true =>
      simp only [if_true]
      refine wpAny_bind (wpAny_updateSeq hs' rfl (wpAny_bind (wpAny_letGo ?_)))
      rw [hname]
      refine wpAny_pure ⟨plainId_quiet PySem.F.plain_max_loop _, ih (j + 1) _ _ x _ (by omega) (by omega) (W.frame _ _ _ st' fun b hbf o e => ?_) (by simp only [argBest, hc, if_true]; exact hx) (Heap.get?_update_self _ hs' rfl) fun b o e => ?_⟩
      · refine (Heap.get?_update_other _ _ (fun z : S = b => ?_)).trans e
        rw [← z] at hbf
        rcases List.mem_cons.mp hbf with m | m
        · exact sI m
        · exact sl (List.mem_singleton.mp m)
      · exact (Heap.get?_update_other _ _ (fun z : S = b => by rw [← z, hS] at e; cases e)).trans (iw hk' kk b o e)
    | false =>
      simp only [Bool.false_eq_true, if_false]
      refine wpAny_bind (wpAny_letGo ?_)
      rw [hname]
      exact wpAny_pure ⟨plainId_quiet PySem.F.plain_max_loop _, ih (j + 1) _ _ v c (by omega) (by omega) st' (by simp only [argBest, hc, Bool.false_eq_true, if_false]; exact hb) hs' (iw hk' kk)⟩
theorem max_rows {E : Value → Shared → Prop} {s : Shared} {Q : Value → Shared → Prop} (hh : A.handled = none) (hl : s.heap.IsList l vs) (hn : 0 < vs.size) (cmp : GtIn prog w A.in1 s.heap vs bt)
    (hQ : ∀ v h' tk, vs[argBest bt (vs.size - 1)]? = some v → Kp s.heap h' → Q v { s with heap := h', toks := tk }) : wpAny (model prog w) A (call (.builtin "max") [.ref l]) Q E s := by
  have hname : toString "max" ++ toString ".loop" = "max.loop" := by decide
  have lt : l < s.heap.objs.size := by obtain ⟨_, e, _⟩ := hl; exact Heap.lt_size e
  refine call_function_tree PySem.F.kind_max PySem.F.plain_max PySem.F.entry_max (PySem.F.args_max1 _) ?_
  show wpAny _ _ (Builtin.Builtins.bindParams "max" ["key", "default"] 0 ⟨[], []⟩ >>= _) _ _ s
  have bp : Builtin.Builtins.bindParams "max" ["key", "default"] 0 ⟨[], []⟩ = pure [none, none] := rfl
  refine wpAny_bind (wpAny_of_eq bp ?_)
  refine wpAny_bind (wpAny_pure (wpAny_bind (wpAny_pyIter_list hl ?_)))
  refine wpAny_bind (wpAny_newObj_type ?_)
  rw [hname]
  -- the iterator at n, the list of the best at n + 1
  generalize hn0 : s.heap.objs.size = n0
  have lne : l ≠ n0 := by rw [← hn0]; exact Nat.ne_of_lt lt
  have ln : l ≠ n0 + 1 := by rw [← hn0]; exact Nat.ne_of_lt (Nat.lt_succ_of_lt lt)
  have n1 : n0 + 1 ≠ n0 := Nat.succ_ne_self n0
  have hf0 : s.heap.get? n0 = none := by rw [← hn0]; exact Heap.get?_none_of_le (Nat.le_refl _)
  have hf1 : s.heap.get? (n0 + 1) = none := Heap.get?_none_of_le (by rw [hn0]; exact Nat.le_succ n0)
  have W := Walks.list (prog := prog) (w := w) (A := A.in1) hh n0 l lne vs
  have hS0 : (s.heap.push { cls := .type "list_iterator", data := .fields #[.ref l, .int 0 0] }).objs.size = n0 + 1 := by rw [Heap.size_push, hn0]
  have g1 : (s.heap.push { cls := .type "list_iterator", data := .fields #[.ref l, .int 0 0] }).get? n0 = some { cls := .type "list_iterator", data := .fields #[.ref l, .int 0 0] } := by rw [← hn0]; exact Heap.get?_push_size _ rfl
  have k1 : Kp s.heap (s.heap.push { cls := .type "list_iterator", data := .fields #[.ref l, .int 0 0] }) := fun b o e => Heap.get?_push_of_some _ e
  generalize s.heap.push { cls := .type "list_iterator", data := .fields #[.ref l, .int 0 0] } = h1 at hS0 g1 k1
  dsimp only
  rw [hS0]
  have g2 : (h1.push { cls := .type "list", data := .seq #[] }).get? (n0 + 1) = some { cls := .type "list", dict := none, data := .seq #[] 0, slots := #[] } := by rw [← hS0]; exact Heap.get?_push_size _ rfl
  have k2 : Kp h1 (h1.push { cls := .type "list", data := .seq #[] }) := fun b o e => Heap.get?_push_of_some _ e
  generalize h1.push { cls := .type "list", data := .seq #[] } = h2 at g2 k2
  have st0 : h2.IsListIter n0 l 0 ∧ h2.IsList l vs := ⟨⟨_, k2 _ _ g1, rfl, rfl⟩, hl.at fun o e => k2 _ _ (k1 _ _ e)⟩
  refine wpAny_pure ⟨plainId_quiet PySem.F.plain_max_loop _, ?_⟩
  show codeAny (model prog w) A (.builtin "max.loop" ⟨[.ref n0, .none, .ref (n0 + 1)], []⟩) _ _
  refine codeAny_builtin PySem.F.entry_max_loop ?_
  rw [Around.under_plainId PySem.F.plain_max_loop _]
  show wpAny _ _ (seqItems? (Value.ref (n0 + 1)) >>= _) _ _ _
  refine wpAny_bind (wpAny_seqItems g2 rfl ?_)
  show wpAny _ _ (tryCatch (pyNext (Value.ref n0)) _ >>= _) _ _ _
  refine wpAny_bind (wpAny_tryCatch (W.item 0 _ _ _ hn st0 fun x h' tk hx st' hk' => ?_))
  have kI : Kp s.heap h' := fun b o e => hk' b o (fun m => by rw [List.mem_singleton.mp m, hf0] at e; cases e) (k2 _ _ (k1 _ _ e))
  have hs' := hk' (n0 + 1) _ (fun m => n1 (List.mem_singleton.mp m)) g2
  show wpAny _ _ (updateSeq (n0 + 1) (fun _ : Array Value => #[x, x]) >>= _) _ _ _
  refine wpAny_bind (wpAny_updateSeq hs' rfl ?_)
  rw [hname]
  refine wpAny_pure ⟨plainId_quiet PySem.F.plain_max_loop _, max_turns (s0 := s) (vs := vs) (bt := bt) (l := l) hh lne (fun i j x y s h1 h2 h3 => cmp i j x y s h1 h2 h3) hf0 hf1 n1 (fun z => ln z.symm) (by obtain ⟨o, e, _⟩ := hl; exact ⟨o, e⟩) (fun v h'' tk hv kk => ?_) _ 0 _ _ x _ rfl hn (W.frame _ _ _ st' fun b hbf o e => ?_) hx (Heap.get?_update_self _ hs' rfl) fun b o e => ?_⟩
  · exact hQ v h'' tk hv kk
  · refine (Heap.get?_update_other _ _ (fun z : n0 + 1 = b => ?_)).trans e
    rw [← z] at hbf
    rcases List.mem_cons.mp hbf with m | m
    · exact n1 m
    · exact ln (List.mem_singleton.mp m).symm
  · exact (Heap.get?_update_other _ _ (fun z : n0 + 1 = b => by rw [← z, hf1] at e; cases e)).trans (kI b o e)
end
/-! ### by data -/
def rMaxT (K : PySem.W.Frag) : List V → Hp → VK → Prop := fun xs H Q => ∃ (l : Addr) (ks : List (Addr × List Int)) (p : Addr × List Int), xs = [V.ref l] ∧ SqL K H l (ks.map fun p => V.ref p.1) ∧ (∀ p ∈ ks, SqT K H p.1 (p.2.map V.int)) ∧ 0 < ks.length ∧
  ks[argBest (fun i j => tupGt (ks.getD i (0, [])).2 (ks.getD j (0, [])).2) (ks.length - 1)]? = some p ∧ Q (.ref p.1) H
theorem rc_gt {A : Around} {s : Shared} {a b : Addr} {its its2 : List Value} {ns ms : List Int} (p1 : s.heap.IsTuple a its.toArray) (p2 : s.heap.IsTuple b its2.toArray) (i1 : IntsAre its ns) (i2 : IntsAre its2 ms) (hu : A.units < cLine) : Ob.RcOp .Gt A s (.ref a) (.ref b) (tupGt ns ms) := by
  have e1 : its.toArray.size = ns.length := by rw [List.size_toArray]; exact i1.length
  have e2 : its2.toArray.size = ms.length := by rw [List.size_toArray]; exact i2.length
  have at1 : ∀ j (h1 : j < its.toArray.size), ∃ t, its.toArray[j] = .int (ns.getD j 0) t := fun j h1 => PyProof.Rows.IntsAre.int_at i1 _ _ (by simp at h1; simp [h1])
  have at2 : ∀ j (h1 : j < its2.toArray.size), ∃ t, its2.toArray[j] = .int (ms.getD j 0) t := fun j h1 => PyProof.Rows.IntsAre.int_at i2 _ _ (by simp at h1; simp [h1])
  have R := Ob.RcOp.tuples_gt (A := A) (s := s) (e := fun j => decide (ns.getD j 0 = ms.getD j 0)) (r := fun j => gtI (ns.getD j 0) (ms.getD j 0)) p1 p2 hu (fun j h1 h2 => by
    obtain ⟨t, et⟩ := at1 j h1
    obtain ⟨t', et'⟩ := at2 j h2
    rw [et, et']
    have z : (ns.getD j 0 == ms.getD j 0) = decide (ns.getD j 0 = ms.getD j 0) := by
      by_cases q : ns.getD j 0 = ms.getD j 0
      · rw [decide_eq_true q]; exact beq_iff_eq.mpr q
      · rw [decide_eq_false q]; exact beq_eq_false_iff_ne.mpr q
    rw [← z]
    exact SeqAt.EqAt.int_int _ _ _ _) (fun j h1 h2 _ => by
    obtain ⟨t, et⟩ := at1 j h1
    obtain ⟨t', et'⟩ := at2 j h2
    rw [et, et']
    exact Ob.RcOp.gt_int _ _ _ _)
  rw [e1, e2] at R
  have hB := lexAt_B gtI (fun n m => decide (n > m)) (fun a b => by simp) (min ns.length ms.length) ns ms 0 (Nat.zero_le _) (Nat.zero_le _) (by simp)
  rw [List.drop_zero, List.drop_zero] at hB
  rw [hB] at R
  exact R
theorem cr_maxT {X : Cx} (hc : X.calm = true) (hu : X.A.units + 64 < cLine) : CallR X (.builtin "max") (rMaxT X.K) := by
  intro pins s σ H xs us Q I r h
  obtain ⟨l, ks, p, rfl, hl, hk, hn, hp, q⟩ := h
  rw [Vals.ref1 r]
  obtain ⟨its, rv, pl, _⟩ := I.list hl
  have e : its = ks.map fun p => Value.ref p.1 := refs_of_vals rv
  subst e
  have at1 : ∀ {i : Nat} {x : Value}, (ks.map fun p => Value.ref p.1).toArray[i]? = some x → ∃ z, ks[i]? = some z ∧ x = .ref z.1 := fun {i x} e => by
    rw [List.getElem?_toArray, List.getElem?_map, Option.map_eq_some_iff] at e
    obtain ⟨z, e1, e2⟩ := e
    exact ⟨z, e1, e2.symm⟩
  refine max_rows (vs := (ks.map fun p => Value.ref p.1).toArray) (bt := fun i j => tupGt (ks.getD i (0, [])).2 (ks.getD j (0, [])).2) (I.ok.hd hc) pl.isList (by simpa using hn) (fun i j x y s' ei ej kp Q' E' q' => ?_) fun v h' tk ev kp => ?_
  · obtain ⟨z, ez, rfl⟩ := at1 ei
    obtain ⟨z', ez', rfl⟩ := at1 ej
    obtain ⟨i1, r1, ⟨o1, ho1, hc1, n1, hd1⟩, _⟩ := I.tuple (hk z (List.mem_of_getElem? ez))
    obtain ⟨i2, r2, ⟨o2, ho2, hc2, n2, hd2⟩, _⟩ := I.tuple (hk z' (List.mem_of_getElem? ez'))
    have g := rc_gt (A := X.A.in1) (s := s') ⟨o1, kp _ _ ho1, hc1, n1, hd1⟩ ⟨o2, kp _ _ ho2, hc2, n2, hd2⟩ (Vals.ints r1) (Vals.ints r2) (by show X.A.units + 1 < cLine; omega)
    refine g _ _ _ _ ?_
    dsimp only at q'
    rw [List.getD_eq_getElem?_getD, List.getD_eq_getElem?_getD, ez, ez'] at q'
    exact q'
  · obtain ⟨z, ez, rfl⟩ := at1 ev
    have : z = p := by
      rw [List.size_toArray, List.length_map, hp] at ez
      exact (Option.some.inj ez).symm
    subst this
    exact ⟨.ref z.1, H, I.kept kp, rfl, q⟩
/-- the first of the greatest pairs -/
def maxP : (Int × Int) → List (Int × Int) → Int × Int
  | b, [] => b
  | b, p :: r => maxP (if ltP b p then p else b) r
/-- the greatest of a list of ints, of pairs of ints -/
def maxI : Int → List Int → Int
  | b, [] => b
  | b, p :: r => maxI (if b < p then p else b) r
theorem maxP_snoc (p : Int × Int) : ∀ (b : Int × Int) (l : List (Int × Int)), maxP b (l ++ [p]) = if ltP (maxP b l) p then p else maxP b l
  | b, [] => rfl
  | b, x :: l => by rw [List.cons_append, maxP, maxP_snoc p _ l, maxP]
theorem tupGt_pL (p q : Int × Int) : tupGt (pL p) (pL q) = decide (ltP q p) := by
  unfold tupGt pL
  simp only [lexB]
  unfold gtI ltP
  by_cases h : p.1 = q.1
  · by_cases h2 : p.2 = q.2
    · simp [h, h2]
    · simp [h, h2]
  · have : ¬ q.1 = p.1 := fun e => h e.symm
    simp [h, this]
theorem argBest_maxP (p : Int × Int) (ps : List (Int × Int)) {bt : Nat → Nat → Bool} (hb : ∀ i j, i < (p :: ps).length → j < (p :: ps).length → bt i j = tupGt (pL ((p :: ps).getD i (0, 0))) (pL ((p :: ps).getD j (0, 0)))) :
    ∀ k, k ≤ ps.length → argBest bt k ≤ k ∧ (p :: ps)[argBest bt k]? = some (maxP p (ps.take k))
  | 0, _ => ⟨Nat.le_refl _, rfl⟩
  | k + 1, h => by
    obtain ⟨h1, h2⟩ := argBest_maxP p ps hb k (by omega)
    have e : ps.take (k + 1) = ps.take k ++ [ps[k]] := by
      rw [List.take_add_one, List.getElem?_eq_getElem (by omega)]
      rfl
    have c := hb (k + 1) (argBest bt k) (by rw [List.length_cons]; omega) (by rw [List.length_cons]; omega)
    rw [List.getD_eq_getElem?_getD, List.getD_eq_getElem?_getD, h2, List.getElem?_cons_succ, List.getElem?_eq_getElem (by omega), Option.getD_some, Option.getD_some, tupGt_pL] at c
    rw [argBest, c, e, maxP_snoc]
    by_cases l : ltP (maxP p (ps.take k)) ps[k]
    · rw [decide_eq_true l, if_pos rfl, if_pos l]
      exact ⟨Nat.le_refl _, by rw [List.getElem?_cons_succ, List.getElem?_eq_getElem (by omega)]⟩
    · rw [decide_eq_false l, if_neg (by decide), if_neg l]
      exact ⟨by omega, h2⟩
theorem maxI_is : ∀ (b : Int) (l : List Int), (maxI b l = b ∨ maxI b l ∈ l) ∧ b ≤ maxI b l ∧ ∀ y ∈ l, y ≤ maxI b l
  | b, [] => ⟨.inl rfl, Int.le_refl _, fun y m => by cases m⟩
  | b, x :: l => by
    rw [maxI]
    obtain ⟨h1, h2, h3⟩ := maxI_is (if b < x then x else b) l
    have h4 : b ≤ (if b < x then x else b) ∧ x ≤ (if b < x then x else b) ∧ ((if b < x then x else b) = x ∨ (if b < x then x else b) = b) := by
      split <;> omega
    generalize (if b < x then x else b) = c at h1 h2 h3 h4
    obtain ⟨h4, h5, h6⟩ := h4
    refine ⟨?_, Int.le_trans h4 h2, fun y m => ?_⟩
    · rcases h1 with h1 | h1
      · rw [h1]
        rcases h6 with rfl | rfl
        · exact .inr (List.mem_cons_self ..)
        · exact .inl rfl
      · exact .inr (List.mem_cons_of_mem _ h1)
    · rcases List.mem_cons.mp m with rfl | m
      · exact Int.le_trans h5 h2
      · exact h3 y m
@[simp] def dMaxL : List D → Res D
  | [.lst _ xs] => match toInts xs with
    | some (n :: ns) => .ok (.int (maxI n ns))
    | _ => match toPairs xs with
      | some (p :: ps) => .ok (pD (maxP p ps))
      | _ => .fail
  | _ => .fail
theorem rep_pairsI {K : PySem.W.Frag} {W : Wd} {H : Hp} : ∀ {ps : List (Int × Int)} {ds : List D} {vs : List V} {g : List Addr}, toPairs ds = some ps → RepL K W H vs ds g → ∃ ks : List (Addr × List Int), vs = ks.map (fun p => V.ref p.1) ∧ ks.map (·.2) = ps.map pL ∧ ∀ q ∈ ks, FzT K W H q.1 (q.2.map V.int)
  | ps, [], vs, g, e, l => by
    cases e
    cases l
    exact ⟨[], rfl, rfl, fun q m => by cases m⟩
  | ps, d :: ds, vs, g, e, l => by
    rw [toPairs] at e
    split at e
    · rename_i p qs e1 e2
      cases e
      cases l with
      | cons r l =>
        rw [toPair_eq e1] at r
        obtain ⟨rfl, a, rfl, hF⟩ := rep_pair r
        obtain ⟨ks, rfl, h1, h2⟩ := rep_pairsI e2 l
        refine ⟨(a, pL p) :: ks, rfl, by rw [List.map_cons, List.map_cons, h1], fun q m => ?_⟩
        rcases List.mem_cons.mp m with rfl | m
        · exact hF
        · exact h2 q m
    · cases e
theorem RepD.lstS {K : PySem.W.Frag} {W : Wd} {H : Hp} {v : V} {o : Bool} {ds : List D} {g : List Addr} (r : RepD K W H v (.lst o ds) g) : ∃ a vs g', v = .ref a ∧ SqL K H a vs ∧ RepL K W H vs ds g' := by
  cases r with
  | lstF h l => exact ⟨_, _, _, rfl, h.sq, l⟩
  | lstO h l => exact ⟨_, _, _, rfl, .inl (.inl h), l⟩
theorem cd_maxL {X : Cx} (hc : X.calm = true) (hu : X.A.units + 64 < cLine) : CallD X (.builtin "max") dMaxL := by
  refine ⟨fun xs H Q => rMax X.K xs H Q ∨ rMaxT X.K xs H Q, fun pins s σ H xs us Q I r h => h.elim (cr_max hc pins s σ H xs us Q I r) (cr_maxT hc hu pins s σ H xs us Q I r), fun W H xs ds fs d Q x0 l e q => ?_⟩
  unfold dMaxL at e
  split at e
  · rename_i o es
    cases l with
    | cons r l =>
      cases l
      obtain ⟨a, vs, g', rfl, hs, l⟩ := r.lstS
      split at e
      · rename_i n ns en
        cases e
        rw [toInts_eq en] at l
        obtain ⟨rfl, _⟩ := repI l
        obtain ⟨h1, h2, h3⟩ := maxI_is n ns
        refine .inl ⟨a, n :: ns, rfl, hs, by simp, fun m hm hy => ?_⟩
        have : m = maxI n ns := by
          have b1 : m ≤ maxI n ns := by
            rcases List.mem_cons.mp hm with rfl | hm
            · exact h2
            · exact h3 m hm
          have b2 : maxI n ns ≤ m := hy _ (by
            rcases h1 with h1 | h1
            · rw [h1]; exact List.mem_cons_self ..
            · exact List.mem_cons_of_mem _ h1)
          omega
        rw [this]
        exact q _ W H [] (New.sc x0 .int)
      · split at e
        · rename_i p ps ep
          cases e
          obtain ⟨ks, rfl, h1, h2⟩ := rep_pairsI ep l
          have hlen : ks.length = (p :: ps).length := by
            have := congrArg List.length h1
            simpa using this
          have get : ∀ i, i < (p :: ps).length → (ks.getD i (0, [])).2 = pL ((p :: ps).getD i (0, 0)) := fun i hi => by
            have e1 := congrArg (fun l => l[i]?) h1
            simp only [List.getElem?_map] at e1
            rw [List.getElem?_eq_getElem (by omega), List.getElem?_eq_getElem hi] at e1
            rw [List.getD_eq_getElem?_getD, List.getD_eq_getElem?_getD, List.getElem?_eq_getElem (by omega), List.getElem?_eq_getElem hi]
            exact Option.some.inj e1
          obtain ⟨b1, b2⟩ := argBest_maxP p ps (bt := fun i j => tupGt (ks.getD i (0, [])).2 (ks.getD j (0, [])).2) (fun i j hi hj => by rw [get i hi, get j hj]) ps.length (Nat.le_refl _)
          rw [List.take_length] at b2
          have hl : ps.length = ks.length - 1 := by rw [hlen]; rfl
          rw [hl] at b1 b2
          have lt : argBest (fun i j => tupGt (ks.getD i (0, [])).2 (ks.getD j (0, [])).2) (ks.length - 1) < ks.length := by rw [hlen] at b1 ⊢; rw [List.length_cons] at b1 ⊢; omega
          obtain ⟨z, hz⟩ : ∃ z, ks[argBest (fun i j => tupGt (ks.getD i (0, [])).2 (ks.getD j (0, [])).2) (ks.length - 1)]? = some z := ⟨_, List.getElem?_eq_getElem lt⟩
          have ez : z.2 = pL (maxP p ps) := by
            have e1 := congrArg (fun l => l[argBest (fun i j => tupGt (ks.getD i (0, [])).2 (ks.getD j (0, [])).2) (ks.length - 1)]?) h1
            simp only [List.getElem?_map] at e1
            rw [hz, b2] at e1
            exact Option.some.inj e1
          refine .inr ⟨a, ks, z, rfl, hs, fun q m => (h2 q m).sq, by rw [hlen]; simp, hz, ?_⟩
          have hF := h2 z (List.mem_of_getElem? hz)
          rw [ez] at hF
          exact q _ W H [] (New.sc x0 (.tup hF (RepL.cons (f := []) .int (RepL.cons (f := []) .int .nil))))
        · cases e
  · cases e
end E
/-! EngZa: a new thing that is fixed at once -/
namespace E
open PySem L2 PySem.Spec PyProof.Rows
def mFz (x : M D) : M D := fun m => (x m).bind fun r => .ok (r.1.fz, r.2)
theorem Post.fz {K : PySem.W.Frag} {CT : Nat → Addr} {W W' : Wd} {H H' : Hp} {σ : L2.St} {fp fp' fd : List Addr} {v : V} {d : D} {m' : Mem} (p : Post K CT W H σ fp v d m' W' H' fp' fd) : Post K CT W H σ fp v d.fz m' (W'.fixed fd) H' fp' [] := by
  have nd := p.nd
  rw [List.nodup_append] at nd
  have far : ∀ a ∈ fp', a ∉ fd := fun a z y => nd.2.2 a z a y rfl
  have sb : ∀ a ∈ fd, a ∈ fp ∨ H a = none := fun a z => p.sub a (List.mem_append_right _ z)
  have fx : Fix (W'.fixed fd) H' := fun a z => by
    rcases z with z | z
    · exact p.rel.fix a z
    · exact (p.own a z).2
  exact ⟨p.rel.ext (Ext.fixed fun a m => m) (fun a m => (p.own a m).1) far rfl fx, p.rep.fixed, by rw [List.append_nil]; exact nd.1, Own.nil, p.ext.trans (Ext.fixed (fp := fd) fun a m => m) sb, fun a z => p.sub a (List.mem_append_left _ (by simpa using z))⟩
theorem me_fz {X : Cx} {CT : Nat → Addr} {e : Expr} {x : M D} (h : ME X CT e x) : ME X CT e (mFz x) := pe_weak h fun σ H Q ⟨W, m, fp, d, m', rel, e, k⟩ => by
  obtain ⟨⟨d1, m1⟩, e1, e⟩ := Res.bind_eq e
  cases e
  exact ⟨W, m, fp, d1, m1, rel, e1, fun v W' H' fp' fd p => k v _ H' fp' [] p.fz⟩
end E
/-! EngZb: x.insert(k, e), x[k].append(e) -/
namespace E
open PySem L2 PySem.Spec PyProof.Rows
theorem RepL.cut {K : PySem.W.Frag} {W : Wd} {H : Hp} : ∀ {vs : List V} {ds : List D} {f : List Addr} (n : Nat), RepL K W H vs ds f → ∃ f1 f2, f = f1 ++ f2 ∧ RepL K W H (vs.take n) (ds.take n) f1 ∧ RepL K W H (vs.drop n) (ds.drop n) f2
  | _, _, _, 0, r => ⟨[], _, rfl, .nil, r⟩
  | _, _, _, n + 1, .nil => ⟨[], [], rfl, .nil, .nil⟩
  | _, _, _, n + 1, .cons r l => by
    obtain ⟨f1, f2, rfl, r1, r2⟩ := l.cut n
    exact ⟨_, f2, (List.append_assoc _ _ _).symm, .cons r r1, r2⟩
def insL (n : Nat) (d : α) (xs : List α) : List α := xs.take n ++ [d] ++ xs.drop n
def insAt (k d : D) (i : Nat) (m : Mem) : Res (D × Mem) := (mqVar i m).bind fun l => match l, k with
  | .lst true xs, .int n => Res.when (decide (xs.length < sizeLine) && decide (0 ≤ n ∧ n ≤ (xs.length : Int))) (.ok (.non, { m with env := m.env.set i (.lst true (insL n.toNat d xs)) }))
  | _, _ => .fail
def mInsN (i : Nat) (k a : M D) : M D := fun m => (mqVar i m).bind fun d0 => Res.when d0.isL ((k m).bind fun r0 => Res.when r0.1.pure ((a r0.2).bind fun r => insAt r0.1 r.1 i r.2))
section
variable {X : Cx} {CT : Nat → Addr} {pin : List Nat} {e e2 o : Expr} {es : List Expr} {i : Nat} {mk me : M D} {pos apos cpos : Pos} {q : MQ D}
theorem me_insN (ho : PE X o (tVar i)) (hk : ME X CT e mk) (ha : ME X CT e2 me)
    (hbase : attributeBase o "insert" X.env (eval o X.env) = eval o X.env := by rfl)
    (hfew : ((backTo cpos (starEach [e, e2] X.env)).all (fun x => !x.1) && (backToKw cpos (keywordEach [] X.env)).all (fun x => x.1.isSome)
      && decide (([e, e2] : List Expr).length + ([] : List Keyword).length + (if ([] : List Keyword).isEmpty then 0 else 1) < 30)) = true := by rfl)
    (hline : (apos.endLine == cpos.line) = true := by rfl) (hs : starEach [e, e2] X.env = (false, eval e X.env) :: starEach [e2] X.env := by rfl) (hs2 : starEach [e2] X.env = (false, eval e2 X.env) :: starEach [] X.env := by rfl) (hplain : (backTo cpos (starEach [e2] X.env)).any (·.1) = false := by rfl) :
    ME X CT (.Call (.Attribute o "insert" apos) [e, e2] [] cpos) (mInsN i mk me) :=
  pe_weak (pe_bm PySem.F.plainAttrs_list PySem.F.slot_list_insert PySem.F.type_list_insert mt_insert ho (pa_cons hk (pa_cons ha pa_nil hs2) hs) hbase hfew hline hs hplain) fun σ H Q ⟨W, m, fp, d, m', rel, e, k⟩ => by
    obtain ⟨d0, e0, e⟩ := Res.bind_eq e
    obtain ⟨hL, e⟩ := Res.when_eq e
    obtain ⟨⟨dk, m1⟩, e1, e⟩ := Res.bind_eq e
    obtain ⟨pk, e⟩ := Res.when_eq e
    obtain ⟨⟨d1, m2⟩, e2, e⟩ := Res.bind_eq e
    obtain ⟨v, f, s, r, _⟩ := var_of rel e0
    refine ⟨v, s, ?_, W, m, fp, dk, m1, rel, e1, fun kv W1 H1 fp1 fk pk1 => ?_⟩
    · cases d0 <;> simp [D.isL] at hL
      obtain ⟨a, vs, g, rfl, sq, _, _⟩ := r.lst
      exact .inl ⟨rfl, vs, sq⟩
    obtain rfl := pk1.rep.pure pk
    refine ⟨W1, m1, fp1, d1, m2, pk1.rel, e2, fun y W2 H2 fp2 fd p => ?_⟩
    · obtain ⟨l0, e3, e⟩ := Res.bind_eq e
      dsimp only at e3 e
      split at e
      · rename_i xs n _ _ _
        obtain ⟨hl, e⟩ := Res.when_eq e
        cases e
        rw [Bool.and_eq_true] at hl
        obtain ⟨hl1, hl2⟩ := hl
        have hl2 := of_decide_eq_true hl2
        have hl1 := of_decide_eq_true hl1
        have rk := pk1.rep
        cases rk
        obtain ⟨a, vs, fx, s', ha, l, sb, kk⟩ := slot_mut p.rel (mqVar_eq e3).1 p.nd p.own
        rw [s] at s'
        cases s'
        obtain ⟨f1, f2, rfl, r1, r2⟩ := l.cut n.toNat
        obtain ⟨fp', pt, _⟩ := kk (vs.take n.toNat ++ [y] ++ vs.drop n.toNat) (insL n.toNat d1 xs) (f1 ++ fd ++ f2) [] (by
          have := (r1.app (RepL.cons p.rep .nil)).app r2
          rw [List.append_nil] at this
          exact this) (by
          rw [List.append_nil, List.append_assoc, List.append_assoc]
          exact List.Perm.append_left _ List.perm_append_comm)
        have hz := sizeLine_eq
        refine ⟨a, vs, n, y, rfl, rfl, ha, by rw [l.length]; exact hl1, hl2.1, by omega, k .non W2 _ fp' [] ?_⟩
        have s1 : ∀ b ∈ fp2 ++ fd, b ∈ fp1 ∨ H1 b = none := p.sub
        have s0 : ∀ b ∈ fp1, b ∈ fp ∨ H b = none := fun b z => pk1.sub b (by simpa using z)
        have s2 : ∀ b ∈ fp2 ++ fd, b ∈ fp ∨ H b = none := fun b z => by
          rcases s1 b z with z | z
          · exact s0 b z
          · exact .inr (pk1.ext.there b z)
        exact PostT.post ⟨pt.rel, (pk1.ext.trans p.ext s0).trans pt.ext s2, subT s2 pt.sub (pk1.ext.trans p.ext s0).there⟩ (Post.mk0 pt.rel .non)
      · cases e
end
end E
/-! EngZc: sorted(set(t)), t a tuple of ints -/
namespace E
open PySem L2 PySem.Spec PyProof.Rows
def insU (p : Int) : List Int → List Int
  | [] => [p]
  | q :: r => if p = q then q :: r else if p < q then p :: q :: r else q :: insU p r
def sortU : List Int → List Int
  | [] => []
  | p :: r => insU p (sortU r)
theorem mem_insU {p q : Int} : ∀ {r : List Int}, q ∈ insU p r ↔ q = p ∨ q ∈ r
  | [] => by simp [insU]
  | z :: r => by
    unfold insU
    split
    · rename_i h; subst h; simp
    · split
      · simp
      · rw [List.mem_cons, mem_insU, List.mem_cons]
        constructor
        · rintro (h | h | h)
          · exact .inr (.inl h)
          · exact .inl h
          · exact .inr (.inr h)
        · rintro (h | h | h)
          · exact .inr (.inl h)
          · exact .inl h
          · exact .inr (.inr h)
theorem mem_sortU {q : Int} : ∀ {r : List Int}, q ∈ sortU r ↔ q ∈ r
  | [] => by simp [sortU]
  | p :: r => by rw [sortU, mem_insU, mem_sortU, List.mem_cons]
theorem insU_pw {p : Int} : ∀ {r : List Int}, r.Pairwise (· < ·) → (insU p r).Pairwise (· < ·)
  | [], _ => by simp [insU]
  | z :: r, h => by
    rw [List.pairwise_cons] at h
    unfold insU
    split
    · exact List.pairwise_cons.mpr h
    · rename_i h1
      split
      · rename_i h2
        refine List.pairwise_cons.mpr ⟨fun a m => ?_, List.pairwise_cons.mpr h⟩
        rcases List.mem_cons.mp m with m | m
        · subst m; exact h2
        · have := h.1 a m
          omega
      · rename_i h2
        refine List.pairwise_cons.mpr ⟨fun a m => ?_, insU_pw h.2⟩
        rcases mem_insU.mp m with m | m
        · subst m; omega
        · exact h.1 a m
theorem sortU_pw : ∀ r : List Int, (sortU r).Pairwise (· < ·)
  | [] => List.Pairwise.nil
  | _ :: r => insU_pw (sortU_pw r)
theorem pw_uniq {a b : List Int} (ha : a.Pairwise (· < ·)) (hb : b.Pairwise (· < ·)) (h : ∀ k, k ∈ a ↔ k ∈ b) : a = b := by
  have nda : a.Nodup := List.nodup_iff_pairwise_ne.mpr (ha.imp fun {x y} z e => by omega)
  have ndb : b.Nodup := List.nodup_iff_pairwise_ne.mpr (hb.imp fun {x y} z e => by omega)
  have pm : a.Perm b := (List.perm_ext_iff_of_nodup nda ndb).mpr h
  exact pm.eq_of_pairwise (fun x y _ _ h1 h2 => by omega) ha hb
/-- set(t) -/
def rSetT (K : PySem.W.Frag) (w : World) : List V → Hp → VK → Prop := fun vs H Q => ∃ (p : Addr) (ns : List Int), vs = [.ref p] ∧ SqT K H p (ns.map V.int) ∧ ns.length ≤ 1000 ∧ ∀ (a : Addr) (c : Nat), H a = none → c ≤ ns.length → Q (.ref a) (upd H a (SetO w a (fun j => decide (j ∈ ns)) c))
theorem cr_setT {X : Cx} (hc : X.calm = true) : CallR X (.type "set") (rSetT X.K X.w) := by
  intro pins s σ H vs us Q I r h
  obtain ⟨p, ns, rfl, hq, hl, q⟩ := h
  rw [Vals.ref1 r]
  obtain ⟨its, rv, pt, hz⟩ := I.tuple hq
  have hi : IntsAre its.toArray.toList ns := ints_of_vals rv
  refine call_set_tupI ns (I.ok.hd hc) (show s.heap.IsTuple p its.toArray from pt) hi (by unfold scanBound; omega) fun h' tk c R1 hcn k => ?_
  have hn : H s.heap.objs.size = none := I.hok.fresh (Nat.le_refl _)
  have J : Inv X pins σ (upd H s.heap.objs.size (SetO X.w s.heap.objs.size (fun j => decide (j ∈ ns)) c)) { s with heap := h', toks := tk } :=
    I.call (ch := []) (Un.laid k (Nat.le_refl _) hn) (I.hok.laid k (Nat.le_refl _) (setO_new R1)) I.bare (fun _ z => nomatch z)
  exact ⟨.ref _, _, J, rfl, q _ c hn hcn⟩
noncomputable def mSortSetT (q : MQ D) : M D := fun m => (q m).bind fun d => match d with
  | .tup ds => (Res.of (toInts ds)).bind fun ns => Res.when (decide (ns.length < 64)) (.ok (.lst true ((sortU ns).map .int), m))
  | _ => .fail
section
variable {X : Cx} {CT : Nat → Addr} {e : Expr} {q : MQ D} {p0 p1 pos pos1 : Pos}
theorem me_sortSetT (hc : X.calm = true) (hg : Gl X "sorted") (hm : X.mg "sorted" = none) (hg1 : Gl X "set") (hm1 : X.mg "set" = none) (h : MEQ X CT e q)
    (hs1 : starEach [e] X.env = (false, eval e X.env) :: starEach [] X.env := by rfl) (hpl1 : (backTo pos1 (starEach [] X.env)).any (·.1) = false := by rfl)
    (hs : starEach [.Call (.Name "set" p1) [e] [] pos1] X.env = (false, eval (.Call (.Name "set" p1) [e] [] pos1) X.env) :: starEach [] X.env := by rfl) (hpl : (backTo pos (starEach [] X.env)).any (·.1) = false := by rfl) :
    ME X CT (.Call (.Name "sorted" p0) [.Call (.Name "set" p1) [e] [] pos1] [] pos) (mSortSetT q) :=
  pe_weak (pe_callB (cr_sortedSet hc) hg hm (by decide +kernel) (pa_cons (pe_callTy (cr_setT hc) hg1 hm1 (by decide +kernel) (pa_cons h pa_nil hs1) (he := hs1) (hpl := hpl1)) pa_nil hs) (he := hs) (hpl := hpl)) fun σ H Q ⟨W, m, fp, d, m', rel, e, k⟩ => by
    obtain ⟨d0, e0, e⟩ := Res.bind_eq e
    split at e
    · rename_i ds
      obtain ⟨ns, e1, e⟩ := Res.bind_eq e
      obtain ⟨hl, e⟩ := Res.when_eq e
      cases e
      have e2 := toInts_eq (Res.of_eq e1)
      have hl := of_decide_eq_true hl
      refine ⟨W, _, fp, .tup ds, rel, e0, fun v W1 H1 fd p => ?_⟩
      subst e2
      have r := p.rep
      cases r with
      | @tup a vs _ _ hf l =>
        obtain ⟨rfl, _⟩ := repI l
        refine ⟨a, ns, rfl, hf.sq, by omega, fun D c hD hcn => ?_⟩
        refine ⟨D, _, c, rfl, upd_same, by omega, fun out pp pw hmem hlen hp => ?_⟩
        have eo : out = sortU ns := pw_uniq pw (sortU_pw ns) fun j => by rw [hmem, mem_sortU, decide_eq_true_eq]
        subst eo
        have x1 := ext_upd (W := W1) (o := SetO X.w D (fun j => decide (j ∈ ns)) c) hD
        have fx1 := fix_upd (p := D) (o := SetO X.w D (fun j => decide (j ∈ ns)) c) p.rel.fix
        have rel1 : Rel X.K CT W1 (upd H1 D (SetO X.w D (fun j => decide (j ∈ ns)) c)) σ m fp := p.rel.ext x1 off_nil (fun a _ z => by cases z) rfl fx1
        have xx : Ext W H W1 (upd H1 D (SetO X.w D (fun j => decide (j ∈ ns)) c)) fp := (p.ext.trans x1 fun a z => by cases z).sub fun a z => by cases z
        exact k _ W1 _ fp [pp] ((New.lst fx1 hp (repIs (sortU ns))).post rel1 xx fun a z => .inl z)
    · cases e
end
end E
/-! EngZd: o.f.append(e), e changes nothing -/
namespace E
open PySem L2 PySem.Spec PyProof.Rows
/-- an expression that changes nothing and whose value is new -/
def tN (K : PySem.W.Frag) (CT : Nat → Addr) (x : MQ D) : TE := fun σ H Q => ∃ W m fp d, Rel K CT W H σ m fp ∧ x m = .ok d ∧ ∀ v W' H' fd, New K W H v d W' H' fd → Q v H'
def MN (X : Cx) (CT : Nat → Addr) (e : Expr) (x : MQ D) : Prop := PE X e (tN X.K CT x)
theorem iota_same {K : PySem.W.Frag} {CT : Nat → Addr} {W W' : Wd} {H H' : Hp} {σ σ' : L2.St} {m m' : Mem} {fp fp' fq : List Addr} (r : Rel K CT W H σ m fp) (r' : Rel K CT W' H' σ' m' fp') (e : Ext W H W' H' fq) (hl : m'.hs.length = m.hs.length) : W'.ι = W.ι := by
  obtain ⟨f, g, _, _, h2⟩ := r.s
  obtain ⟨f', g', _, _, h2'⟩ := r'.s
  have l1 := h2.len
  have l2 := h2'.len
  apply List.ext_getElem?
  intro i
  cases h : W.ι[i]? with
  | some a => exact e.im i a h
  | none =>
    rw [List.getElem?_eq_none_iff] at h ⊢
    omega
theorem look_mut {K : PySem.W.Frag} {W : Wd} {H : Hp} {f : String} {d : D} : ∀ {fs : List (String × D)} {fvs : List (Str × V)} {g : List Addr}, fvs.map (·.1) = fs.map (fun p => Str.ofString p.1) → RepL K W H (fvs.map (·.2)) (fs.map (·.2)) g → lookF f fs = some d →
    ∃ v A h B, fvs.lookup (Str.ofString f) = some v ∧ g = A ++ h ++ B ∧ RepD K W H v d h ∧ ∀ {W' : Wd} {H' : Hp} {fq : List Addr} {d' : D} {h' : List Addr}, Ext W H W' H' fq → Off W fq → (∀ b ∈ A ++ B, b ∉ fq) → RepD K W' H' v d' h' →
      fvs.map (·.1) = (setF f d' fs).map (fun p => Str.ofString p.1) ∧ RepL K W' H' (fvs.map (·.2)) ((setF f d' fs).map (·.2)) (A ++ h' ++ B)
  | [], _, g, _, _, z => by cases z
  | _ :: _, [], g, e, _, _ => by cases e
  | (k, x) :: fs, (k', v) :: fvs, g, e, l, z => by
    rw [List.map_cons, List.map_cons] at e l
    injection e with e1 e2
    cases l with
    | @cons _ _ h1 _ _ g1 r l =>
      have e1 : k' = Str.ofString k := e1
      subst e1
      unfold lookF at z
      by_cases hk : k = f
      · subst hk
        rw [if_pos rfl] at z
        cases z
        refine ⟨v, [], h1, g1, by simp [List.lookup], rfl, r, fun x o nn r' => ?_⟩
        unfold setF
        rw [if_pos rfl]
        refine ⟨by rw [List.map_cons, List.map_cons, e2], ?_⟩
        exact RepL.cons r' (l.ext x o fun b z => nn b (by simpa using z))
      · rw [if_neg hk] at z
        obtain ⟨v', A, h, B, q1, rfl, q3, q4⟩ := look_mut e2 l z
        have hb : (Str.ofString f == Str.ofString k) = false := beq_eq_false_iff_ne.mpr fun z => hk (strInj z).symm
        refine ⟨v', h1 ++ A, h, B, by simp only [List.lookup, hb]; exact q1, by simp, q3, fun x o nn r' => ?_⟩
        obtain ⟨p1, p2⟩ := q4 x o (fun b z => nn b (by
          rcases List.mem_append.mp z with z | z
          · simp [z]
          · simp [z])) r'
        unfold setF
        rw [if_neg hk]
        refine ⟨by rw [List.map_cons, List.map_cons, p1], ?_⟩
        have := RepL.cons (r.ext x o fun b z => nn b (by simp [z])) p2
        simpa using this
def appAt (f : String) (n : Nat) (ob : Ob) (m : Mem) (xs : List D) (d : D) : Res (D × Mem) := Res.when (decide (xs.length < sizeLine)) (.ok (.non, ⟨m.env, m.hs.set n ⟨ob.cls, setF f (.lst true (xs ++ [d])) ob.fs⟩⟩))
def mAppA (cs : List Nat) (f : String) (q x : MQ D) : M D := fun m => (q m).bind fun d => match d with
  | .loc n => match m.hs[n]? with
    | some ob => Res.when (cs.contains ob.cls) (match lookF f ob.fs with
      | some (.lst true xs) => (x m).bind fun d1 => appAt f n ob m xs d1
      | _ => .fail)
    | none => .fail
  | _ => .fail
def mnP (q : MQ D) : MQ D := fun m => (q m).bind fun d => Res.when d.pure (.ok d)
section
variable {X : Cx} {CT : Nat → Addr} {pin : List Nat} {e o : Expr} {i : Nat} {x q : MQ D} {pos apos cpos : Pos} {cs : List Nat} {f : String}
theorem mn_p (h : MEQ X CT e q) : MN X CT e (mnP q) := pe_weak h fun σ H Q ⟨W, m, fp, d, rel, e, k⟩ => by
  obtain ⟨d1, e1, e⟩ := Res.bind_eq e
  obtain ⟨p, e⟩ := Res.when_eq e
  cases e
  refine ⟨W, m, fp, d, rel, e1, fun v W' H' fd p' => ?_⟩
  obtain rfl := p'.rep.pure p
  exact k v W' H' [] ⟨p'.rep, p'.ext, iota_same rel p'.rel p'.ext rfl, p'.rel.fix, List.nodup_nil, Own.nil, fun a z => nomatch z⟩
theorem me_appA (ho : MEQ X CT o q) (ha : MN X CT e x) (A : Attr X.K CT cs f)
    (hb : attributeBase o (Str.ofString f) X.env (eval o X.env) = eval o X.env := by rfl)
    (hbase : attributeBase (.Attribute o (Str.ofString f) pos) "append" X.env (eval (.Attribute o (Str.ofString f) pos) X.env) = eval (.Attribute o (Str.ofString f) pos) X.env := by rfl)
    (hfew : ((backTo cpos (starEach [e] X.env)).all (fun x => !x.1) && (backToKw cpos (keywordEach [] X.env)).all (fun x => x.1.isSome)
      && decide (([e] : List Expr).length + ([] : List Keyword).length + (if ([] : List Keyword).isEmpty then 0 else 1) < 30)) = true := by rfl)
    (hline : (apos.endLine == cpos.line) = true := by rfl) (hs : starEach [e] X.env = (false, eval e X.env) :: starEach [] X.env := by rfl) (hplain : (backTo cpos (starEach [] X.env)).any (·.1) = false := by rfl) :
    ME X CT (.Call (.Attribute (.Attribute o (Str.ofString f) pos) "append" apos) [e] [] cpos) (mAppA cs f q x) :=
  pe_weak (pe_bm PySem.F.plainAttrs_list PySem.F.slot_list_append PySem.F.type_list_append mt_append (pe_fld ho hb) (pa_cons ha pa_nil hs) hbase hfew hline hs hplain) fun σ H Q ⟨W, m, fp, d, m', rel, e, k⟩ => by
    obtain ⟨d1, e1, e⟩ := Res.bind_eq e
    refine ⟨W, m, fp, d1, rel, e1, fun v W1 H1 fd p => ?_⟩
    have rp := p.rep
    split at e
    · split at e
      · rename_i n ob eo
        obtain ⟨hc, e⟩ := Res.when_eq e
        split at e
        · rename_i xs el
          obtain ⟨dy, e2, e⟩ := Res.bind_eq e
          obtain ⟨hl, e⟩ := Res.when_eq e
          cases e
          obtain ⟨s, g, rfl, h1, h2⟩ := p.rel.s
          obtain ⟨c0, c1, c2⟩ := A ob.cls (by simpa using hc)
          obtain ⟨a, dx, fvs, AA, ff, BB, rfl, ei, eh, en, l, _⟩ := h2.at eo c0
          obtain ⟨v', A1, hh, B1, q1, rfl, q3, _⟩ := look_mut (f := f) en l el
          cases rp with
          | loc ei' =>
            rw [ei] at ei'
            cases ei'
            obtain ⟨b, vs, fx, rfl, sq, _, _⟩ := q3.lst
            refine ⟨a, _, dx, fvs, .ref b, rfl, eh, c1, c2, q1, .inl ⟨rfl, vs, sq⟩, W1, m, _, dy, p.rel, e2, fun y W2 H2 fy nw => ?_⟩
            -- behind the argument
            have rel2 := p.rel.ext nw.ext off_nil (fun a _ z => nomatch z) nw.ι nw.fix
            obtain ⟨s', g', hfp, k1, k2⟩ := rel2.s
            obtain ⟨a', dx', fvs', A2, ff', B2, rfl, ei2, eh2, en2, l2, kk2⟩ := k2.at eo c0
            have ea : a' = a := by rw [nw.ι, ei] at ei2; exact (Option.some.inj ei2).symm
            subst ea
            have eh2' := nw.ext.keep a' _ eh (fun z => nomatch z)
            rw [eh2'] at eh2
            cases eh2
            obtain ⟨v2, A3, h3, B3, q1', rfl, q3', km⟩ := look_mut (f := f) en2 l2 el
            rw [q1] at q1'
            cases q1'
            cases q3' with
            | @lstO _ vs2 _ fx2 hb2 lb2 =>
              refine ⟨b, vs2, y, rfl, rfl, hb2, by rw [lb2.length]; exact of_decide_eq_true hl, ?_⟩
              have nd2 := rel2.nd
              have fr : ∀ c ∈ fy, c ∉ s' ++ (A2 ++ (a' :: (A3 ++ (b :: fx2) ++ B3)) ++ B2) := fun c z y => by
                rw [← hfp] at y
                exact (p.rel.own c y).2 (nw.fresh c z)
              have x : Ext W2 H2 W2 (upd H2 b (.lst (vs2 ++ [y]))) [b] := ⟨fun _ h => h, fun _ _ h => h, fun c o h n => by rw [upd_ne (fun z => n (by simp [z]))]; exact h, fun _ h => .inl h, fun c h => by
                by_cases e : c = b
                · subst e; rw [upd_same] at h; cases h
                · rw [upd_ne e] at h; exact h⟩
              have hfp' := hfp
              have own2 : ∀ c ∈ s' ++ (A2 ++ (a' :: (A3 ++ (b :: fx2) ++ B3)) ++ B2), ¬ W2.F c ∧ H2 c ≠ none := fun c z => rel2.own c (by rw [hfp]; exact z)
              rw [hfp] at nd2
              have hbm : b ∈ s' ++ (A2 ++ (a' :: (A3 ++ (b :: fx2) ++ B3)) ++ B2) := by simp
              have once : ∀ c, c ∈ s' ∨ c ∈ A2 ∨ c = a' ∨ c ∈ A3 ∨ c ∈ fx2 ∨ c ∈ B3 ∨ c ∈ B2 → c ∉ [b] := fun c z y => by
                have y := List.mem_singleton.mp y
                subst y
                have c1 := List.nodup_iff_count.mp nd2 c
                simp only [List.count_append, List.count_cons, List.count_cons_self, beq_self_eq_true, ↓reduceIte] at c1
                rcases z with z | z | z | z | z | z | z
                · have c2 := List.count_pos_iff.mpr z; omega
                · have c2 := List.count_pos_iff.mpr z; omega
                · subst z; simp at c1; omega
                · have c2 := List.count_pos_iff.mpr z; omega
                · have c2 := List.count_pos_iff.mpr z; omega
                · have c2 := List.count_pos_iff.mpr z; omega
                · have c2 := List.count_pos_iff.mpr z; omega
              have off : Off W2 [b] := fun c z => by rw [List.mem_singleton.mp z]; exact (own2 b hbm).1
              have fyb : ∀ c ∈ fy, c ∉ [b] := fun c z y => fr c z (by rw [List.mem_singleton.mp y]; exact hbm)
              have lst : RepD X.K W2 (upd H2 b (.lst (vs2 ++ [y]))) (.ref b) (.lst true (xs ++ [dy])) (b :: (fx2 ++ fy)) := by
                refine .lstO upd_same ?_
                have := (lb2.ext x off fun c z => once c (by simp [z])).app (RepL.cons (nw.rep.ext x off fyb) .nil)
                rw [List.append_nil] at this
                exact this
              obtain ⟨w1, w2⟩ := km x off (fun c z => once c (by
                rcases List.mem_append.mp z with z | z <;> simp [z])) lst
              have hh3 := kk2 x off (fun c z => once c (by
                rcases List.mem_append.mp z with z | z <;> simp [z])) (x.keep a' _ eh2' (once a' (by simp))) w1 w2
              have x3 : Ext W H W2 (upd H2 b (.lst (vs2 ++ [y]))) (s ++ (AA ++ (a' :: (A1 ++ hh ++ B1)) ++ BB)) := ((p.ext.trans nw.ext fun a z => nomatch z).sub fun a z => nomatch z).trans (x.sub (fq := s ++ (AA ++ (a' :: (A1 ++ hh ++ B1)) ++ BB)) fun c z => by rw [List.mem_singleton.mp z, hfp]; exact hbm) fun c z => .inl z
              have cnt : ∀ c, (s' ++ (A2 ++ (a' :: (A3 ++ (b :: (fx2 ++ fy)) ++ B3)) ++ B2)).count c = (s' ++ (A2 ++ (a' :: (A3 ++ (b :: fx2) ++ B3)) ++ B2) ++ fy).count c := fun c => by
                simp only [List.count_append, List.count_cons]
                omega
              have pm : (s' ++ (A2 ++ (a' :: (A3 ++ (b :: (fx2 ++ fy)) ++ B3)) ++ B2)).Perm (s' ++ (A2 ++ (a' :: (A3 ++ (b :: fx2) ++ B3)) ++ B2) ++ fy) := List.perm_iff_count.mpr cnt
              have ndF : (s' ++ (A2 ++ (a' :: (A3 ++ (b :: fx2) ++ B3)) ++ B2) ++ fy).Nodup := by
                rw [List.nodup_append]
                exact ⟨nd2, nw.nd, fun c z d y e => fr d y (e ▸ z)⟩
              have own4 : ∀ c ∈ s' ++ (A2 ++ (a' :: (A3 ++ (b :: (fx2 ++ fy)) ++ B3)) ++ B2), ¬ W2.F c ∧ upd H2 b (.lst (vs2 ++ [y])) c ≠ none := fun c z => by
                have ob : ¬ W2.F c ∧ H2 c ≠ none := by
                  rcases List.mem_append.mp (pm.mem_iff.mp z) with z | z
                  · exact own2 c z
                  · exact nw.own c z
                refine ⟨ob.1, ?_⟩
                by_cases e : c = b
                · subst e; rw [upd_same]; exact fun z => by cases z
                · rw [upd_ne e]; exact ob.2
              refine k .non W2 _ (s' ++ (A2 ++ (a' :: (A3 ++ (b :: (fx2 ++ fy)) ++ B3)) ++ B2)) [] ⟨⟨⟨s', _, rfl, k1.ext x off fun c z => once c (.inl z), hh3⟩, pm.nodup_iff.mpr ndF, own4, fix_upd nw.fix⟩, .non, by rw [List.append_nil]; exact pm.nodup_iff.mpr ndF, Own.nil, x3, fun c z => ?_⟩
              rw [List.append_nil] at z
              rcases List.mem_append.mp (pm.mem_iff.mp z) with z | z
              · exact .inl (by rw [hfp]; exact z)
              · refine .inr ?_
                exact p.ext.there c (nw.fresh c z)
        · cases e
      · cases e
    · cases e
end
end E
/-! EngZe: text * int -/
namespace E
open PySem L2 PySem.Spec PyProof.Rows
def repS (x : Str) (n : Int) : Str := if n < 1 then Str.empty else if (n == 1 || x.length == 0) = true then x else ⟨(List.replicate n.toNat x.cps).foldl (· ++ ·) #[]⟩
def mulSok (x : Str) (n : Int) : Prop := 0 ≤ n ∧ n < 1000 ∧ x.length < 1000 ∧ (repS x n).length ≤ 1000000
instance (x : Str) (n : Int) : Decidable (mulSok x n) := by unfold mulSok; infer_instance
def dMulS : D → D → Res D
  | .str x, .int n => .when (decide (mulSok x n)) (.ok (.str (repS x n)))
  | _, _ => .fail
theorem op_mul_str {X : Cx} : OpR X (binaryOp .Mult) (fun x y H Q => ∃ i n, x = .str i ∧ y = .int n ∧ mulSok i n ∧ Q (.str (repS i n)) H) := by
  intro pins s σ H x y v u Q I rx ry h
  obtain ⟨i, n, rfl, rfl, ⟨h0, h1, h2, h3⟩, q⟩ := h
  obtain ⟨t, rfl⟩ := rx
  obtain ⟨t', rfl⟩ := ry
  refine PySem.P.mul_str ?_ (fun a b => ?_) (fun a b => ?_) ?_
  · rw [decide_eq_false (by omega), decide_eq_false (by omega)]; rfl
  · intro z
    have : (9223372036854775807 : Int) / n ≥ 1000 := by
      rw [ge_iff_le, Int.le_ediv_iff_mul_le (by omega)]
      omega
    have z : (i.length : Int) > (2 ^ 63 - 1) / n := z
    have e : ((2 : Int) ^ 63 - 1) = 9223372036854775807 := by decide
    rw [e] at z
    omega
  · have : i.length * n.toNat ≤ 1000 * 1000 := Nat.mul_le_mul (by omega) (by omega)
    show decide (_ > sizeLine) = false
    rw [decide_eq_false_iff_not]
    rw [sizeLine_eq]
    omega
  · unfold repS at q h3
    split
    · rename_i c
      rw [if_pos c] at q
      exact ⟨by decide, ⟨.str Str.empty, H, I.tok _, ⟨_, rfl⟩, q⟩⟩
    · rename_i c
      rw [if_neg c] at q h3
      split
      · rename_i c2
        rw [if_pos c2] at q
        exact ⟨.str i, H, I, ⟨_, rfl⟩, q⟩
      · rename_i c2
        rw [if_neg c2] at q h3
        refine ⟨?_, ⟨.str _, H, I.tok _, ⟨_, rfl⟩, q⟩⟩
        have := sizeLine_eq
        omega
theorem od_mulS {X : Cx} : OpD X (binaryOp .Mult) dMulS := by
  refine ⟨_, op_mul_str, fun W H x y d1 d2 f1 f2 d Q x0 a b e q => ?_⟩
  unfold dMulS at e
  split at e
  · obtain ⟨h, e⟩ := Res.when_eq e
    cases e; cases a; cases b
    exact ⟨_, _, rfl, rfl, of_decide_eq_true h, q _ W H [] (New.sc x0 .str)⟩
  · cases e
end E
/-! EngZf: x[k].append(e); lists written as arguments; methods of new things -/
namespace E
open PySem L2 PySem.Spec PyProof.Rows
def tNA (K : PySem.W.Frag) (CT : Nat → Addr) (x : MQ (List D)) : TA := fun σ H Q => ∃ W m fp ds, Rel K CT W H σ m fp ∧ x m = .ok ds ∧ ∀ vs W' H' fd, RepL K W' H' vs ds fd → Ext W H W' H' [] → W'.ι = W.ι → Fix W' H' → fd.Nodup → Own W' H' fd → (∀ a ∈ fd, H a = none) → Q vs H'
def MNA (X : Cx) (CT : Nat → Addr) (es : List Expr) (x : MQ (List D)) : Prop := PA X es (tNA X.K CT x)
def mnNil : MQ (List D) := fun _ => .ok []
def mnCons (x : MQ D) (r : MQ (List D)) : MQ (List D) := fun m => (x m).bind fun d => (r m).bind fun ds => .ok (d :: ds)
/-- a written list that is fixed at once -/
def mnLstF (xa : MQ (List D)) : MQ D := fun m => (xa m).bind fun ds => Res.when (decide (ds.length ≤ sizeLine) && pureL ds) (.ok (.lst false ds))
def kids : D → Option (List D)
  | .tup ds => some ds
  | .lst true ds => some ds
  | _ => none
def wkids (ds : List D) : D → D
  | .tup _ => .tup ds
  | .lst o _ => .lst o ds
  | d => d
theorem RepL.at {K : PySem.W.Frag} {W : Wd} {H : Hp} : ∀ {vs : List V} {ds : List D} {f : List Addr} {j : Nat} {d : D}, RepL K W H vs ds f → ds[j]? = some d → ∃ v A h B, vs[j]? = some v ∧ f = A ++ h ++ B ∧ RepD K W H v d h ∧
    ∀ {W' : Wd} {H' : Hp} {fq : List Addr} {d' : D} {h' : List Addr}, Ext W H W' H' fq → Off W fq → (∀ b ∈ A ++ B, b ∉ fq) → RepD K W' H' v d' h' → RepL K W' H' vs (ds.set j d') (A ++ h' ++ B)
  | _, _, _, _, _, .nil, e => by simp at e
  | _, _, _, 0, d, .cons r l, e => by
    cases e
    exact ⟨_, [], _, _, rfl, rfl, r, fun x o n r' => .cons r' (l.ext x o fun b z => n b (by simpa using z))⟩
  | _, _, _, j + 1, d, .cons r l, e => by
    rename_i d0 ff vs0 ds0
    obtain ⟨v, A, h, B, q1, rfl, q2, k⟩ := RepL.at l (by simpa using e)
    refine ⟨v, d0 ++ A, h, B, by simpa using q1, by simp, q2, fun x o n r' => ?_⟩
    have := RepL.cons (r.ext x o fun b z => n b (by simp [z])) (k x o (fun b z => n b (by
      rcases List.mem_append.mp z with z | z <;> simp [z])) r')
    simpa using this
theorem kid_mut {K : PySem.W.Frag} {W : Wd} {H : Hp} {v : V} {c : D} {f : List Addr} {ds : List D} (r : RepD K W H v c f) (e : kids c = some ds) : ∃ a vs P f0, v = .ref a ∧ (SqL K H a vs ∨ SqT K H a vs) ∧ f = P ++ f0 ∧ RepL K W H vs ds f0 ∧
    ∀ {W' : Wd} {H' : Hp} {fq : List Addr} {ds' : List D} {f' : List Addr}, Ext W H W' H' fq → Off W fq → (∀ b ∈ P, b ∉ fq) → RepL K W' H' vs ds' f' → RepD K W' H' v (wkids ds' c) (P ++ f') := by
  cases r with
  | tup h l =>
    cases e
    exact ⟨_, _, [], _, rfl, .inr h.sq, rfl, l, fun x o n l' => .tup (h.ext x o) l'⟩
  | lstO h l =>
    cases e
    exact ⟨_, _, [_], _, rfl, .inl (.inl (.inl h)), rfl, l, fun x o n l' => .lstO (x.keep _ _ h (n _ (List.mem_singleton.mpr rfl))) l'⟩
  | _ => cases e
def appP (i j : Nat) (c : D) (ds xs : List D) (d : D) (m : Mem) : Res (D × Mem) := Res.when (decide (xs.length < sizeLine)) (.ok (.non, ⟨m.env.set i (wkids (ds.set j (.lst true (xs ++ [d]))) c), m.hs⟩))
def mAppP (i : Nat) (q x : MQ D) : M D := fun m => (mqVar i m).bind fun c => (q m).bind fun k => match kids c, k with
  | some ds, .int k => match ixN ds.length k with
    | some j => match ds[j]? with
      | some (.lst true xs) => (x m).bind fun d => appP i j c ds xs d m
      | _ => .fail
    | none => .fail
  | _, _ => .fail
section
variable {X : Cx} {CT : Nat → Addr} {pin : List Nat} {e a b o : Expr} {es rest : List Expr} {i : Nat} {x q : MQ D} {xa : MQ (List D)} {pos apos cpos : Pos} {cs : List Nat} {f : String}
theorem mna_nil : MNA X CT [] mnNil := pa_weak pa_nil fun σ H Q ⟨W, m, fp, ds, rel, e, k⟩ => by
  cases e
  exact k [] W H [] .nil (Ext.refl _ _ _) rfl rel.fix List.nodup_nil Own.nil fun a z => nomatch z
theorem mna_cons (h : MN X CT e x) (r : MNA X CT rest xa) (hs : starEach (e :: rest) X.env = (false, eval e X.env) :: starEach rest X.env := by rfl) : MNA X CT (e :: rest) (mnCons x xa) := pa_weak (pa_cons h r hs) fun σ H Q ⟨W, m, fp, ds, rel, e, k⟩ => by
  obtain ⟨d, e1, e⟩ := Res.bind_eq e
  obtain ⟨ds', e2, e⟩ := Res.bind_eq e
  cases e
  refine ⟨W, m, fp, d, rel, e1, fun v W1 H1 f1 n => ?_⟩
  have rel1 := rel.ext n.ext off_nil (fun a _ z => nomatch z) n.ι n.fix
  refine ⟨W1, m, fp, ds', rel1, e2, fun vs W2 H2 f2 rl x2 i2 fx2 nd2 ow2 fr2 => ?_⟩
  have ow1 := n.own.ext x2 fun a _ z => nomatch z
  refine k (v :: vs) W2 H2 (f1 ++ f2) (.cons (n.rep.ext x2 off_nil fun a _ z => nomatch z) rl) (n.ext.trans x2 fun a z => nomatch z) (i2.trans n.ι) fx2 ?_ (Own.app.mpr ⟨ow1, ow2⟩) fun a z => ?_
  · rw [List.nodup_append]
    exact ⟨n.nd, nd2, fun a z b y e => (n.own a z).2 (by rw [e]; exact fr2 b y)⟩
  · rcases List.mem_append.mp z with z | z
    · exact n.fresh a z
    · exact n.ext.there a (fr2 a z)
theorem mn_lstF (h : MNA X CT es xa) : MN X CT (.List es pos) (mnLstF xa) := pe_weak (pe_lst h) fun σ H Q ⟨W, m, fp, d, rel, e, q⟩ => by
  obtain ⟨ds, e1, e⟩ := Res.bind_eq e
  obtain ⟨hl, e⟩ := Res.when_eq e
  cases e
  rw [Bool.and_eq_true] at hl
  refine ⟨W, m, fp, ds, rel, e1, fun vs W1 H1 fd rl x1 i1 fx nd ow fr => ⟨by rw [rl.length]; exact of_decide_eq_true hl.1, fun p hp => ?_⟩⟩
  obtain rfl := rl.pure hl.2
  let W2 : Wd := ⟨fun b => W1.F b ∨ b = p, W1.ι⟩
  have xp := ext_upd (W := W1) (o := .lst vs) hp
  have x2 : Ext W1 H1 W2 (upd H1 p (.lst vs)) [] := ⟨fun b h => .inl h, fun _ _ h => h, fun b o h n => xp.keep b o h n, fun b h => h.elim .inl fun z => .inr (.inr (by rw [z]; exact hp)), fun b h => xp.there b h⟩
  have fx2 : Fix W2 (upd H1 p (.lst vs)) := fun b h => by
   rcases h with h | h
   · exact fix_upd fx b h
   · subst h; rw [upd_same]; exact fun z => nomatch z
  have rp : RepD X.K W2 (upd H1 p (.lst vs)) (.ref p) (.lst false ds) [] := .lstF (.inl ⟨.inr rfl, .inl upd_same⟩) (rl.ext x2 off_nil fun a z => nomatch z)
  exact q (.ref p) W2 _ [] ⟨rp, (x1.trans x2 fun a z => nomatch z), i1, fx2, List.nodup_nil, Own.nil, fun a z => nomatch z⟩
theorem me_appP (ho : PE X o (tVar i)) (hq : MEQ X CT b q) (hsx : PlainIx b) (ha : MN X CT e x)
    (hbase : attributeBase (.Subscript o b pos) "append" X.env (eval (.Subscript o b pos) X.env) = eval (.Subscript o b pos) X.env := by rfl)
    (hfew : ((backTo cpos (starEach [e] X.env)).all (fun x => !x.1) && (backToKw cpos (keywordEach [] X.env)).all (fun x => x.1.isSome)
      && decide (([e] : List Expr).length + ([] : List Keyword).length + (if ([] : List Keyword).isEmpty then 0 else 1) < 30)) = true := by rfl)
    (hline : (apos.endLine == cpos.line) = true := by rfl) (hs : starEach [e] X.env = (false, eval e X.env) :: starEach [] X.env := by rfl) (hplain : (backTo cpos (starEach [] X.env)).any (·.1) = false := by rfl) :
    ME X CT (.Call (.Attribute (.Subscript o b pos) "append" apos) [e] [] cpos) (mAppP i q x) :=
  pe_weak (pe_bm PySem.F.plainAttrs_list PySem.F.slot_list_append PySem.F.type_list_append mt_append (pe_ix (ix_list.or ix_tup) ho hq hsx) (pa_cons ha pa_nil hs) hbase hfew hline hs hplain) fun σ H Q ⟨W, m, fp, d, m', rel, e, k⟩ => by
    obtain ⟨c, e0, e⟩ := Res.bind_eq e
    obtain ⟨kd, e1, e⟩ := Res.bind_eq e
    split at e
    · rename_i ds n ek
      split at e
      · rename_i j ej
        split at e
        · rename_i xs el
          obtain ⟨dy, e2, e⟩ := Res.bind_eq e
          obtain ⟨hl, e⟩ := Res.when_eq e
          cases e
          have hc := mqVar_eq e0
          obtain ⟨v, _, sv, _, _⟩ := var_of rel e0
          refine ⟨v, sv, W, m, fp, .int n, rel, e1, fun kv W1 H1 fk pk => ?_⟩
          have rk := pk.rep
          cases rk
          obtain ⟨s, g, rfl, h1, h2⟩ := pk.rel.s
          obtain ⟨v', A0, f0, B0, rfl, sv', rv, kk⟩ := h1.at hc.1 hc.2
          rw [sv] at sv'
          cases sv'
          obtain ⟨ca, cvs, P, fc, rfl, sq, rfl, cl, km⟩ := kid_mut rv ek
          obtain ⟨lv, A1, h3, B1, q1, rfl, q3, rm⟩ := RepL.at cl el
          have lv2 := q3.lst
          obtain ⟨lb, lvs0, lfx0, rfl, lsq, _, _⟩ := lv2
          have hat : L2.atI cvs n = some (.ref lb) := by
            unfold L2.atI
            rw [cl.length, ej]
            exact q1
          have key : ∀ (R : V → Hp → Prop), R (.ref lb) H1 → (rIxL X.K (.ref ca) (.int n) H1 R ∨ rIxT X.K (.ref ca) (.int n) H1 R) := fun R hR => by
            rcases sq with sq | sq
            · exact .inl ⟨ca, cvs, n, .ref lb, rfl, rfl, sq, hat, hR⟩
            · exact .inr ⟨ca, cvs, n, .ref lb, rfl, rfl, sq, hat, hR⟩
          refine key _ ⟨.inl ⟨rfl, lvs0, lsq⟩, W1, m, _, dy, pk.rel, e2, fun y W2 H2 fy nw => ?_⟩
          cases q3 with
          | @lstO _ lvs _ fx hb1 lb1 =>
            have hb2 := nw.ext.keep lb _ hb1 (fun z => nomatch z)
            refine ⟨lb, lvs, y, rfl, rfl, hb2, by rw [lb1.length]; exact of_decide_eq_true hl, ?_⟩
            have nd2 := pk.rel.nd
            have fr : ∀ c ∈ fy, c ∉ A0 ++ (P ++ (A1 ++ (lb :: fx) ++ B1)) ++ B0 ++ g := fun c z y => (pk.rel.own c y).2 (nw.fresh c z)
            have x : Ext W1 H1 W2 (upd H2 lb (.lst (lvs ++ [y]))) [lb] := by
              have x0 : Ext W2 H2 W2 (upd H2 lb (.lst (lvs ++ [y]))) [lb] := ⟨fun _ h => h, fun _ _ h => h, fun c o h n => by rw [upd_ne (fun z => n (by simp [z]))]; exact h, fun _ h => .inl h, fun c h => by
                by_cases e : c = lb
                · subst e; rw [upd_same] at h; cases h
                · rw [upd_ne e] at h; exact h⟩
              exact (nw.ext.sub fun a z => nomatch z).trans x0 fun c z => .inl z
            have x0 : Ext W2 H2 W2 (upd H2 lb (.lst (lvs ++ [y]))) [lb] := ⟨fun _ h => h, fun _ _ h => h, fun c o h n => by rw [upd_ne (fun z => n (by simp [z]))]; exact h, fun _ h => .inl h, fun c h => by
                by_cases e : c = lb
                · subst e; rw [upd_same] at h; cases h
                · rw [upd_ne e] at h; exact h⟩
            have own1 := pk.rel.own
            have hbm : lb ∈ A0 ++ (P ++ (A1 ++ (lb :: fx) ++ B1)) ++ B0 ++ g := by simp
            have once : ∀ c, c ∈ A0 ∨ c ∈ P ∨ c ∈ A1 ∨ c ∈ fx ∨ c ∈ B1 ∨ c ∈ B0 ∨ c ∈ g → c ∉ [lb] := fun c z y => by
              have y := List.mem_singleton.mp y
              subst y
              have c1 := List.nodup_iff_count.mp nd2 c
              simp only [List.count_append, List.count_cons, List.count_cons_self, beq_self_eq_true, ↓reduceIte] at c1
              rcases z with z | z | z | z | z | z | z <;> (have c2 := List.count_pos_iff.mpr z; omega)
            have off : Off W1 [lb] := fun c z => by rw [List.mem_singleton.mp z]; exact (own1 lb hbm).1
            have ownb2 : ¬ W2.F lb := fun z => by
              rcases nw.ext.fnew lb z with z | z | z
              · exact (own1 lb hbm).1 z
              · cases z
              · rw [hb1] at z; cases z
            have off2 : Off W2 [lb] := fun c z => by rw [List.mem_singleton.mp z]; exact ownb2
            have fyb : ∀ c ∈ fy, c ∉ [lb] := fun c z y => fr c z (by rw [List.mem_singleton.mp y]; exact hbm)
            have lst : RepD X.K W2 (upd H2 lb (.lst (lvs ++ [y]))) (.ref lb) (.lst true (xs ++ [dy])) (lb :: (fx ++ fy)) := by
              refine .lstO upd_same ?_
              have := (lb1.ext x off fun c z => once c (by simp [z])).app (RepL.cons (nw.rep.ext x0 off2 fyb) .nil)
              rw [List.append_nil] at this
              exact this
            have w1 := rm x off (fun c z => once c (by
              rcases List.mem_append.mp z with z | z <;> simp [z])) lst
            have w2 := km x off (fun c z => once c (by simp [z])) w1
            have w3 := kk x off (fun c z => once c (by
              rcases List.mem_append.mp z with z | z <;> simp [z])) w2
            rw [set_same sv] at w3
            have x3 : Ext W H W2 (upd H2 lb (.lst (lvs ++ [y]))) (A0 ++ (P ++ (A1 ++ (lb :: fx) ++ B1)) ++ B0 ++ g) := (pk.ext.sub fun a z => nomatch z).trans (x.sub (fq := A0 ++ (P ++ (A1 ++ (lb :: fx) ++ B1)) ++ B0 ++ g) fun c z => by rw [List.mem_singleton.mp z]; exact hbm) fun c z => .inl z
            have cnt : ∀ c, (A0 ++ (P ++ (A1 ++ (lb :: (fx ++ fy)) ++ B1)) ++ B0 ++ g).count c = (A0 ++ (P ++ (A1 ++ (lb :: fx) ++ B1)) ++ B0 ++ g ++ fy).count c := fun c => by
              simp only [List.count_append, List.count_cons]
              omega
            have pm : (A0 ++ (P ++ (A1 ++ (lb :: (fx ++ fy)) ++ B1)) ++ B0 ++ g).Perm (A0 ++ (P ++ (A1 ++ (lb :: fx) ++ B1)) ++ B0 ++ g ++ fy) := List.perm_iff_count.mpr cnt
            have ndF : (A0 ++ (P ++ (A1 ++ (lb :: fx) ++ B1)) ++ B0 ++ g ++ fy).Nodup := by
              rw [List.nodup_append]
              exact ⟨nd2, nw.nd, fun c z d y e => fr d y (e ▸ z)⟩
            have rel2 := pk.rel.ext nw.ext off_nil (fun a _ z => nomatch z) nw.ι nw.fix
            have own4 : ∀ c ∈ A0 ++ (P ++ (A1 ++ (lb :: (fx ++ fy)) ++ B1)) ++ B0 ++ g, ¬ W2.F c ∧ upd H2 lb (.lst (lvs ++ [y])) c ≠ none := fun c z => by
              have ob : ¬ W2.F c ∧ H2 c ≠ none := by
                rcases List.mem_append.mp (pm.mem_iff.mp z) with z | z
                · exact rel2.own c z
                · exact nw.own c z
              refine ⟨ob.1, ?_⟩
              by_cases e : c = lb
              · subst e; rw [upd_same]; exact fun z => by cases z
              · rw [upd_ne e]; exact ob.2
            have hh := (h2.ext x off fun c z => once c (by simp [z]))
            rw [← nw.ι] at hh
            refine k .non W2 _ (A0 ++ (P ++ (A1 ++ (lb :: (fx ++ fy)) ++ B1)) ++ B0 ++ g) [] ⟨⟨⟨_, g, rfl, w3, hh⟩, pm.nodup_iff.mpr ndF, own4, fix_upd nw.fix⟩, .non, by rw [List.append_nil]; exact pm.nodup_iff.mpr ndF, Own.nil, x3, fun c z => ?_⟩
            rw [List.append_nil] at z
            rcases List.mem_append.mp (pm.mem_iff.mp z) with z | z
            · exact .inl z
            · exact .inr (pk.ext.there c (nw.fresh c z))
        · cases e
      · cases e
    · cases e
end
end E
/-! EngZg: methods of things that are reckoned; properties -/
namespace E
open PySem L2 PySem.Spec PyProof.Rows
def mMethE (c : Nat) (mn : String) (f : CallM) (dd : List D) (x : M D) (a : M (List Arg)) : M D := fun m => (x m).bind fun r => Res.when (isOf c mn r.2 r.1) ((a r.2).bind fun s => callTail f dd (.val r.1 :: s.1) s.2)
def isCl (c : Nat) (m : Mem) : D → Bool
  | .loc n => match m.hs[n]? with
    | some ob => ob.cls == c
    | none => false
  | _ => false
def mProp (c : Nat) (f : CallM) (dd : List D) (x : M D) : M D := fun m => (x m).bind fun r => Res.when (isCl c r.2 r.1) (callTail f dd [.val r.1] r.2)
theorem isCl_rep {K : PySem.W.Frag} {CT : Nat → Addr} {W : Wd} {H : Hp} {σ : L2.St} {m : Mem} {fp : List Addr} {v : V} {d : D} {g : List Addr} {c : Nat} (rel : Rel K CT W H σ m fp) (r : RepD K W H v d g) (h : isCl c m d = true) (hne : c ≠ BOXC) :
    ∃ n a dx fs, d = .loc n ∧ v = .ref a ∧ g = [] ∧ W.ι[n]? = some a ∧ H a = some (.ins (CT c) dx fs) := by
  cases r with
  | @loc n a ei =>
    unfold isCl at h
    dsimp only at h
    cases eo : m.hs[n]? with
    | none => rw [eo] at h; cases h
    | some ob =>
      rw [eo] at h
      dsimp only at h
      obtain ⟨s, g, rfl, h1, h2⟩ := rel.s
      have hc : ob.cls = c := by simpa using h
      obtain ⟨a', dx, fvs, AA, ff, BB, rfl, ei', eh, en, l, _⟩ := h2.at eo (by rw [hc]; exact hne)
      rw [ei] at ei'
      cases ei'
      subst hc
      exact ⟨n, a, dx, fvs, rfl, rfl, rfl, ei, eh⟩
  | _ => cases h
section
variable {X : Cx} {CT : Nat → Addr} {e o : Expr} {es : List Expr} {pos : Pos} {mo : M D} {ml : M (List Arg)} {wx : XK}
variable {CX : CXT} {k n c : Nat} {fa pa : Addr} {fd : FuncData} {ps : List Str} {dvs : List V} {ds : List Value} {dd : List D} {mn : String} {p apos : Pos} {g : CallM}
theorem me_methE {pl : Sem Bool} (h : ME X CT o mo) (hc : Cls X.K (CT c)) (hm : Meth X.K (CT c) (Str.ofString mn) fa) (F : FnOk X.prog X.w X.K X.mg X.base CX k fa fd ps (spM X.K CT n g)) (hn : ∀ ds hs o, g ds hs = .ok o → ds.length = n) (hr : Room k X.A) (hb : Binds X.K fd ps ds) (hd : Vals dvs ds) (hdd : Consts X.K dvs dd) (hx : Passes CX X wx) (ha : MA X CT (e :: es) ml)
    (hst : starEach (e :: es) X.env = (false, eval e X.env) :: starEach es X.env := by rfl) (hpl : (backTo pos (starEach es X.env)).any (·.1) = false := by rfl)
    (ht : eval (.Call (.Attribute o (Str.ofString mn) apos) (e :: es) [] pos) X.env = (do
      let ov ← eval o X.env
      standAt apos.atName
      let (f, first) ← holding [ov] (getMethod ov (Str.ofString mn) pl)
      callWith pos f first (backTo pos (starEach (e :: es) X.env)) (backToKw pos (keywordEach [] X.env))) := by rfl) (hne : c ≠ BOXC := by decide) :
    ME X CT (.Call (.Attribute o (Str.ofString mn) apos) (e :: es) [] pos) (mMethE c mn g dd mo ml) :=
  pe_weak (pe_meth h hc hm F hr hb hd hx ha hst hpl ht) fun σ H Q ⟨W, m, fp, d, m', rel, e, q⟩ => by
    obtain ⟨⟨d0, m0⟩, e0, e⟩ := Res.bind_eq e
    obtain ⟨hi, e⟩ := Res.when_eq e
    obtain ⟨⟨as, m1⟩, e1, e⟩ := Res.bind_eq e
    refine ⟨W, m, fp, d0, m0, rel, e0, fun v W1 H1 fp1 fd0 p => ?_⟩
    obtain ⟨i, a, dx, fs, rfl, rfl, rfl, ei, eh, el⟩ := isOf_rep p.rel p.rep hi hne
    refine ⟨a, dx, fs, rfl, eh, el, W1, m0, fp1, as, m1, p.rel, e1, fun vs W2 H2 fp2 fa2 p2 => ?_⟩
    have s1 : ∀ b ∈ fp1, b ∈ fp ∨ H b = none := fun b z => p.sub b (by simpa using z)
    have x12 : Ext W H W2 H2 fp := p.ext.trans p2.ext s1
    have := sp_call (vs := .ref a :: vs) (as := .val (.loc i) :: as) (Q := Q) (wx := wx) hdd hn (p := ⟨p2.rel, RepA.val (f := []) (.loc (p2.ext.im i a ei)) p2.rep, p2.nd, p2.own, x12, fun b z => by
      rcases p2.sub b z with z | z
      · exact s1 b z
      · exact .inr (p.ext.there b z)⟩) e q
    exact this
theorem me_methE0 {pl : Sem Bool} (h : ME X CT o mo) (hc : Cls X.K (CT c)) (hm : Meth X.K (CT c) (Str.ofString mn) fa) (F : FnOk X.prog X.w X.K X.mg X.base CX k fa fd ps (spM X.K CT n g)) (hn : ∀ ds hs o, g ds hs = .ok o → ds.length = n) (hr : Room k X.A) (hb : Binds X.K fd ps ds) (hd : Vals dvs ds) (hdd : Consts X.K dvs dd) (hx : Passes CX X wx)
    (ht : eval (.Call (.Attribute o (Str.ofString mn) apos) [] [] pos) X.env = (do
      let ov ← eval o X.env
      standAt apos.atName
      let (f, first) ← holding [ov] (getMethod ov (Str.ofString mn) pl)
      callWith pos f first (backTo pos (starEach [] X.env)) (backToKw pos (keywordEach [] X.env))) := by rfl) (hne : c ≠ BOXC := by decide) :
    ME X CT (.Call (.Attribute o (Str.ofString mn) apos) [] [] pos) (mMethE c mn g dd mo maNil) :=
  pe_weak (pe_meth0 h hc hm F hr hb hd hx ht) fun σ H Q ⟨W, m, fp, d, m', rel, e, q⟩ => by
    obtain ⟨⟨d0, m0⟩, e0, e⟩ := Res.bind_eq e
    obtain ⟨hi, e⟩ := Res.when_eq e
    obtain ⟨⟨as, m1⟩, e1, e⟩ := Res.bind_eq e
    cases e1
    refine ⟨W, m, fp, d0, m0, rel, e0, fun v W1 H1 fp1 fd0 p => ?_⟩
    obtain ⟨i, a, dx, fs, rfl, rfl, rfl, ei, eh, el⟩ := isOf_rep p.rel p.rep hi hne
    refine ⟨a, dx, fs, rfl, eh, el, ?_⟩
    exact sp_call (vs := [.ref a]) (as := [.val (.loc i)]) (Q := Q) (wx := wx) hdd hn (p := ⟨p.rel, RepA.val (f := []) (.loc ei) .nil, p.nd, Own.nil, p.ext, p.sub⟩) e q
theorem me_prop (h : ME X CT o mo) (hc : Cls X.K (CT c)) (hp : PropOf X.K (CT c) (Str.ofString mn) pa fa) (F : FnOk X.prog X.w X.K X.mg X.base CX k fa fd ps (spM X.K CT n g)) (hn : ∀ ds hs o, g ds hs = .ok o → ds.length = n) (hr : Room (k + 1) X.A) (hb : Binds X.K fd ps ds) (hd : Vals dvs ds) (hdd : Consts X.K dvs dd) (hx : Passes CX X.nox wx)
    (hab : attributeBase o (Str.ofString mn) X.env (eval o X.env) = eval o X.env := by rfl) (hne : c ≠ BOXC := by decide) :
    ME X CT (.Attribute o (Str.ofString mn) pos) (mProp c g dd mo) :=
  pe_weak (pe_prop h hc hp F hr hb hd hx hab) fun σ H Q ⟨W, m, fp, d, m', rel, e, q⟩ => by
    obtain ⟨⟨d0, m0⟩, e0, e⟩ := Res.bind_eq e
    obtain ⟨hi, e⟩ := Res.when_eq e
    refine ⟨W, m, fp, d0, m0, rel, e0, fun v W1 H1 fp1 fd0 p => ?_⟩
    obtain ⟨i, a, dx, fs, rfl, rfl, rfl, ei, eh⟩ := isCl_rep p.rel p.rep hi hne
    refine ⟨a, dx, fs, rfl, eh, ?_⟩
    exact sp_call (vs := [.ref a]) (as := [.val (.loc i)]) (Q := Q) (wx := wx) hdd hn (p := ⟨p.rel, RepA.val (f := []) (.loc ei) .nil, p.nd, Own.nil, p.ext, p.sub⟩) e q
end
end E
/-! EngZh: x.extend(new list), list(..) as an argument -/
namespace E
open PySem L2 PySem.Spec PyProof.Rows
theorem New.fz {K : PySem.W.Frag} {W W' : Wd} {H H' : Hp} {v : V} {d : D} {fd : List Addr} (n : New K W H v d W' H' fd) : New K W H v d.fz (W'.fixed fd) H' [] :=
  ⟨n.rep.fixed, ⟨fun a h => .inl (n.ext.fm a h), fun i a h => n.ext.im i a h, fun b o h m => n.ext.keep b o h m, fun a h => by
      rcases h with h | h
      · exact n.ext.fnew a h
      · exact .inr (.inr (n.fresh a h)), fun b h => n.ext.there b h⟩, n.ι, fun a h => by
    rcases h with h | h
    · exact n.fix a h
    · exact (n.own a h).2, List.nodup_nil, Own.nil, fun a z => nomatch z⟩
/-- a call of a built-in thing over what is looked at, fixed at once -/
def mnCB (g : List D → Res D) (l : MQ (List D)) : MQ D := fun m => (l m).bind fun ds => (g ds).bind fun d => .ok d.fz
def extAt (i : Nat) (d : D) (m : Mem) : Res (D × Mem) := (mqVar i m).bind fun l => match l, d with
  | .lst true xs, .lst true ys => Res.when (decide (xs.length + ys.length ≤ sizeLine) && pureL ys) (.ok (.non, { m with env := m.env.set i (.lst true (xs ++ ys)) }))
  | _, _ => .fail
def mExtN (i : Nat) (a : M D) : M D := fun m => (mqVar i m).bind fun d0 => Res.when d0.isL ((a m).bind fun r => extAt i r.1 r.2)
section
variable {X : Cx} {CT : Nat → Addr} {pin : List Nat} {e o : Expr} {es : List Expr} {i : Nat} {me : M D} {pos p0 apos cpos : Pos} {T : String} {g : List D → Res D} {ql : MQ (List D)} {x : Str}
theorem mn_cty (o : CallD X (.type T) g) (hg : Gl X x) (hm : X.mg x = none) (hv : bootBuiltins x = some (.type T)) (ha : MAQ X CT (e :: es) ql) (hn : x ≠ "__name__" := by decide) (hdb : (x == ("__debug__" : Str)) = false := by decide)
    (hst : starEach (e :: es) X.env = (false, eval e X.env) :: starEach es X.env := by rfl) (hpl : (backTo pos (starEach es X.env)).any (·.1) = false := by rfl) : MN X CT (.Call (.Name x p0) (e :: es) [] pos) (mnCB g ql) := by
  obtain ⟨r, h, k⟩ := o
  refine pe_weak (pe_callTy h hg hm hv ha hn hdb hst hpl) fun σ H Q ⟨W, m, fp, d, rel, e, q⟩ => ?_
  obtain ⟨ds, e1, e⟩ := Res.bind_eq e
  obtain ⟨d0, e2, e⟩ := Res.bind_eq e
  cases e
  refine ⟨W, m, fp, ds, rel, e1, fun vs W1 H1 fd p => ?_⟩
  refine k W1 H1 vs ds fd d0 Q p.rel.fix p.rep e2 fun v W2 H2 f2 n => ?_
  have n2 := n.fz
  exact q v _ _ [] ⟨n2.rep, (p.ext.trans n2.ext fun a z => nomatch z), n2.ι.trans (iota_same rel p.rel p.ext rfl), n2.fix, List.nodup_nil, Own.nil, fun a z => nomatch z⟩
theorem me_extN (ho : PE X o (tVar i)) (ha : ME X CT e me)
    (hbase : attributeBase o "extend" X.env (eval o X.env) = eval o X.env := by rfl)
    (hfew : ((backTo cpos (starEach [e] X.env)).all (fun x => !x.1) && (backToKw cpos (keywordEach [] X.env)).all (fun x => x.1.isSome)
      && decide (([e] : List Expr).length + ([] : List Keyword).length + (if ([] : List Keyword).isEmpty then 0 else 1) < 30)) = true := by rfl)
    (hline : (apos.endLine == cpos.line) = true := by rfl) (hs : starEach [e] X.env = (false, eval e X.env) :: starEach [] X.env := by rfl) (hplain : (backTo cpos (starEach [] X.env)).any (·.1) = false := by rfl) :
    ME X CT (.Call (.Attribute o "extend" apos) [e] [] cpos) (mExtN i me) :=
  pe_weak (pe_bm PySem.F.plainAttrs_list PySem.F.slot_list_extend PySem.F.type_list_extend mt_extend ho (pa_cons ha pa_nil hs) hbase hfew hline hs hplain) fun σ H Q ⟨W, m, fp, d, m', rel, e, k⟩ => by
    obtain ⟨d0, e0, e⟩ := Res.bind_eq e
    obtain ⟨hL, e⟩ := Res.when_eq e
    obtain ⟨⟨d1, m1⟩, e1, e⟩ := Res.bind_eq e
    obtain ⟨v, f, s, r, _⟩ := var_of rel e0
    refine ⟨v, s, ?_, W, m, fp, d1, m1, rel, e1, fun y W1 H1 fp1 fd p => ?_⟩
    · cases d0 <;> simp [D.isL] at hL
      obtain ⟨a, vs, g, rfl, sq, _, _⟩ := r.lst
      exact .inl ⟨rfl, vs, sq⟩
    · obtain ⟨l0, e2, e⟩ := Res.bind_eq e
      dsimp only at e2 e
      split at e
      · rename_i xs ys _
        obtain ⟨hl, e⟩ := Res.when_eq e
        cases e
        rw [Bool.and_eq_true] at hl
        obtain ⟨a, vs, fx, s', ha, l, sb, kk⟩ := slot_mut p.rel (mqVar_eq e2).1 p.nd p.own
        rw [s] at s'
        cases s'
        have pr := p.rep
        cases pr with
        | @lstO b ws _ fy hb lb =>
          obtain rfl := lb.pure hl.2
          obtain ⟨fp', pt, _⟩ := kk (vs ++ ws) (xs ++ ys) (fx ++ []) [b] (l.app lb) (by rw [List.append_nil])
          refine ⟨a, b, vs, ws, rfl, rfl, ha, hb, by rw [l.length, lb.length]; exact of_decide_eq_true hl.1, k .non W1 _ fp' [] ?_⟩
          have s1 : ∀ c ∈ fp1 ++ [b], c ∈ fp ∨ H c = none := p.sub
          exact PostT.post ⟨pt.rel, p.ext.trans pt.ext s1, subT s1 pt.sub p.ext.there⟩ (Post.mk0 pt.rel .non)
      · cases e
end
@[simp] def dSum : List D → Res D
  | [.lst _ xs] => (Res.of (toInts xs)).bind fun ns => .ok (.int ns.sum)
  | _ => .fail
theorem cd_sum {X : Cx} (hc : X.calm = true) : CallD X (.builtin "sum") dSum := ⟨_, cr_sum hc, fun W H xs ds fs d Q x0 l e k => by
  unfold dSum at e; split at e
  · obtain ⟨ns, e1, e⟩ := Res.bind_eq e
    cases e
    have e2 := toInts_eq (Res.of_eq e1)
    cases l with | cons r l =>
      cases l
      obtain ⟨a, vs, g, rfl, s, l, _⟩ := r.lst
      rw [e2] at l
      obtain ⟨rfl, _⟩ := repI l
      exact ⟨a, ns, rfl, s, k _ W H [] (New.sc x0 .int)⟩
  · cases e⟩
end E
/-! EngZi: x[lo:hi], hi with effects, x a name -/
namespace E
open PySem L2 PySem.Spec PyProof.Rows
def slAt (i : Nat) (l : Option Int) (k : D) (m : Mem) : Res (D × Mem) := match k with
  | .int k => (mqVar i m).bind fun d => (dSl d l (some k)).bind fun d' => .ok (d', m)
  | _ => .fail
def mSlN (i : Nat) (lo : MQ (Option Int)) (hi : M D) : M D := fun m => (mqVar i m).bind fun _ => (lo m).bind fun l => (hi m).bind fun r => slAt i l r.1 r.2
section
variable {X : Cx} {CT : Nat → Addr} {a b : Expr} {i : Nat} {mb : M D} {pos : Pos}
theorem me_slN {lo : Option Expr} {p2 : Pos} {ql : MQ (Option Int)} (ha : PE X a (tVar i)) (hl : MO X CT lo ql) (hh : ME X CT b mb) : ME X CT (.Subscript a (.Slice lo (some b) none p2) pos) (mSlN i ql mb) :=
  pe_weak (pe_slice ((sl_list.or sl_tupA).or sl_str) ha hl (po_some hh)) fun σ H Q ⟨W, m, fp, d, m', rel, e, q⟩ => by
    obtain ⟨d0, e0, e⟩ := Res.bind_eq e
    obtain ⟨l, e1, e⟩ := Res.bind_eq e
    obtain ⟨⟨d1, m1⟩, e2, e⟩ := Res.bind_eq e
    obtain ⟨v, f, s, r, _⟩ := var_of rel e0
    refine ⟨v, s, W, m, fp, l, rel, e1, fun W1 H1 x1 r1 => ⟨W1, m, fp, d1, m1, r1, e2, fun y W2 H2 fp2 fd p => ?_⟩⟩
    unfold slAt at e
    dsimp only at e
    split at e
    · rename_i k
      obtain ⟨d2, e3, e⟩ := Res.bind_eq e
      obtain ⟨d3, e4, e⟩ := Res.bind_eq e
      cases e
      have rk := p.rep
      cases rk
      obtain ⟨v2, f2, s2, r2, _⟩ := var_of p.rel e3
      rw [s] at s2
      cases s2
      refine ⟨k, rfl, ?_⟩
      exact sl_rep p.rel.fix r2 e4 fun w W' H' fw n => q w W' H' fp2 fw (n.post p.rel ((x1.sub (fq := fp) fun a z => nomatch z).trans p.ext fun a z => .inl z) fun a z => (p.sub a (by simpa using z)).imp id (x1.there a))
    · cases e
end
end E
/-! EngZj: places: where owned data stand (names, boxes, attributes, items), and their changes in place -/
namespace E
open PySem L2 PySem.Spec PyProof.Rows

@[simp] def D.owned : D → Bool
  | .lst o _ => o
  | .dic o _ _ => o
  | _ => false
inductive Pl where
  | nm (i : Nat)
  | bx (k : Nat)
  | at (n : Nat) (f : String)
  | it (p : Pl) (j : Nat)
def boxIn : Option Ob → Option D
  | some ⟨c, [(s, d)]⟩ => if c = BOXC ∧ s = "" then some d else none
  | _ => none
theorem boxIn_eq {o : Option Ob} {d : D} (h : boxIn o = some d) : o = some ⟨BOXC, [("", d)]⟩ := by
  unfold boxIn at h
  split at h
  · split at h
    · rename_i c
      obtain ⟨rfl, rfl⟩ := c
      cases h
      rfl
    · cases h
  · cases h
theorem boxIn_box {d : D} : boxIn (some ⟨BOXC, [("", d)]⟩) = some d := by
  show (if BOXC = BOXC ∧ ("" : String) = "" then some d else none) = some d
  rw [if_pos ⟨rfl, rfl⟩]
def atIn (f : String) : Option Ob → Option D
  | some ob => if ob.cls = BOXC then none else lookF f ob.fs
  | none => none
def Pl.get : Pl → Mem → Option D
  | .nm i, m => m.env[i]?
  | .bx k, m => boxIn m.hs[k]?
  | .at n f, m => atIn f m.hs[n]?
  | .it p j, m => match p.get m with
    | some (.lst true xs) => xs[j]?
    | _ => none
def Pl.put : Pl → D → Mem → Mem
  | .nm i, d, m => ⟨m.env.set i d, m.hs⟩
  | .bx k, d, m => ⟨m.env, m.hs.set k ⟨BOXC, [("", d)]⟩⟩
  | .at n f, d, m => match m.hs[n]? with
    | some ob => ⟨m.env, m.hs.set n ⟨ob.cls, setF f d ob.fs⟩⟩
    | none => m
  | .it p j, d, m => match p.get m with
    | some (.lst true xs) => p.put (.lst true (xs.set j d)) m
    | _ => m
/-- what stands there can be asked for and changed at a later time, too -/
def Pl.late : Pl → Bool
  | .nm _ => true
  | .bx _ => true
  | _ => false

section
variable {K : PySem.W.Frag} {CT : Nat → Addr} {W W' W1 W2 : Wd} {H H' H1 H2 : Hp} {σ : L2.St} {m m1 m2 : Mem} {fp fp1 fp2 fd f g : List Addr} {v x : V} {d d' res : D}
theorem RepD.owned_fp (h : RepD K W H v d f) (o : d.owned = true) : ∃ a f', v = .ref a ∧ f = a :: f' := by
  cases h <;> first | cases o; done | exact ⟨_, _, rfl, rfl⟩
theorem RepH.atB {ι : List Addr} {hs : List Ob} {g : List Addr} (h : RepH K CT W H ι hs g) : ∀ {n : Nat} {d : D}, hs[n]? = some ⟨BOXC, [("", d)]⟩ →
    ∃ a A f B, g = A ++ (a :: f) ++ B ∧ ι[n]? = some a ∧ RepD K W H (.ref a) d (a :: f) ∧
      ∀ {W' : Wd} {H' : Hp} {fq : List Addr} {d' : D} {f' : List Addr}, Ext W H W' H' fq → Off W fq → (∀ b ∈ A ++ B, b ∉ fq) → RepD K W' H' (.ref a) d' (a :: f') → RepH K CT W' H' ι (hs.set n ⟨BOXC, [("", d')]⟩) (A ++ (a :: f') ++ B) := by
  induction h with
  | nil => intro n ob e; simp at e
  | @box a d0 f ι hs g h1 h4 ih =>
    intro n d e
    cases n with
    | zero =>
      have e : (⟨BOXC, [("", d0)]⟩ : Ob) = ⟨BOXC, [("", d)]⟩ := by simpa using e
      cases e
      refine ⟨a, [], f, g, rfl, rfl, h1, fun x o nn r => ?_⟩
      exact .box r (h4.ext x o fun b z => nn b (by simpa using z))
    | succ n =>
      obtain ⟨a', A, f', B, e1, e2, e3, k⟩ := ih (by simpa using e)
      refine ⟨a', (a :: f) ++ A, f', B, by rw [e1]; simp, by simpa using e2, e3, fun x o nn r => ?_⟩
      have hn : ∀ b ∈ a :: f, b ∉ _ := fun b z => nn b (by simp only [List.mem_append]; exact .inl (.inl z))
      have := RepH.box (h1.ext x o hn) (k x o (fun b z => nn b (by
        rcases List.mem_append.mp z with z | z
        · simp [z]
        · simp [z])) r)
      simpa using this
  | @cons a c dx fvs fs f ι hs g h0 h1 h2 h3 h4 ih =>
    intro n d e
    cases n with
    | zero =>
      have e : (⟨c, fs⟩ : Ob) = ⟨BOXC, [("", d)]⟩ := by simpa using e
      cases e
      exact absurd rfl h0
    | succ n =>
      obtain ⟨a', A, f', B, e1, e2, e3, k⟩ := ih (by simpa using e)
      refine ⟨a', (a :: f) ++ A, f', B, by rw [e1]; simp, by simpa using e2, e3, fun x o nn r => ?_⟩
      have hn : ∀ b ∈ a :: f, b ∉ _ := fun b z => nn b (by simp only [List.mem_append]; exact .inl (.inl z))
      have := RepH.cons h0 (x.keep a _ h1 (hn a (List.mem_cons_self ..))) h2 (h3.ext x o fun b z => hn b (List.mem_cons_of_mem _ z)) (k x o (fun b z => nn b (by
        rcases List.mem_append.mp z with z | z
        · simp [z]
        · simp [z])) r)
      simpa using this
theorem RepH.snocB {ι : List Addr} {hs : List Ob} {g : List Addr} (h : RepH K CT W H ι hs g) {x : Addr} {d : D} {f : List Addr} (hx : RepD K W H (.ref x) d (x :: f)) : RepH K CT W H (ι ++ [x]) (hs ++ [⟨BOXC, [("", d)]⟩]) (g ++ (x :: f)) := by
  induction h with
  | nil =>
    have := RepH.box (CT := CT) (hs := []) (g := []) hx .nil
    simpa using this
  | box h1 _ ih =>
    have := RepH.box h1 ih
    simpa using this
  | cons h0 h1 h2 h3 _ ih =>
    have := RepH.cons h0 h1 h2 h3 ih
    simpa using this

/-- the state's data -/
def Body (K : PySem.W.Frag) (CT : Nat → Addr) (W : Wd) (H : Hp) (σ : L2.St) (m : Mem) (fp : List Addr) : Prop := ∃ f g, fp = f ++ g ∧ RepS K W H σ m.env f ∧ RepH K CT W H W.ι m.hs g
/-- the state with a hole where d stands -/
def Hole (K : PySem.W.Frag) (CT : Nat → Addr) (W : Wd) (H : Hp) (σ : L2.St) (m : Mem) (fp : List Addr) (p : Pl) (v : V) (d : D) : Prop :=
  ∃ A f B, fp = A ++ f ++ B ∧ RepD K W H v d f ∧ ∀ (W' : Wd) (H' : Hp) (fq : List Addr) (d' : D) (f' : List Addr), Ext W H W' H' fq → Off W fq → (∀ a ∈ A ++ B, a ∉ fq) → W'.ι = W.ι → d'.owned = true → RepD K W' H' v d' f' → Body K CT W' H' σ (p.put d' m) (A ++ f' ++ B)
theorem hole_nm {i : Nat} (rel : Rel K CT W H σ m fp) (e : m.env[i]? = some d) (nd : d ≠ .und) : ∃ v, σ[i]? = some (some v) ∧ Hole K CT W H σ m fp (.nm i) v d := by
  obtain ⟨f, g, rfl, h1, h2⟩ := rel.s
  obtain ⟨v, A, f1, B, rfl, s, r, k⟩ := h1.at e nd
  refine ⟨v, s, A, f1, B ++ g, by simp, r, fun W' H' fq d' f' x o n i1 ow r' => ?_⟩
  have ks := k (v' := v) x o (fun a z => n a (by
    rcases List.mem_append.mp z with z | z <;> simp [z])) r'
  rw [set_same s] at ks
  refine ⟨A ++ f' ++ B, g, by simp, ks, ?_⟩
  rw [i1]
  exact h2.ext x o fun a z => n a (by simp [z])
theorem hole_bx {k : Nat} (rel : Rel K CT W H σ m fp) (e : boxIn m.hs[k]? = some d) : ∃ a, W.ι[k]? = some a ∧ Hole K CT W H σ m fp (.bx k) (.ref a) d := by
  obtain ⟨f, g, rfl, h1, h2⟩ := rel.s
  obtain ⟨a, A, f1, B, rfl, s, r, kk⟩ := h2.atB (boxIn_eq e)
  refine ⟨a, s, f ++ A, a :: f1, B, by simp, r, fun W' H' fq d' f' x o n i1 ow r' => ?_⟩
  obtain ⟨a', f2, e1, rfl⟩ := r'.owned_fp ow
  cases e1
  have ks := kk x o (fun b z => n b (by
    rcases List.mem_append.mp z with z | z <;> simp [z])) r'
  refine ⟨f, A ++ (a :: f2) ++ B, by simp, h1.ext x o fun b z => n b (by simp [z]), ?_⟩
  rw [i1]
  exact ks
theorem hole_at {n : Nat} {fl : String} {ob : Ob} {a : Addr} (rel : Rel K CT W H σ m fp) (eo : m.hs[n]? = some ob) (hb : ob.cls ≠ BOXC) (el : lookF fl ob.fs = some d) (ei : W.ι[n]? = some a) :
    ∃ v dx fvs, H a = some (.ins (CT ob.cls) dx fvs) ∧ fvs.lookup (Str.ofString fl) = some v ∧ Hole K CT W H σ m fp (.at n fl) v d := by
  obtain ⟨s, g, rfl, h1, h2⟩ := rel.s
  obtain ⟨a', dx, fvs, A, ff, B, rfl, ei', eh, en, l, kk⟩ := h2.at eo hb
  rw [ei] at ei'
  cases ei'
  obtain ⟨v, A1, hh, B1, q1, rfl, q3, km⟩ := look_mut (f := fl) en l el
  refine ⟨v, dx, fvs, eh, q1, s ++ (A ++ (a :: A1)), hh, B1 ++ B, by simp, q3, fun W' H' fq d' f' x o nn i1 ow r' => ?_⟩
  have hin : ∀ b, b ∈ s ∨ b ∈ A ∨ b = a ∨ b ∈ A1 ∨ b ∈ B1 ∨ b ∈ B → b ∉ fq := fun b z => nn b (by
    simp only [List.mem_append, List.mem_cons]
    rcases z with z | z | z | z | z | z <;> simp [z])
  obtain ⟨w1, w2⟩ := km x o (fun b z => by
    rcases List.mem_append.mp z with z | z
    · exact hin b (by simp [z])
    · exact hin b (by simp [z])) r'
  have w3 := kk x o (fun b z => by
    rcases List.mem_append.mp z with z | z
    · exact hin b (by simp [z])
    · exact hin b (by simp [z])) (x.keep a _ eh (hin a (by simp))) w1 w2
  have ep : (Pl.at n fl).put d' m = ⟨m.env, m.hs.set n ⟨ob.cls, setF fl d' ob.fs⟩⟩ := by
    unfold Pl.put
    rw [eo]
  rw [ep]
  refine ⟨s, A ++ (a :: (A1 ++ f' ++ B1)) ++ B, by simp, h1.ext x o fun b z => hin b (by simp [z]), ?_⟩
  rw [i1]
  exact w3
/-- nothing of the state is touched -/
theorem Hole.ext {p : Pl} (h : Hole K CT W H σ m fp p v d) (e : Ext W H W1 H1 []) (i : W1.ι = W.ι) : Hole K CT W1 H1 σ m fp p v d := by
  obtain ⟨A, f, B, rfl, r, k⟩ := h
  refine ⟨A, f, B, rfl, r.ext e off_nil (fun a _ z => nomatch z), fun W' H' fq d' f' x o n i1 ow r' => ?_⟩
  exact k W' H' fq d' f' ((e.sub (fun a z => nomatch z)).trans x fun a z => .inl z) (fun a z y => o a z (e.fm a y)) n (i1.trans i) ow r'
theorem RepL.openAt {vs : List V} {ds : List D} : ∀ {g : List Addr}, RepL K W H vs ds g → ∀ {j : Nat} {d : D}, ds[j]? = some d →
    ∃ v A f B, g = A ++ f ++ B ∧ vs[j]? = some v ∧ RepD K W H v d f ∧ ∀ {W' : Wd} {H' : Hp} {fq : List Addr} {d' : D} {f' : List Addr}, Ext W H W' H' fq → Off W fq → (∀ a ∈ A ++ B, a ∉ fq) → RepD K W' H' v d' f' → RepL K W' H' vs (ds.set j d') (A ++ f' ++ B) := by
  induction vs generalizing ds with
  | nil => intro g h j d e; cases h; simp at e
  | cons v vs ih => intro g h j d e; cases h with
    | @cons _ d0 f0 _ ds g r l =>
      cases j with
      | zero =>
        simp at e; subst e
        exact ⟨v, [], f0, g, rfl, rfl, r, fun x o n r' => RepL.cons r' (l.ext x o fun a z => n a (by simpa using z))⟩
      | succ j =>
        obtain ⟨v', A, f, B, rfl, e1, r', k⟩ := ih l (by simpa using e)
        refine ⟨v', f0 ++ A, f, B, by simp, by simpa using e1, r', fun x o n r'' => ?_⟩
        have := RepL.cons (r.ext x o fun a z => n a (by simp [z])) (k x o (fun a z => n a (by
          rcases List.mem_append.mp z with z | z <;> simp [z])) r'')
        simpa using this
theorem hole_it {p : Pl} {xs : List D} {j : Nat} (h : Hole K CT W H σ m fp p v (.lst true xs)) (nd : fp.Nodup) (own : Own W H fp) (eg : p.get m = some (.lst true xs)) (e : xs[j]? = some d) :
    ∃ a vs w, v = .ref a ∧ H a = some (.lst vs) ∧ vs.length = xs.length ∧ vs[j]? = some w ∧ Hole K CT W H σ m fp (.it p j) w d := by
  obtain ⟨A, f, B, rfl, r, k⟩ := h
  cases r with
  | @lstO a vs _ fx ha l =>
    obtain ⟨w, A1, f1, B1, rfl, e1, r1, k1⟩ := l.openAt e
    refine ⟨a, vs, w, rfl, ha, l.length, e1, A ++ (a :: A1), f1, B1 ++ B, by simp, r1, fun W' H' fq d' f' x o n i1 ow r' => ?_⟩
    have hin : ∀ b, b ∈ A ∨ b = a ∨ b ∈ A1 ∨ b ∈ B1 ∨ b ∈ B → b ∉ fq := fun b z => n b (by
      simp only [List.mem_append, List.mem_cons]
      rcases z with z | z | z | z | z <;> simp [z])
    have l2 := k1 x o (fun b z => by
      rcases List.mem_append.mp z with z | z
      · exact hin b (by simp [z])
      · exact hin b (by simp [z])) r'
    have ep : (Pl.it p j).put d' m = p.put (.lst true (xs.set j d')) m := by
      show (match p.get m with | some (.lst true xs) => p.put (.lst true (xs.set j d')) m | _ => m) = _
      rw [eg]
    rw [ep]
    have := k W' H' fq (.lst true (xs.set j d')) _ x o (fun b z => by
      rcases List.mem_append.mp z with z | z
      · exact hin b (by simp [z])
      · exact hin b (by simp [z])) i1 rfl (.lstO (x.keep a _ ha (hin a (by simp))) l2)
    simpa using this

/-- behind a change in place: v is d', the answer x is res -/
structure OpPost (K : PySem.W.Frag) (W : Wd) (H : Hp) (f fd : List Addr) (v : V) (x : V) (res d' : D) (W' : Wd) (H' : Hp) (f' fr : List Addr) : Prop where
  ext : Ext W H W' H' f
  ι : W'.ι = W.ι
  fix : Fix W' H'
  rep : RepD K W' H' v d' f'
  res : RepD K W' H' x res fr
  nd : (f' ++ fr).Nodup
  own : Own W' H' (f' ++ fr)
  sub : ∀ b ∈ f' ++ fr, b ∈ f ∨ b ∈ fd ∨ H b = none
  mine : d'.owned = true
def MutD (X : Cx) (r : V → List V → Hp → VK → Prop) (g : D → List D → Res (D × D)) : Prop :=
  ∀ W H v d f vs ds fd res d' Q, Fix W H → Own W H (f ++ fd) → (f ++ fd).Nodup → RepD X.K W H v d f → RepL X.K W H vs ds fd → g d ds = .ok (res, d') →
    (∀ x W' H' f' fr, OpPost X.K W H f fd v x res d' W' H' f' fr → Q x H') → r v vs H Q
theorem Hole.post {p : Pl} {A B f f' fr : List Addr} (rel : Rel K CT W H σ m (A ++ f ++ B)) (nd : (A ++ f ++ B ++ fd).Nodup) (ownd : Own W H fd)
    (k : ∀ (W' : Wd) (H' : Hp) (fq : List Addr) (d' : D) (f' : List Addr), Ext W H W' H' fq → Off W fq → (∀ a ∈ A ++ B, a ∉ fq) → W'.ι = W.ι → d'.owned = true → RepD K W' H' v d' f' → Body K CT W' H' σ (p.put d' m) (A ++ f' ++ B))
    (o : OpPost K W H f fd v x res d' W' H' f' fr) : Post K CT W H σ (A ++ f ++ B ++ fd) x res (p.put d' m) W' H' (A ++ f' ++ B) fr := by
  have mA : ∀ b ∈ A ++ B, b ∈ A ++ f ++ B := fun b z => by
    rcases List.mem_append.mp z with z | z <;> simp [z]
  have dis : ∀ b ∈ A ++ B, b ∉ f ∧ b ∉ fd := fun b z => by
    have c1 := List.nodup_iff_count.mp nd b
    have c2 := List.count_pos_iff.mpr z
    simp only [List.count_append] at c1 c2
    refine ⟨fun y => ?_, fun y => ?_⟩
    · have c3 := List.count_pos_iff.mpr y; omega
    · have c3 := List.count_pos_iff.mpr y; omega
  have dis2 : ∀ b ∈ A ++ B, b ∉ f' ++ fr := fun b z y => by
    rcases o.sub b y with y | y | y
    · exact (dis b z).1 y
    · exact (dis b z).2 y
    · exact (rel.own b (mA b z)).2 y
  have off : Off W f := fun b z => (rel.own b (by simp [z])).1
  obtain ⟨s, g, es, h1, h2⟩ := k W' H' f d' f' o.ext off (fun b z => (dis b z).1) o.ι o.mine o.rep
  have ndAB : (A ++ B).Nodup := by
    rw [List.nodup_iff_count]
    intro b
    have := List.nodup_iff_count.mp nd b
    simp only [List.count_append] at this ⊢
    omega
  have ndT : (A ++ f' ++ B ++ fr).Nodup := by
    rw [List.nodup_iff_count]
    intro b
    have c1 := List.nodup_iff_count.mp ndAB b
    have c2 := List.nodup_iff_count.mp o.nd b
    simp only [List.count_append] at c1 c2 ⊢
    by_cases z : b ∈ A ++ B
    · have c3 := List.count_eq_zero.mpr (dis2 b z)
      simp only [List.count_append] at c3
      omega
    · have c3 := List.count_eq_zero.mpr z
      simp only [List.count_append] at c3
      omega
  have ownAB : Own W' H' (A ++ B) := (Own.ext (g := A ++ B) (fun b z => rel.own b (mA b z)) o.ext fun b z => (dis b z).1)
  have ownT : Own W' H' (A ++ f' ++ B) := fun b z => by
    simp only [List.mem_append] at z
    rcases z with (z | z) | z
    · exact ownAB b (by simp [z])
    · exact o.own b (by simp [z])
    · exact ownAB b (by simp [z])
  have nd2 := (List.nodup_append.mp ndT).1
  refine ⟨⟨⟨s, g, es, h1, h2⟩, nd2, ownT, o.fix⟩, o.res, ndT, fun b z => o.own b (by simp [z]), o.ext.sub fun b z => by simp [z], fun b z => ?_⟩
  have hz : b ∈ A ++ B ∨ b ∈ f' ++ fr := by
    simp only [List.mem_append] at z ⊢
    rcases z with ((z | z) | z) | z <;> simp [z]
  rcases hz with z | z
  · have := mA b z
    exact .inl (by simp only [List.mem_append] at this ⊢; exact .inl this)
  · rcases o.sub b z with y | y | y
    · exact .inl (by simp [y])
    · exact .inl (by simp [y])
    · exact .inr y
end

/-! ### an expression that tells a place -/
def tPl (K : PySem.W.Frag) (CT : Nat → Addr) (rs : MQ Pl) : TE := fun σ H Q => ∃ W m fp p, Rel K CT W H σ m fp ∧ rs m = .ok p ∧ ∀ v W' H', Rel K CT W' H' σ m fp → Ext W H W' H' [] →
  (∀ d, p.get m = some d → d ≠ .und → Hole K CT W' H' σ m fp p v d) →
  (p.late = true → ∀ W2 H2 m2 fp2 fq d, Rel K CT W2 H2 σ m2 fp2 → Ext W' H' W2 H2 fq → p.get m2 = some d → d ≠ .und → Hole K CT W2 H2 σ m2 fp2 p v d) → Q v H'
def MPl (X : Cx) (CT : Nat → Addr) (e : Expr) (rs : MQ Pl) : Prop := PE X e (tPl X.K CT rs)
/-- a name: its box, or the name itself -/
def rsN (i : Nat) : MQ Pl := fun m => (mqVar i m).bind fun d => match d with
  | .loc k => .ok (.bx k)
  | _ => .ok (.nm i)
/-- an attribute: its box, or the attribute itself -/
def rsA (cs : List Nat) (f : String) (q : MQ D) : MQ Pl := fun m => (q m).bind fun d => match d with
  | .loc n => match m.hs[n]? with
    | some ob => Res.when (cs.contains ob.cls) ((Res.of (lookF f ob.fs)).bind fun x => match x with
      | .loc k => .ok (.bx k)
      | _ => .ok (.at n f))
    | none => .fail
  | _ => .fail
section
variable {X : Cx} {CT : Nat → Addr} {e : Expr} {q : MQ D} {rs : MQ Pl} {cs : List Nat} {f : String} {pos : Pos}
theorem pl_nm {i : Nat} (h : PE X e (tVar i)) : MPl X CT e (rsN i) := pe_weak h fun σ H Q ⟨W, m, fp, p, rel, e, k⟩ => by
  obtain ⟨d, e1, e⟩ := Res.bind_eq e
  obtain ⟨e2, nu⟩ := mqVar_eq e1
  obtain ⟨v, s, hv⟩ := hole_nm rel e2 nu
  refine ⟨v, s, ?_⟩
  split at e
  · cases e
    rename_i kk
    obtain ⟨f, g, es, h1, h2⟩ := rel.s
    obtain ⟨v', A, f1, B, _, s', r, _⟩ := h1.at e2 nu
    rw [s] at s'
    cases s'
    cases r with
    | @loc _ a ei =>
      refine k _ W H rel (Ext.refl _ _ _) (fun d e3 _ => ?_) (fun _ W2 H2 m2 fp2 fq d r2 x e3 _ => ?_)
      · obtain ⟨a', ei', hh⟩ := hole_bx rel e3
        rw [ei] at ei'
        cases ei'
        exact hh
      · obtain ⟨a', ei', hh⟩ := hole_bx r2 e3
        have := x.im _ _ ei
        rw [ei'] at this
        cases this
        exact hh
  · cases e
    refine k v W H rel (Ext.refl _ _ _) (fun d e3 nu => ?_) (fun _ W2 H2 m2 fp2 fq d r2 x e3 nu => ?_)
    · obtain ⟨v', s', hh⟩ := hole_nm rel e3 nu
      rw [s] at s'
      cases s'
      exact hh
    · obtain ⟨v', s', hh⟩ := hole_nm r2 e3 nu
      rw [s] at s'
      cases s'
      exact hh
theorem pl_at (h : MEQ X CT e q) (A : Attr X.K CT cs f) (hb : attributeBase e (Str.ofString f) X.env (eval e X.env) = eval e X.env := by rfl) : MPl X CT (.Attribute e (Str.ofString f) pos) (rsA cs f q) :=
  pe_weak (pe_fld h hb) fun σ H Q ⟨W, m, fp, p, rel, e, k⟩ => by
    obtain ⟨d1, e1, e⟩ := Res.bind_eq e
    refine ⟨W, m, fp, d1, rel, e1, fun v W1 H1 fd pq => ?_⟩
    have rp := pq.rep
    split at e
    · split at e
      · rename_i n ob eo
        obtain ⟨hc, e⟩ := Res.when_eq e
        obtain ⟨x, el, e⟩ := Res.bind_eq e
        have el := Res.of_eq el
        obtain ⟨c0, c1, c2⟩ := A ob.cls (by simpa using hc)
        cases rp with
        | @loc _ a ei =>
          obtain ⟨v', dx, fvs, eh, ef, hh⟩ := hole_at pq.rel eo c0 el ei
          refine ⟨a, _, dx, fvs, v', rfl, eh, c1, c2, ef, ?_⟩
          split at e
          · cases e
            obtain ⟨_, _, _, _, r, _⟩ := hh
            cases r with
            | @loc kk b ei2 =>
              refine k _ W1 H1 pq.rel pq.ext (fun d e3 _ => ?_) (fun _ W2 H2 m2 fp2 fq d r2 x e3 _ => ?_)
              · obtain ⟨a', ei', hh⟩ := hole_bx pq.rel e3
                rw [ei2] at ei'
                cases ei'
                exact hh
              · obtain ⟨a', ei', hh⟩ := hole_bx r2 e3
                have := x.im _ _ ei2
                rw [ei'] at this
                cases this
                exact hh
          · cases e
            refine k v' W1 H1 pq.rel pq.ext (fun d e3 _ => ?_) (fun z => nomatch z)
            have : d = x := by
              change atIn f _ = some d at e3
              unfold atIn at e3
              rw [eo] at e3
              dsimp only at e3
              rw [if_neg c0, el] at e3
              exact (Option.some.inj e3).symm
            subst this
            exact hh
      · cases e
    · cases e
end

/-! ### a look at what stands in a box -/
def unB (m : Mem) : D → D
  | .loc k => match boxIn m.hs[k]? with
    | some d => d
    | none => .loc k
  | d => d
def mqUn (q : MQ D) : MQ D := fun m => (q m).bind fun d => .ok (unB m d)
section
variable {X : Cx} {CT : Nat → Addr} {e : Expr} {q : MQ D} {me : M D}
theorem meq_un' (h : MEQ X CT e q) : MEQ X CT e (mqUn q) := pe_weak h fun σ H Q ⟨W, m, fp, d, rel, e, k⟩ => by
  obtain ⟨d1, e1, e⟩ := Res.bind_eq e
  cases e
  refine ⟨W, m, fp, d1, rel, e1, fun v W' H' fd p => ?_⟩
  have rp := p.rep
  by_cases hx : ∃ n d2, d1 = .loc n ∧ boxIn m.hs[n]? = some d2
  · obtain ⟨n, d2, rfl, eb⟩ := hx
    cases rp with
    | @loc _ a ei =>
      obtain ⟨a', ei', A, f, B, rfl, r, _⟩ := hole_bx p.rel eb
      rw [ei] at ei'
      cases ei'
      have : unB m (.loc n) = d2 := by unfold unB; dsimp only; rw [eb]
      rw [this] at k
      exact k _ W' H' f ⟨p.rel, r, p.ext, fun b z => by simp [z]⟩
  · have : unB m d1 = d1 := by
      unfold unB
      split
      · rename_i kk
        split
        · rename_i d2 eb
          exact absurd ⟨kk, d2, rfl, eb⟩ hx
        · rfl
      · rfl
    rw [this] at k
    exact k v W' H' fd p
/-- what was made becomes a box -/
def mBox (x : M D) : M D := fun m => (x m).bind fun r => Res.when r.1.owned (.ok (.loc r.2.hs.length, ⟨r.2.env, r.2.hs ++ [⟨BOXC, [("", r.1)]⟩]⟩))
theorem me_box (h : ME X CT e me) : ME X CT e (mBox me) := pe_weak h fun σ H Q ⟨W, m, fp, d, m', rel, e, k⟩ => by
  obtain ⟨⟨d1, m1⟩, e1, e⟩ := Res.bind_eq e
  obtain ⟨ow, e⟩ := Res.when_eq e
  cases e
  refine ⟨W, m, fp, d1, m1, rel, e1, fun v W1 H1 fp1 fd p => ?_⟩
  obtain ⟨a, f', rfl, rfl⟩ := p.rep.owned_fp ow
  obtain ⟨s, g, rfl, h1, h2⟩ := p.rel.s
  have x : Ext W1 H1 ⟨W1.F, W1.ι ++ [a]⟩ H1 [] := ⟨fun _ h => h, fun n b h => by
    rw [List.getElem?_append_left (List.getElem?_eq_some_iff.mp h).1]; exact h, fun _ _ h _ => h, fun _ h => .inl h, fun _ h => h⟩
  have h2' : RepH X.K CT ⟨W1.F, W1.ι ++ [a]⟩ H1 (W1.ι ++ [a]) (m1.hs ++ [⟨BOXC, [("", d1)]⟩]) (g ++ (a :: f')) := (h2.ext x off_nil fun _ _ z => nomatch z).snocB (p.rep.ext x off_nil fun _ _ z => nomatch z)
  have el : (W1.ι ++ [a])[m1.hs.length]? = some a := by rw [← h2.len]; simp
  have own : Own W1 H1 (s ++ (g ++ (a :: f'))) := fun b z => by
    simp only [List.mem_append] at z
    rcases z with z | z | z
    · exact p.rel.own b (by simp [z])
    · exact p.rel.own b (by simp [z])
    · exact p.own b z
  have nd := p.nd
  rw [List.append_assoc] at nd
  refine k (.ref a) ⟨W1.F, W1.ι ++ [a]⟩ H1 (s ++ (g ++ (a :: f'))) [] ⟨⟨⟨s, g ++ (a :: f'), rfl, h1.ext x off_nil (fun _ _ z => nomatch z), h2'⟩, nd, own, p.rel.fix⟩, .loc el, by rw [List.append_nil]; exact nd, Own.nil, p.ext.trans x (fun _ z => nomatch z), fun b z => p.sub b (by simpa using z)⟩
end

/-! ### methods that change in place -/
def tyD (T : String) (d : D) : Bool := match d with
  | .lst _ _ => T == "list"
  | .dic true _ _ => T == "dict"
  | _ => false
theorem tyD_V {K : PySem.W.Frag} {W : Wd} {H : Hp} {T : String} {v : V} {d : D} {f : List Addr} (r : RepD K W H v d f) (h : tyD T d = true) : tyV K T v H := by
  cases r with
  | lstF h1 l => exact .inl ⟨by simpa [tyD] using h, _, h1.sq⟩
  | lstO h1 l => exact .inl ⟨by simpa [tyD] using h, _, .inl (.inl h1)⟩
  | dkO h1 _ _ => exact .inr (.inr (.inl ⟨by simpa [tyD] using h, .inl ⟨_, h1⟩⟩))
  | dtO h1 _ _ => exact .inr (.inr (.inl ⟨by simpa [tyD] using h, .inr ⟨_, h1⟩⟩))
  | _ => cases h
theorem tyD_und {T : String} {d : D} (h : tyD T d = true) : d ≠ .und := fun e => by subst e; cases h
/-- the arguments are reckoned behind the place -/
def mOpL (T : String) (g : D → List D → Res (D × D)) (rs : MQ Pl) (a : M (List Arg)) : M D := fun m => (rs m).bind fun p => Res.when p.late ((Res.of (p.get m)).bind fun d0 => Res.when (tyD T d0) ((a m).bind fun r => (vals r.1).bind fun ds => (Res.of (p.get r.2)).bind fun d => Res.when (tyD T d) ((g d ds).bind fun o => .ok (o.1, p.put o.2 r.2))))
/-- the arguments change nothing -/
def mOpW (T : String) (g : D → List D → Res (D × D)) (rs : MQ Pl) (a : MQ (List D)) : M D := fun m => (rs m).bind fun p => (Res.of (p.get m)).bind fun d => Res.when (tyD T d) ((a m).bind fun ds => (g d ds).bind fun o => .ok (o.1, p.put o.2 m))
section
variable {X : Cx} {CT : Nat → Addr} {e o : Expr} {es : List Expr} {rs : MQ Pl} {ml : M (List Arg)} {al : MQ (List D)} {T : String} {name : Str} {id : String} {r : V → List V → Hp → VK → Prop} {g : D → List D → Res (D × D)} {apos cpos : Pos}
theorem me_opL (pa : PlainAttrs T) (slot : Slot T name id) (hty : typeOf (.builtin id) = pure (.type "method_descriptor")) (hm : MtR X id r) (hd : MutD X r g) (ho : MPl X CT o rs) (ha : MA X CT (e :: es) ml)
    (hbase : attributeBase o name X.env (eval o X.env) = eval o X.env := by rfl)
    (hfew : ((backTo cpos (starEach (e :: es) X.env)).all (fun x => !x.1) && (backToKw cpos (keywordEach [] X.env)).all (fun x => x.1.isSome)
      && decide ((e :: es).length + ([] : List Keyword).length + (if ([] : List Keyword).isEmpty then 0 else 1) < 30)) = true := by rfl)
    (hline : (apos.endLine == cpos.line) = true := by rfl) (hs : starEach (e :: es) X.env = (false, eval e X.env) :: starEach es X.env := by rfl) (hplain : (backTo cpos (starEach es X.env)).any (·.1) = false := by rfl) :
    ME X CT (.Call (.Attribute o name apos) (e :: es) [] cpos) (mOpL T g rs ml) :=
  pe_weak (pe_bm pa slot hty hm ho ha hbase hfew hline hs hplain) fun σ H Q ⟨W, m, fp, d, m', rel, e, k⟩ => by
    obtain ⟨p, e1, e⟩ := Res.bind_eq e
    obtain ⟨lt, e⟩ := Res.when_eq e
    obtain ⟨d0, e2, e⟩ := Res.bind_eq e
    have e2 := Res.of_eq e2
    obtain ⟨ty0, e⟩ := Res.when_eq e
    obtain ⟨⟨as, m1⟩, e3, e⟩ := Res.bind_eq e
    obtain ⟨ds, e4, e⟩ := Res.bind_eq e
    obtain ⟨d1, e5, e⟩ := Res.bind_eq e
    have e5 := Res.of_eq e5
    obtain ⟨ty1, e⟩ := Res.when_eq e
    obtain ⟨⟨res, d2⟩, e6, e⟩ := Res.bind_eq e
    cases e
    refine ⟨W, m, fp, p, rel, e1, fun v W1 H1 rel1 x1 now later => ?_⟩
    refine ⟨?_, W1, m, fp, as, m1, rel1, e3, fun vs W2 H2 fp2 fd p2 => ?_⟩
    · obtain ⟨A, f, B, _, rd, _⟩ := now d0 e2 (tyD_und ty0)
      exact tyD_V rd ty0
    · obtain ⟨A, f, B, rfl, rd, kk⟩ := later lt W2 H2 m1 fp2 fp d1 p2.rel p2.ext e5 (tyD_und ty1)
      have rl := vals_rep p2.rep e4
      have nd := p2.nd
      have nd2 : (f ++ fd).Nodup := by
        rw [List.nodup_iff_count]; intro b
        have := List.nodup_iff_count.mp nd b
        simp only [List.count_append] at this ⊢
        omega
      refine hd W2 H2 v d1 f vs ds fd res d2 Q p2.rel.fix (Own.app.mpr ⟨fun b z => p2.rel.own b (by simp [z]), p2.own⟩) nd2 rd rl e6 fun x W' H' f' fr op => ?_
      have ps := Hole.post p2.rel nd p2.own kk op
      have x2 : Ext W H W2 H2 fp := (x1.sub (fq := fp) fun a z => nomatch z).trans p2.ext fun a z => .inl z
      have s2 : ∀ b ∈ A ++ f ++ B ++ fd, b ∈ fp ∨ H b = none := fun b z => (p2.sub b z).imp (fun h => h) (x1.there b)
      exact k x W' H' _ fr ⟨ps.rel, ps.rep, ps.nd, ps.own, x2.trans ps.ext s2, fun b z => by
        rcases ps.sub b z with z | z
        · exact s2 b z
        · exact .inr (x2.there b z)⟩
theorem me_opW (pa : PlainAttrs T) (slot : Slot T name id) (hty : typeOf (.builtin id) = pure (.type "method_descriptor")) (hm : MtR X id r) (hd : MutD X r g) (ho : MPl X CT o rs) (ha : MNA X CT (e :: es) al)
    (hbase : attributeBase o name X.env (eval o X.env) = eval o X.env := by rfl)
    (hfew : ((backTo cpos (starEach (e :: es) X.env)).all (fun x => !x.1) && (backToKw cpos (keywordEach [] X.env)).all (fun x => x.1.isSome)
      && decide ((e :: es).length + ([] : List Keyword).length + (if ([] : List Keyword).isEmpty then 0 else 1) < 30)) = true := by rfl)
    (hline : (apos.endLine == cpos.line) = true := by rfl) (hs : starEach (e :: es) X.env = (false, eval e X.env) :: starEach es X.env := by rfl) (hplain : (backTo cpos (starEach es X.env)).any (·.1) = false := by rfl) :
    ME X CT (.Call (.Attribute o name apos) (e :: es) [] cpos) (mOpW T g rs al) :=
  pe_weak (pe_bm pa slot hty hm ho ha hbase hfew hline hs hplain) fun σ H Q ⟨W, m, fp, d, m', rel, e, k⟩ => by
    obtain ⟨p, e1, e⟩ := Res.bind_eq e
    obtain ⟨d0, e2, e⟩ := Res.bind_eq e
    have e2 := Res.of_eq e2
    obtain ⟨ty0, e⟩ := Res.when_eq e
    obtain ⟨ds, e3, e⟩ := Res.bind_eq e
    obtain ⟨⟨res, d2⟩, e6, e⟩ := Res.bind_eq e
    cases e
    refine ⟨W, m, fp, p, rel, e1, fun v W1 H1 rel1 x1 now later => ?_⟩
    have hh := now d0 e2 (tyD_und ty0)
    refine ⟨?_, W1, m, fp, ds, rel1, e3, fun vs W2 H2 fd rl x2 i2 fx2 nd2 ow2 fr2 => ?_⟩
    · obtain ⟨A, f, B, _, rd, _⟩ := hh
      exact tyD_V rd ty0
    · have rel2 := rel1.ext x2 off_nil (fun _ _ z => nomatch z) i2 fx2
      obtain ⟨A, f, B, rfl, rd, kk⟩ := hh.ext x2 i2
      have nd : (A ++ f ++ B ++ fd).Nodup := by
        rw [List.nodup_append]
        refine ⟨rel2.nd, nd2, fun b z c y e => ?_⟩
        subst e
        exact (rel1.own b z).2 (fr2 b y)
      have ndf : (f ++ fd).Nodup := by
        rw [List.nodup_iff_count]; intro b
        have := List.nodup_iff_count.mp nd b
        simp only [List.count_append] at this ⊢
        omega
      refine hd W2 H2 v d0 f vs ds fd res d2 Q fx2 (Own.app.mpr ⟨fun b z => rel2.own b (by simp [z]), ow2⟩) ndf rd rl e6 fun x W' H' f' fr op => ?_
      have ps := Hole.post rel2 nd ow2 kk op
      have x3 : Ext W H W2 H2 (A ++ f ++ B) := (x1.trans x2 fun a z => nomatch z).sub fun a z => nomatch z
      have s2 : ∀ b ∈ A ++ f ++ B ++ fd, b ∈ A ++ f ++ B ∨ H b = none := fun b z => by
        rcases List.mem_append.mp z with z | z
        · exact .inl z
        · exact .inr (x1.there b (fr2 b z))
      exact k x W' H' _ fr ⟨ps.rel, ps.rep, ps.nd, ps.own, x3.trans ps.ext s2, fun b z => by
        rcases ps.sub b z with z | z
        · exact s2 b z
        · exact .inr (x3.there b z)⟩
end
end E
/-! EngZk: changes of owned lists at places -/
namespace E
open PySem L2 PySem.Spec PyProof.Rows

section
variable {K : PySem.W.Frag} {CT : Nat → Addr} {W W' : Wd} {H H' : Hp} {σ : L2.St} {m : Mem} {fp fd fx fx' fr f g : List Addr} {v x : V} {d d' res : D} {a : Addr}
theorem ext_updA {o : HO} : Ext W H W (upd H a o) [a] := ⟨fun _ h => h, fun _ _ h => h, fun b o h n => by rw [upd_ne (fun z => n (by simp [z]))]; exact h, fun _ h => .inl h, fun b h => by
  by_cases e : b = a
  · subst e; rw [upd_same] at h; cases h
  · rw [upd_ne e] at h; exact h⟩
/-- the object at a is changed; what it owned goes into it or into the answer -/
theorem mut_own {o : HO} (x0 : Fix W H) (own : Own W H ((a :: fx) ++ fd)) (nd : ((a :: fx) ++ fd).Nodup) (cnt : ∀ b, (fx' ++ fr).count b ≤ (fx ++ fd).count b)
    (mk : Ext W H W (upd H a o) [a] → Off W [a] → (∀ b ∈ fx', b ∉ [a]) → RepD K W (upd H a o) (.ref a) d' (a :: fx')) (rx : RepD K W H x res fr) (ow : d'.owned = true) :
    OpPost K W H (a :: fx) fd (.ref a) x res d' W (upd H a o) (a :: fx') fr := by
  have sub : ∀ b ∈ fx' ++ fr, b ∈ fx ++ fd := fun b z => by
    have c1 := List.count_pos_iff.mpr z
    exact List.count_pos_iff.mp (Nat.lt_of_lt_of_le c1 (cnt b))
  have na : a ∉ fx ++ fd := by
    rw [List.cons_append, List.nodup_cons] at nd
    exact nd.1
  have na' : a ∉ fx' ++ fr := fun z => na (sub a z)
  have x : Ext W H W (upd H a o) [a] := ext_updA
  have off : Off W [a] := fun b z => by rw [List.mem_singleton.mp z]; exact (own a (by simp)).1
  have nf : ∀ b ∈ fx', b ∉ [a] := fun b z y => by
    rw [List.mem_singleton.mp y] at z
    exact na' (by simp [z])
  have nr : ∀ b ∈ fr, b ∉ [a] := fun b z y => by
    rw [List.mem_singleton.mp y] at z
    exact na' (by simp [z])
  refine ⟨x.sub fun b z => by rw [List.mem_singleton.mp z]; simp, rfl, fix_upd x0, mk x off nf, rx.ext x off nr, ?_, ?_, ?_, ow⟩
  · rw [List.cons_append, List.nodup_cons]
    refine ⟨na', ?_⟩
    rw [List.nodup_iff_count]
    intro b
    rw [List.cons_append, List.nodup_cons] at nd
    exact Nat.le_trans (cnt b) (List.nodup_iff_count.mp nd.2 b)
  · intro b z
    have ob : ¬ W.F b ∧ H b ≠ none := by
      rw [List.cons_append] at z
      rcases List.mem_cons.mp z with z | z
      · subst z; exact own b (by simp)
      · have := sub b z
        exact own b (by rw [List.cons_append]; exact List.mem_cons_of_mem _ this)
    refine ⟨ob.1, ?_⟩
    by_cases e : b = a
    · subst e; rw [upd_same]; exact fun z => by cases z
    · rw [upd_ne e]; exact ob.2
  · intro b z
    rw [List.cons_append] at z
    rcases List.mem_cons.mp z with z | z
    · subst z; exact .inl (by simp)
    · rcases List.mem_append.mp (sub b z) with z | z
      · exact .inl (by simp [z])
      · exact .inr (.inl z)
theorem RepL.erase {vs : List V} {ds : List D} : ∀ {g : List Addr}, RepL K W H vs ds g → ∀ {j : Nat} {d : D}, ds[j]? = some d → ∃ v f g', vs[j]? = some v ∧ RepD K W H v d f ∧ RepL K W H (vs.eraseIdx j) (ds.eraseIdx j) g' ∧ (g' ++ f).Perm g := by
  induction vs generalizing ds with
  | nil => intro g h j d e; cases h; simp at e
  | cons v vs ih => intro g h j d e; cases h with
    | @cons _ d0 f0 _ ds g r l =>
      cases j with
      | zero =>
        simp at e; subst e
        exact ⟨v, f0, g, rfl, r, l, List.perm_append_comm⟩
      | succ j =>
        obtain ⟨v', f, g', e1, r', l', pm⟩ := ih l (by simpa using e)
        refine ⟨v', f, f0 ++ g', by simpa using e1, r', RepL.cons r l', ?_⟩
        rw [List.append_assoc]
        exact List.Perm.append_left _ pm
end

@[simp] def gAppend : D → List D → Res (D × D)
  | .lst true xs, [y] => Res.when (decide (xs.length < sizeLine)) (.ok (.non, .lst true (xs ++ [y])))
  | _, _ => .fail
@[simp] def gInsert : D → List D → Res (D × D)
  | .lst true xs, [.int n, y] => Res.when (decide (xs.length < sizeLine) && decide (0 ≤ n ∧ n ≤ (xs.length : Int))) (.ok (.non, .lst true (insL n.toNat y xs)))
  | _, _ => .fail
@[simp] def gExtend : D → List D → Res (D × D)
  | .lst true xs, [.lst true ys] => Res.when (decide (xs.length + ys.length ≤ sizeLine)) (.ok (.non, .lst true (xs ++ ys)))
  | _, _ => .fail
@[simp] def gPop : D → List D → Res (D × D)
  | .lst true xs, [] => (Res.of (xs[xs.length - 1]?)).bind fun y => .ok (y, .lst true (xs.eraseIdx (xs.length - 1)))
  | _, _ => .fail
@[simp] def gPopAt : D → List D → Res (D × D)
  | .lst true xs, [.int i] => Res.when (decide (-9223372036854775808 ≤ i ∧ i < 9223372036854775808)) ((Res.of (seqIndex? i xs.length)).bind fun k => (Res.of (xs[k]?)).bind fun y => .ok (y, .lst true (xs.eraseIdx k)))
  | _, _ => .fail
section
variable {X : Cx}
theorem mu_append : MutD X rAppend gAppend := fun W H v d f vs ds fd res d' Q x0 own nd rd rl e k => by
  unfold gAppend at e
  split at e
  · rename_i xs y
    obtain ⟨hl, e⟩ := Res.when_eq e
    cases e
    cases rd with
    | @lstO a vs' _ fx ha l =>
      cases rl with
      | @cons w _ fy _ _ gy ry rn =>
        cases rn
        rw [List.append_nil] at own nd
        refine ⟨a, vs', w, rfl, rfl, ha, by rw [l.length]; exact of_decide_eq_true hl, k .non W _ _ [] (mut_own x0 (fd := fy ++ []) (fx' := fx ++ fy) (by rw [List.append_nil]; exact own) (by rw [List.append_nil]; exact nd) (fun b => by simp) (fun x off nn => .lstO upd_same ?_) .non rfl)⟩
        have := (l.app (RepL.cons ry .nil)).ext x off (by simpa using nn)
        simpa using this
  · cases e
theorem mu_insert : MutD X (fun x vs H Q => ∃ (l : Addr) (xs : List V) (i : Int) (y : V), x = .ref l ∧ vs = [.int i, y] ∧ H l = some (.lst xs) ∧ xs.length < sizeLine ∧ 0 ≤ i ∧ i < 2 ^ 63 ∧
      Q .non (upd H l (.lst (xs.take i.toNat ++ [y] ++ xs.drop i.toNat)))) gInsert := fun W H v d f vs ds fd res d' Q x0 own nd rd rl e k => by
  unfold gInsert at e
  split at e
  · rename_i xs n y
    obtain ⟨hl, e⟩ := Res.when_eq e
    cases e
    rw [Bool.and_eq_true] at hl
    have hl1 := of_decide_eq_true hl.1
    have hl2 := of_decide_eq_true hl.2
    have hz := sizeLine_eq
    cases rd with
    | @lstO a vs' _ fx ha l =>
      cases rl with
      | @cons w _ fn _ _ gy rn rm =>
        cases rn
        cases rm with
        | @cons w _ fy _ _ gy ry rn =>
          cases rn
          obtain ⟨f1, f2, rfl, r1, r2⟩ := l.cut n.toNat
          refine ⟨a, vs', n, w, rfl, rfl, ha, by rw [l.length]; exact hl1, hl2.1, by omega, k .non W _ _ [] (mut_own x0 (fd := [] ++ (fy ++ [])) (fx' := f1 ++ fy ++ f2) own nd (fun b => by simp only [List.count_append, List.nil_append, List.append_nil, List.count_nil]; omega) (fun x off nn => .lstO upd_same ?_) .non rfl)⟩
          have := ((r1.app (RepL.cons ry .nil)).app r2)
          rw [List.append_nil] at this
          exact this.ext x off nn
  · cases e
theorem mu_extend : MutD X rExtend gExtend := fun W H v d f vs ds fd res d' Q x0 own nd rd rl e k => by
  unfold gExtend at e
  split at e
  · rename_i xs ys
    obtain ⟨hl, e⟩ := Res.when_eq e
    cases e
    have hl := of_decide_eq_true hl
    cases rd with
    | @lstO a vs' _ fx ha l =>
      cases rl with
      | @cons w _ fy _ _ gy ry rn =>
        cases rn
        cases ry with
        | @lstO b vs2 _ fy hb l2 =>
          refine ⟨a, b, vs', vs2, rfl, rfl, ha, hb, by rw [l.length, l2.length]; exact hl, k .non W _ _ [] (mut_own x0 (fd := (b :: fy) ++ []) (fx' := fx ++ fy) own nd (fun c => by simp only [List.count_append, List.count_cons, List.append_nil, List.count_nil]; omega) (fun x off nn => .lstO upd_same ?_) .non rfl)⟩
          exact (l.app l2).ext x off nn
  · cases e
theorem mu_pop : MutD X rPop gPop := fun W H v d f vs ds fd res d' Q x0 own nd rd rl e k => by
  unfold gPop at e
  split at e
  · rename_i xs
    obtain ⟨y, e1, e⟩ := Res.bind_eq e
    have e1 := Res.of_eq e1
    cases e
    cases rd with
    | @lstO a vs' _ fx ha l =>
      cases rl
      obtain ⟨w, fy, g', e2, ry, l', pm⟩ := l.erase e1
      have el : vs'[vs'.length - 1]? = some w := by rw [l.length]; exact e2
      refine ⟨a, vs', w, rfl, rfl, ha, el, k w W _ _ fy (mut_own x0 (fd := []) (fx' := g') own nd (fun c => by rw [pm.count_eq c]; simp) (fun x off nn => .lstO upd_same ?_) ry rfl)⟩
      have := l'.ext x off nn
      rw [← l.length, PyProof.Rows.Copied.eraseIdx_last] at this
      rw [← l.length]
      exact this
  · cases e
theorem mu_popAt : MutD X rPopAt gPopAt := fun W H v d f vs ds fd res d' Q x0 own nd rd rl e k => by
  unfold gPopAt at e
  split at e
  · rename_i xs i
    obtain ⟨hb, e⟩ := Res.when_eq e
    have hb := of_decide_eq_true hb
    obtain ⟨kk, e0, e⟩ := Res.bind_eq e
    have e0 := Res.of_eq e0
    obtain ⟨y, e1, e⟩ := Res.bind_eq e
    have e1 := Res.of_eq e1
    cases e
    cases rd with
    | @lstO a vs' _ fx ha l =>
      cases rl with
      | @cons w _ fn _ _ gy rn rm =>
        cases rn
        cases rm
        obtain ⟨w, fy, g', e2, ry, l', pm⟩ := l.erase e1
        refine ⟨a, vs', i, kk, w, rfl, rfl, ha, by omega, by omega, by rw [l.length]; exact e0, e2, k w W _ _ fy (mut_own x0 (fd := [] ++ []) (fx' := g') own nd (fun c => by rw [pm.count_eq c]; simp) (fun x off nn => .lstO upd_same (l'.ext x off nn)) ry rfl)⟩
  · cases e
end

/-! ### methods without arguments -/
def mOp0 (T : String) (g : D → List D → Res (D × D)) (rs : MQ Pl) : M D := fun m => (rs m).bind fun p => (Res.of (p.get m)).bind fun d => Res.when (tyD T d) ((g d []).bind fun o => .ok (o.1, p.put o.2 m))
section
variable {X : Cx} {CT : Nat → Addr} {pin : List Nat} {e o : Expr} {es : List Expr} {rs : MQ Pl} {T : String} {name : Str} {id : String} {r : V → List V → Hp → VK → Prop} {g : D → List D → Res (D × D)} {pos apos cpos : Pos} {q : MQ D}
theorem me_op0 (pa : PlainAttrs T) (slot : Slot T name id) (hty : typeOf (.builtin id) = pure (.type "method_descriptor")) (hm : MtR X id r) (hd : MutD X r g) (ho : MPl X CT o rs)
    (hbase : attributeBase o name X.env (eval o X.env) = eval o X.env := by rfl) (hline : (apos.endLine == cpos.line) = true := by rfl) :
    ME X CT (.Call (.Attribute o name apos) [] [] cpos) (mOp0 T g rs) :=
  pe_weak (pe_bm0 pa slot hty hm ho hbase hline) fun σ H Q ⟨W, m, fp, d, m', rel, e, k⟩ => by
    obtain ⟨p, e1, e⟩ := Res.bind_eq e
    obtain ⟨d0, e2, e⟩ := Res.bind_eq e
    have e2 := Res.of_eq e2
    obtain ⟨ty0, e⟩ := Res.when_eq e
    obtain ⟨⟨res, d2⟩, e6, e⟩ := Res.bind_eq e
    cases e
    refine ⟨W, m, fp, p, rel, e1, fun v W1 H1 rel1 x1 now later => ?_⟩
    obtain ⟨A, f, B, rfl, rd, kk⟩ := now d0 e2 (tyD_und ty0)
    refine ⟨tyD_V rd ty0, ?_⟩
    have nd : (A ++ f ++ B ++ []).Nodup := by rw [List.append_nil]; exact rel1.nd
    have ndf : (f ++ []).Nodup := by
      rw [List.nodup_iff_count]; intro b
      have := List.nodup_iff_count.mp nd b
      simp only [List.count_append] at this ⊢
      omega
    refine hd W1 H1 v d0 f [] [] [] res d2 Q rel1.fix (Own.app.mpr ⟨fun b z => rel1.own b (by simp [z]), Own.nil⟩) ndf rd .nil e6 fun x W' H' f' fr op => ?_
    have ps := Hole.post rel1 nd Own.nil kk op
    have x3 : Ext W H W1 H1 (A ++ f ++ B) := x1.sub fun a z => nomatch z
    have s2 : ∀ b ∈ A ++ f ++ B ++ [], b ∈ A ++ f ++ B ∨ H b = none := fun b z => .inl (by simpa using z)
    exact k x W' H' _ fr ⟨ps.rel, ps.rep, ps.nd, ps.own, x3.trans ps.ext s2, fun b z => by
      rcases ps.sub b z with z | z
      · exact s2 b z
      · exact .inr (x3.there b z)⟩
/-- p[k] = v -/
def bPut (T : TSet) : Prop := True
def gSetL : D → List D → Res (D × D)
  | .lst true xs, [.int k, y] => (Res.of (ixN xs.length k)).bind fun j => .ok (.non, .lst true (xs.set j y))
  | _, _ => .fail
/-- a change by x[k] = v as data: the arguments are k, v -/
def SetD (X : Cx) (t : TSet) (g : D → List D → Res (D × D)) : Prop := MutD X (fun v vs H Q => ∃ k y, vs = [k, y] ∧ t v k y H fun H' => Q .non H') g
def bSubP (g : D → List D → Res (D × D)) (rs : MQ Pl) (q : MQ D) : D → Mem → Res Mem := fun y m => (rs m).bind fun p => (q m).bind fun kd => Res.when kd.pure ((Res.of (p.get m)).bind fun d => Res.when d.defd ((g d [kd, y]).bind fun o => .ok (p.put o.2 m)))
theorem mg_subP {t : TSet} (hd : SetD X t g) (hset : PSet X t) (ho : MPl X CT o rs) (hi : MEQ X CT e q) (ha : ∀ v, assign (.Subscript o e pos) X.env v = (do
      let ov ← holding [v] (eval o X.env)
      let iv ← holding [v, ov] (eval e X.env)
      standAt pos
      holding [v, ov, iv] (setItem ov iv v)
      release [v, ov, iv] []) := by intro _; rfl) : MG X CT pin (.Subscript o e pos) (bSubP g rs q) := by
  refine ⟨fun pins s σ H v u Q I r h => (pg_sub ho hi hset ha).run pins s σ H v u Q I r ?_⟩
  obtain ⟨W, m, fp, d, fd, m', rel, rp, nd, own, e, k⟩ := h
  obtain ⟨p, e1, e⟩ := Res.bind_eq e
  obtain ⟨kd, e2, e⟩ := Res.bind_eq e
  obtain ⟨pk, e⟩ := Res.when_eq e
  obtain ⟨d0, e3, e⟩ := Res.bind_eq e
  have e3 := Res.of_eq e3
  obtain ⟨df, e⟩ := Res.when_eq e
  obtain ⟨⟨res, d2⟩, e4, e⟩ := Res.bind_eq e
  cases e
  refine ⟨W, m, fp, p, rel, e1, fun v0 W1 H1 rel1 x1 now _ => ⟨W1, m, fp, kd, rel1, e2, fun kv W2 H2 fk p2 => ?_⟩⟩
  obtain rfl := p2.rep.pure pk
  have i2 : W2.ι = W1.ι := iota_same rel1 p2.rel p2.ext rfl
  obtain ⟨A, f, B, rfl, rd, kk⟩ := (now d0 e3 (by rintro rfl; cases df)).ext p2.ext i2
  have x2 : Ext W H W2 H2 [] := x1.trans p2.ext fun a z => nomatch z
  have ry := rp.ext x2 off_nil fun _ _ z => nomatch z
  have own2 := own.ext x2 fun _ _ z => nomatch z
  have ndf : (f ++ ([] ++ (fd ++ []))).Nodup := by
    rw [List.nodup_iff_count]; intro b
    have := List.nodup_iff_count.mp nd b
    simp only [List.count_append, List.nil_append, List.append_nil] at this ⊢
    omega
  have rl : RepL X.K W2 H2 [kv, v] [kd, d] ([] ++ (fd ++ [])) := .cons p2.rep (.cons ry .nil)
  obtain ⟨k0, y0, ek, ht⟩ := hd W2 H2 v0 d0 f [kv, v] [kd, d] _ res d2 (fun _ H' => Q (σ) H') p2.rel.fix (Own.app.mpr ⟨fun b z => p2.rel.own b (by simp [z]), by simpa using own2⟩) ndf rd rl e4 fun x W' H' f' fr op => by
    have nd2 : (A ++ f ++ B ++ ([] ++ (fd ++ []))).Nodup := by simpa using nd
    have ps := Hole.post p2.rel nd2 (by simpa using own2) kk op
    have x3 : Ext W H W2 H2 (A ++ f ++ B ++ fd) := x2.sub fun a z => nomatch z
    refine k σ W' H' _ ⟨ps.rel, ?_, fun b z => ?_, fun _ _ => rfl, rfl⟩
    · have := x3.trans ps.ext fun b z => .inl (by simpa using z)
      exact this
    · rcases ps.sub b (List.mem_append_left _ z) with z | z
      · exact .inl (by simpa using z)
      · exact .inr (x2.there b z)
  cases ek
  exact ht
theorem sd_list : SetD X rSetL gSetL := fun W H v d f vs ds fd res d' Q x0 own nd rd rl e k => by
  unfold gSetL at e
  split at e
  · rename_i xs n y
    obtain ⟨j, e1, e⟩ := Res.bind_eq e
    have e1 := Res.of_eq e1
    cases e
    cases rd with
    | @lstO a vs' _ fx ha l =>
      cases rl with
      | @cons w _ fn _ _ gy rn rm =>
        cases rn
        cases rm with
        | @cons w _ fy _ _ gy ry rn =>
          cases rn
          obtain ⟨fx', rest, l', pm⟩ := l.set ry j
          refine ⟨_, _, rfl, a, vs', _, j, rfl, rfl, ha, by rw [l.length]; exact e1, k .non W _ _ [] (mut_own x0 (fd := [] ++ (fy ++ [])) (fx' := fx') own nd (fun b => ?_) (fun x off nn => .lstO upd_same (l'.ext x off nn)) .non rfl)⟩
          have := pm.count_eq b
          simp only [List.count_append, List.nil_append, List.append_nil, List.count_nil] at this ⊢
          omega
  · cases e
end
end E
/-! EngZl: texts: max, min, sorted, walks; walks over boxes -/
namespace PySem
open Sem (wp)
theorem cmpOf_gtS {prog : Program} {w : World} {A : Around} (vs : Array Value) (f : Nat → Str) (hn : ∀ i v, vs[i]? = some v → ∃ t, v = Value.str (f i) t) :
    CmpOf prog w A .Gt (fun i v => vs[i]? = some v) (fun i j => decide ((f j).cps.toList < (f i).cps.toList)) := fun i j vi vj s Q E hi hj h => by
  obtain ⟨t, rfl⟩ := hn i vi hi
  obtain ⟨u, rfl⟩ := hn j vj hj
  exact richCompare_gives (op := .Gt) (typeIs_str s _ t) (typeIs_str s _ u) F.slot_str_gt F.entry_str_gt (F.args_str_gt_2 _ _) (gives_str_gt _ _ t u) (fun x => nomatch x) h
theorem cmpOf_ltS {prog : Program} {w : World} {A : Around} (vs : Array Value) (f : Nat → Str) (hn : ∀ i v, vs[i]? = some v → ∃ t, v = Value.str (f i) t) :
    CmpOf prog w A .Lt (fun i v => vs[i]? = some v) (fun i j => decide ((f i).cps.toList < (f j).cps.toList)) := fun i j vi vj s Q E hi hj h => by
  obtain ⟨t, rfl⟩ := hn i vi hi
  obtain ⟨u, rfl⟩ := hn j vj hj
  exact richCompare_gives (op := .Lt) (typeIs_str s _ t) (typeIs_str s _ u) F.slot_str_lt F.entry_str_lt (F.args_str_lt_2 _ _) (gives_str_lt _ _ t u) (fun x => nomatch x) h
theorem two_at {a b : Str} {t u : Tok} : ∀ (i : Nat) (v : Value), (#[Value.str a t, Value.str b u] : Array Value)[i]? = some v → ∃ t', v = Value.str (if i = 0 then a else b) t'
  | 0, v, e => ⟨t, by simpa using e.symm⟩
  | 1, v, e => ⟨u, by simpa using e.symm⟩
  | i + 2, v, e => by simp at e
theorem two_best {a b v : Value} (f : Nat → Nat → Bool) (hP : (#[a, b] : Array Value)[argBest f ((#[a, b] : Array Value).size - 1)]? = some v) : v = if f 1 0 = true then b else a := by
  cases h : f 1 0 <;> simp [argBest, h] at hP <;> simp [hP]
theorem max_two_str {prog : Program} {w : World} {A : Around} {E : Value → Shared → Prop} {s : Shared} {Q : Value → Shared → Prop} {a b : Str} {t u : Tok} (hh : A.handled = none)
    (h : ∀ h' tk, (∀ c o, s.heap.get? c = some o → h'.get? c = some o) → Q (if a.cps.toList < b.cps.toList then .str b u else .str a t) { s with heap := h', toks := tk }) :
    wpAny (model prog w) A (call (.builtin "max") [.str a t, .str b u]) Q E s := by
  have hT : (s.heap.push { cls := .type "tuple", data := .seq #[.str a t, .str b u] }).IsTuple s.heap.objs.size #[.str a t, .str b u] := ⟨_, Heap.get?_push_size _ rfl, rfl, 0, rfl⟩
  refine call_max_two (wpAny_pyIter_tuple hT ?_)
  have hsz : (s.heap.push { cls := .type "tuple", data := .seq #[.str a t, .str b u] }).objs.size = s.heap.objs.size + 1 := Heap.size_push ..
  refine ⟨_, [_, s.heap.objs.size], [_], _, _, _, _, rfl, Walks.tuple (A := A.in1) hh _ s.heap.objs.size (by rw [hsz]; exact Nat.ne_of_lt (Nat.lt_succ_self _)) #[.str a t, .str b u],
    ⟨⟨_, Heap.get?_push_size _ rfl, rfl, rfl⟩, hT.push _⟩, fun c hc => ?_, by simp, cmpOf_gtS #[.str a t, .str b u] (fun i => if i = 0 then a else b) two_at, fun v h' tk hP hk => ?_⟩
  · show c < ((s.heap.push _).push _).objs.size
    rw [Heap.size_push, hsz]
    rcases List.mem_cons.mp hc with rfl | hc
    · rw [hsz]; exact Nat.lt_succ_self _
    · rcases List.mem_cons.mp hc with rfl | hc
      · exact Nat.lt_succ_of_lt (Nat.lt_succ_self _)
      · cases hc
  · have hold : ∀ c o, s.heap.get? c = some o → h'.get? c = some o := fun c o e => by
      refine hk c o (fun hm => ?_) (Heap.get?_push_of_some _ (Heap.get?_push_of_some _ e))
      rcases List.mem_cons.mp hm with e1 | hm
      · have := Heap.lt_size e; rw [e1, hsz] at this; exact Nat.lt_irrefl _ (Nat.lt_of_succ_lt this)
      · cases hm
    have := h h' tk hold
    have hv : v = if a.cps.toList < b.cps.toList then Value.str b u else Value.str a t := by
      have := two_best _ hP
      rw [if_pos rfl, if_neg (show ¬ (1 : Nat) = 0 by decide)] at this
      rw [this]
      by_cases hc : a.cps.toList < b.cps.toList
      · rw [if_pos hc, if_pos (decide_eq_true hc)]
      · rw [if_neg hc, if_neg (by rw [decide_eq_true_eq]; exact hc)]
    rw [hv]; exact this
theorem min_two_str {prog : Program} {w : World} {A : Around} {E : Value → Shared → Prop} {s : Shared} {Q : Value → Shared → Prop} {a b : Str} {t u : Tok} (hh : A.handled = none)
    (h : ∀ h' tk, (∀ c o, s.heap.get? c = some o → h'.get? c = some o) → Q (if b.cps.toList < a.cps.toList then .str b u else .str a t) { s with heap := h', toks := tk }) :
    wpAny (model prog w) A (call (.builtin "min") [.str a t, .str b u]) Q E s := by
  have hT : (s.heap.push { cls := .type "tuple", data := .seq #[.str a t, .str b u] }).IsTuple s.heap.objs.size #[.str a t, .str b u] := ⟨_, Heap.get?_push_size _ rfl, rfl, 0, rfl⟩
  refine call_min_two (wpAny_pyIter_tuple hT ?_)
  have hsz : (s.heap.push { cls := .type "tuple", data := .seq #[.str a t, .str b u] }).objs.size = s.heap.objs.size + 1 := Heap.size_push ..
  refine ⟨_, [_, s.heap.objs.size], [_], _, _, _, _, rfl, Walks.tuple (A := A.in1) hh _ s.heap.objs.size (by rw [hsz]; exact Nat.ne_of_lt (Nat.lt_succ_self _)) #[.str a t, .str b u],
    ⟨⟨_, Heap.get?_push_size _ rfl, rfl, rfl⟩, hT.push _⟩, fun c hc => ?_, by simp, cmpOf_ltS #[.str a t, .str b u] (fun i => if i = 0 then a else b) two_at, fun v h' tk hP hk => ?_⟩
  · show c < ((s.heap.push _).push _).objs.size
    rw [Heap.size_push, hsz]
    rcases List.mem_cons.mp hc with rfl | hc
    · rw [hsz]; exact Nat.lt_succ_self _
    · rcases List.mem_cons.mp hc with rfl | hc
      · exact Nat.lt_succ_of_lt (Nat.lt_succ_self _)
      · cases hc
  · have hold : ∀ c o, s.heap.get? c = some o → h'.get? c = some o := fun c o e => by
      refine hk c o (fun hm => ?_) (Heap.get?_push_of_some _ (Heap.get?_push_of_some _ e))
      rcases List.mem_cons.mp hm with e1 | hm
      · have := Heap.lt_size e; rw [e1, hsz] at this; exact Nat.lt_irrefl _ (Nat.lt_of_succ_lt this)
      · cases hm
    have := h h' tk hold
    have hv : v = if b.cps.toList < a.cps.toList then Value.str b u else Value.str a t := by
      have := two_best _ hP
      rw [if_pos rfl, if_neg (show ¬ (1 : Nat) = 0 by decide)] at this
      rw [this]
      by_cases hc : b.cps.toList < a.cps.toList
      · rw [if_pos hc, if_pos (decide_eq_true hc)]
      · rw [if_neg hc, if_neg (by rw [decide_eq_true_eq]; exact hc)]
    rw [hv]; exact this
end PySem
namespace E
open PySem L2 PySem.Spec PyProof.Rows

/-! ### max, min of two texts or two ints -/
@[simp] def dMax2S : List D → Res D
  | [.int i, .int j] => .ok (.int (if j > i then j else i))
  | [.str i, .str j] => .ok (.str (if i.cps.toList < j.cps.toList then j else i))
  | _ => .fail
@[simp] def dMin2S : List D → Res D
  | [.int i, .int j] => .ok (.int (if j < i then j else i))
  | [.str i, .str j] => .ok (.str (if j.cps.toList < i.cps.toList then j else i))
  | _ => .fail
section
variable {X : Cx}
theorem call_max2S (hc : X.calm = true) : CallR X (.builtin "max") (fun xs H Q => ∃ i j, xs = [.str i, .str j] ∧ Q (.str (if i.cps.toList < j.cps.toList then j else i)) H) := by
  intro pins s σ H xs us Q I r h
  obtain ⟨i, j, rfl, q⟩ := h
  obtain ⟨u, w', rfl, ⟨t, rfl⟩, ⟨t', rfl⟩⟩ := vals2 r
  refine max_two_str (I.ok.hd hc) fun h' tk k => ⟨_, H, I.kept k, ?_, q⟩
  split
  · exact ⟨_, rfl⟩
  · exact ⟨_, rfl⟩
theorem call_min2S (hc : X.calm = true) : CallR X (.builtin "min") (fun xs H Q => ∃ i j, xs = [.str i, .str j] ∧ Q (.str (if j.cps.toList < i.cps.toList then j else i)) H) := by
  intro pins s σ H xs us Q I r h
  obtain ⟨i, j, rfl, q⟩ := h
  obtain ⟨u, w', rfl, ⟨t, rfl⟩, ⟨t', rfl⟩⟩ := vals2 r
  refine min_two_str (I.ok.hd hc) fun h' tk k => ⟨_, H, I.kept k, ?_, q⟩
  split
  · exact ⟨_, rfl⟩
  · exact ⟨_, rfl⟩
theorem CallR.or {f : Value} {r1 r2 : List V → Hp → VK → Prop} (h1 : CallR X f r1) (h2 : CallR X f r2) : CallR X f (fun xs H Q => r1 xs H Q ∨ r2 xs H Q) := fun pins s σ H xs us Q I r h => by
  rcases h with h | h
  · exact h1 pins s σ H xs us Q I r h
  · exact h2 pins s σ H xs us Q I r h
theorem cd_max2S (hc : X.calm = true) : CallD X (.builtin "max") dMax2S := ⟨_, CallR.or (call_max2 hc) (call_max2S hc), fun W H xs ds fs d Q x0 l e k => by
  unfold dMax2S at e; split at e
  · cases e
    cases l with | cons r l => cases l with | cons r' l => cases l; cases r; cases r'; exact .inl ⟨_, _, rfl, k _ W H [] (New.sc x0 .int)⟩
  · cases e
    cases l with | cons r l => cases l with | cons r' l => cases l; cases r; cases r'; exact .inr ⟨_, _, rfl, k _ W H [] (New.sc x0 .str)⟩
  · cases e⟩
theorem cd_min2S (hc : X.calm = true) : CallD X (.builtin "min") dMin2S := ⟨_, CallR.or (call_min2 hc) (call_min2S hc), fun W H xs ds fs d Q x0 l e k => by
  unfold dMin2S at e; split at e
  · cases e
    cases l with | cons r l => cases l with | cons r' l => cases l; cases r; cases r'; exact .inl ⟨_, _, rfl, k _ W H [] (New.sc x0 .int)⟩
  · cases e
    cases l with | cons r l => cases l with | cons r' l => cases l; cases r; cases r'; exact .inr ⟨_, _, rfl, k _ W H [] (New.sc x0 .str)⟩
  · cases e⟩
end
/-! ### sorted lists of texts -/
def leS (x y : Str) : Bool := !decide (y.cps.toList < x.cps.toList)
def insS (x : Str) : List Str → List Str
  | [] => [x]
  | y :: ys => if leS x y then x :: y :: ys else y :: insS x ys
def sortS : List Str → List Str
  | [] => []
  | x :: xs => insS x (sortS xs)
theorem insS_perm (x : Str) : ∀ ys, (insS x ys).Perm (x :: ys)
  | [] => .refl _
  | y :: ys => by
    unfold insS
    split
    · exact .refl _
    · exact ((insS_perm x ys).cons y).trans (.swap x y ys)
theorem sortS_perm : ∀ xs, (sortS xs).Perm xs
  | [] => .refl _
  | x :: xs => (insS_perm x _).trans ((sortS_perm xs).cons x)
def toStrs : List D → Option (List Str)
  | [] => some []
  | .str i :: r => (toStrs r).map (i :: ·)
  | _ :: _ => none
theorem toStrs_eq : ∀ {ds : List D} {ns : List Str}, toStrs ds = some ns → ds = ns.map .str
  | [], ns, e => by cases e; rfl
  | .str i :: r, ns, e => by
    simp only [toStrs, Option.map_eq_some_iff] at e
    obtain ⟨ms, e1, rfl⟩ := e
    rw [toStrs_eq e1]; rfl
theorem toStrs_map : ∀ ns : List Str, toStrs (ns.map .str) = some ns
  | [] => rfl
  | n :: ns => by
    show (toStrs (ns.map .str)).map (n :: ·) = _
    rw [toStrs_map ns]
    rfl
theorem repSt {K : PySem.W.Frag} {W : Wd} {H : Hp} : ∀ {ns : List Str} {vs : List V} {g : List Addr}, RepL K W H vs (ns.map .str) g → vs = ns.map .str ∧ g = []
  | [], vs, g, l => by cases l; exact ⟨rfl, rfl⟩
  | n :: ns, vs, g, l => by
    cases l with | cons r l =>
      cases r
      obtain ⟨rfl, rfl⟩ := repSt l
      exact ⟨rfl, rfl⟩
theorem repSts {K : PySem.W.Frag} {W : Wd} {H : Hp} : ∀ ns : List Str, RepL K W H (ns.map .str) (ns.map .str) []
  | [] => .nil
  | n :: ns => RepL.cons (f := []) .str (repSts ns)
theorem leS_total (x y : Str) : leS x y = true ∨ leS y x = true := by
  unfold leS
  by_cases h : y.cps.toList < x.cps.toList
  · right
    have : ¬ x.cps.toList < y.cps.toList := List.lt_asymm h
    simp [this]
  · left; simp [h]
theorem leS_trans {x y z : Str} (h : leS x y = true) (k : leS y z = true) : leS x z = true := by
  unfold leS at *
  simp only [Bool.not_eq_true', decide_eq_false_iff_not, List.not_lt] at *
  exact List.le_trans h k
theorem leS_anti {x y : Str} (h : leS x y = true) (k : leS y x = true) : x = y := by
  unfold leS at *
  simp only [Bool.not_eq_true', decide_eq_false_iff_not, List.not_lt] at *
  exact Str.ext' (Array.toList_inj.mp (List.le_antisymm h k))
theorem insS_up (x : Str) : ∀ ys : List Str, ys.Pairwise (fun a b => leS a b = true) → (insS x ys).Pairwise (fun a b => leS a b = true)
  | [], _ => by simp [insS]
  | y :: ys, h => by
    rw [List.pairwise_cons] at h
    unfold insS
    split
    · rename_i c
      rw [List.pairwise_cons]
      refine ⟨fun z m => ?_, List.pairwise_cons.mpr h⟩
      rcases List.mem_cons.mp m with rfl | m
      · exact c
      · exact leS_trans c (h.1 z m)
    · rename_i c
      rw [List.pairwise_cons]
      refine ⟨fun z m => ?_, insS_up x ys h.2⟩
      rcases List.mem_cons.mp ((insS_perm x ys).mem_iff.mp m) with rfl | m
      · exact (leS_total _ _).resolve_left c
      · exact h.1 z m
theorem sortS_up : ∀ xs : List Str, (sortS xs).Pairwise (fun a b => leS a b = true)
  | [] => by simp [sortS]
  | x :: xs => insS_up x _ (sortS_up xs)
theorem up_unique : ∀ {xs ys : List Str}, xs.Perm ys → xs.Pairwise (fun a b => leS a b = true) → ys.Pairwise (fun a b => leS a b = true) → xs = ys
  | [], ys, p, _, _ => by rw [List.nil_perm.mp p]
  | x :: xs, [], p, _, _ => by have := p.length_eq; simp at this
  | x :: xs, y :: ys, p, hx, hy => by
    rw [List.pairwise_cons] at hx hy
    have e : x = y := by
      have m1 : x ∈ y :: ys := p.mem_iff.mp (List.mem_cons_self ..)
      have m2 : y ∈ x :: xs := p.mem_iff.mpr (List.mem_cons_self ..)
      rcases List.mem_cons.mp m1 with e | m1
      · exact e
      · rcases List.mem_cons.mp m2 with e | m2
        · exact e.symm
        · exact leS_anti (hx.1 y m2) (hy.1 x m1)
    subst e
    rw [up_unique ((List.perm_cons x).mp p) hx.2 hy.2]
theorem risingS_up : ∀ {ys : List Str} {p : Str}, risingS p ys = true → (p :: ys).Pairwise (fun a b => leS a b = true)
  | [], p, _ => by simp
  | y :: ys, p, h => by
    unfold risingS at h
    rw [Bool.and_eq_true] at h
    have h1 : leS p y = true := by
      unfold leS
      rw [← ltCps_eq]
      exact h.1
    have ih := risingS_up h.2
    rw [List.pairwise_cons]
    refine ⟨fun z m => ?_, ih⟩
    rcases List.mem_cons.mp m with rfl | m
    · exact h1
    · exact leS_trans h1 ((List.pairwise_cons.mp ih).1 z m)
theorem sortedS_up {ys : List Str} (h : sortedS ys = true) : ys.Pairwise (fun a b => leS a b = true) := by
  cases ys with
  | nil => simp
  | cons y ys => exact risingS_up h
section
variable {X : Cx}
/-- sorted: a list of ints, or of less than 64 texts -/
@[simp] def dSortS : List D → Res D
  | [.lst _ xs] => match toInts xs with
    | some ns => .ok (.lst true ((sortI ns).map .int))
    | none => (Res.of (toStrs xs)).bind fun ns => Res.when (decide (ns.length < 64)) (.ok (.lst true ((sortS ns).map .str)))
  | _ => .fail
theorem cd_sortS : CallD X (.builtin "sorted") dSortS := ⟨_, CallR.or cr_sortedI cr_sortedS, fun W H xs ds fs d Q x0 l e k => by
  unfold dSortS at e; split at e
  · split at e
    · rename_i ns e1
      cases e
      have e2 := toInts_eq e1
      cases l with | cons r l =>
        cases l
        obtain ⟨a, vs, g, rfl, s, l, _⟩ := r.lst
        rw [e2] at l
        obtain ⟨rfl, _⟩ := repI l
        refine .inl ⟨a, ns, rfl, s, fun ns' p pm up hp => ?_⟩
        obtain rfl := perm_up (pm.trans (sortI_perm ns).symm) up (sortI_up ns)
        exact k _ _ _ _ (New.lst x0 hp (repIs _))
    · obtain ⟨ns, e1, e⟩ := Res.bind_eq e
      obtain ⟨hl, e⟩ := Res.when_eq e
      cases e
      have e2 := toStrs_eq (Res.of_eq e1)
      cases l with | cons r l =>
        cases l
        obtain ⟨a, vs, g, rfl, s, l, _⟩ := r.lst
        rw [e2] at l
        obtain ⟨rfl, _⟩ := repSt l
        refine .inr ⟨a, ns, rfl, s, of_decide_eq_true hl, fun ns' p pm up hp => ?_⟩
        obtain rfl := up_unique (pm.trans (sortS_perm ns).symm) (sortedS_up up) (sortS_up ns)
        exact k _ _ _ _ (New.lst x0 hp (repSts _))
  · cases e⟩
end

/-! ### walks: a text, a box -/
def signs (z : Str) : List D := z.cps.toList.map fun c => .str ⟨#[c]⟩
def miT (e : M D) : M It := fun m => (e m).bind fun r => match r.1 with
  | .str z => .ok ((signs z, fun (_ : Mem) => True), r.2)
  | _ => .fail
def miBx (q : MQ D) : M It := fun m => (q m).bind fun d => match d with
  | .loc k => (Res.of (boxIn m.hs[k]?)).bind fun d0 => match d0 with
    | .lst true xs => Res.when (pureL xs) (.ok ((xs, fun (m' : Mem) => boxIn m'.hs[k]? = some (.lst true xs)), m))
    | _ => .fail
  | _ => .fail
section
variable {X : Cx} {CT : Nat → Addr} {pi : List Nat} {e tg : Expr} {me : M D} {q : MQ D}
theorem runs_s {K : PySem.W.Frag} {W : Wd} {H : Hp} {σ : L2.St} {fp : List Addr} {z : Str} {ok : Mem → Prop} : Runs K CT pi (Its z) W H σ fp (signs z) ok := by
  intro m2 σ2 W2 H2 fp2 p o i
  unfold signs
  refine ⟨fun d e => ?_, fun hl => by
    have hl : z.cps.size ≤ i := by simpa using hl
    exact hl⟩
  rw [List.getElem?_map, Option.map_eq_some_iff] at e
  obtain ⟨c, e1, rfl⟩ := e
  have hi : i < z.cps.size := by
    have := (List.getElem?_eq_some_iff.mp e1).1
    simpa using this
  refine ⟨hi, fun x H3 y => ?_⟩
  obtain ⟨rfl, c', e2, rfl⟩ := y
  have : c = c' := by
    rw [Array.getElem?_toList, e2] at e1
    exact (Option.some.inj e1).symm
  subst this
  exact ⟨W2, .str, Ext.refl _ _ _, rfl, p.rel.fix⟩
theorem mi_t (h : ME X CT e me) : MI X CT pi tg e (miT me) := pi_weak (pi_str h) fun σ H R ⟨W, m, fp, it, m', rel, e, k⟩ => by
  obtain ⟨⟨d, m1⟩, e1, e⟩ := Res.bind_eq e
  dsimp only at e
  split at e
  · cases e
    refine ⟨W, m, fp, _, _, rel, e1, fun v W1 H1 fp1 fd p => ?_⟩
    have rp := p.rep
    cases rp
    exact ⟨_, rfl, k _ W1 H1 fp1 p.t runs_s⟩
  · cases e
theorem mi_bx (h : MEQ X CT e q) : MI X CT pi tg e (miBx q) := pi_weak (pi_list h) fun σ H R ⟨W, m, fp, it, m', rel, e, k⟩ => by
  obtain ⟨d, e1, e⟩ := Res.bind_eq e
  refine ⟨W, m, fp, d, rel, e1, fun v W1 H1 fd p => ?_⟩
  have rp := p.rep
  split at e
  · obtain ⟨d0, e2, e⟩ := Res.bind_eq e
    have e2 := Res.of_eq e2
    split at e
    · rename_i xs
      obtain ⟨p0, e⟩ := Res.when_eq e
      cases e
      cases rp with
      | @loc kk a ei =>
        obtain ⟨a', ei', A, f, B, hf, r, _⟩ := hole_bx p.rel e2
        rw [ei] at ei'
        cases ei'
        obtain ⟨a', vs, ea, s, l, _⟩ := r.lstQ p0
        cases ea
        refine ⟨a, rfl, ⟨vs, s⟩, k _ W1 H1 fp ⟨p.rel, p.ext.sub (fun _ z => nomatch z), fun a z => .inl z⟩ (runs_l fun m2 σ2 W2 H2 fp2 pp ok => ?_)⟩
        obtain ⟨a2, ei2, A2, f2, B2, hf2, r2, _⟩ := hole_bx pp.rel ok
        have := pp.ext.im _ _ ei
        rw [ei2] at this
        cases this
        obtain ⟨a', vs', ea, s', l', _⟩ := r2.lstQ p0
        cases ea
        exact ⟨vs', s', l'⟩
    · cases e
  · cases e
end
end E
/-! EngZm: enumerate of tuples -/
namespace PySem
open Sem (wp)
open AutoSeq1 (wpAny_loadPart')
theorem meets_enumerate_newT (l : Addr) (items : Array Value) (n : Nat) (dct : Option Addr) (sl : Array (Option Value)) :
    Meets (Builtin.«enumerate.__new__» ⟨[.type "enumerate", .ref l], []⟩) (fun _ R s => s.heap.get? l = some { cls := .type "tuple", dict := dct, data := .seq items n, slots := sl } ∧
      R (.ok (.ret (.ref (s.heap.push { cls := .type "tuple_iterator", data := .fields #[.ref l, .int 0 0] }).objs.size)))
        { s with heap := (s.heap.push { cls := .type "tuple_iterator", data := .fields #[.ref l, .int 0 0] }).push { cls := .type "enumerate", data := .fields #[.none, .bool false, .ref s.heap.objs.size, rawInt 0, .none, .none] } }) :=
  .of_wp fun prog w A R s h => by
    obtain ⟨hp, g, d, tk, os⟩ := s; obtain ⟨hl, h⟩ := h
    have hsub := sub_enumerate
    have hL : Heap.IsTuple (Shared.heap ⟨hp, g, d, tk, os⟩) l items := ⟨_, hl, rfl, n, rfl⟩
    wp_walk using wpAny_loadPart' hl
    refine wpAny_stack_any fun st => wpAny_pure ?_
    split
    · rename_i c _ _ _ _ _
      cases (c == Value.type "enumerate")
      · wp_walk using wpAny_loadPart' hl, wpAny_pyIter_tuple hL
        exact ⟨_, rfl, h⟩
      · wp_walk using wpAny_loadPart' hl, wpAny_pyIter_tuple hL
        exact ⟨_, rfl, h⟩
    · wp_walk using wpAny_loadPart' hl, wpAny_pyIter_tuple hL
      exact ⟨_, rfl, h⟩
theorem call_enumerate_tuple {prog : Program} {w : World} {A : Around} {E : Value → Shared → Prop} {s : Shared} {l : Addr} {items : Array Value} {Q : Value → Shared → Prop} (hL : s.heap.IsTuple l items)
    (h : ∀ h', IsEnum h' (s.heap.objs.size + 1) s.heap.objs.size 0 .none → h'.IsTupleIter s.heap.objs.size l 0 → h'.objs.size = s.heap.objs.size + 2 →
      (∀ b o, s.heap.get? b = some o → h'.get? b = some o) → Q (.ref (s.heap.objs.size + 1)) { s with heap := h' }) :
    wpAny (model prog w) A (call (.type "enumerate") [.ref l]) Q E s := by
  obtain ⟨⟨c, dct, dt, sl⟩, hl, hc, n, hd⟩ := hL
  replace hc : c = .type "tuple" := hc
  replace hd : dt = .seq items n := hd
  subst hc hd
  refine callType_new F.called_enumerate (by decide) (F.typeCall_enumerate_1 _) (F.newCall_enumerate_1 _) (fun obj => F.args_object_init_2 obj _) F.entry_enumerate_new
    (meets_enumerate_newT l items n dct sl) ⟨hl, ?_⟩
  have hz : (s.heap.push { cls := .type "tuple_iterator", data := .fields #[.ref l, .int 0 0] }).objs.size = s.heap.objs.size + 1 := Heap.size_push ..
  show _ ∧ _
  rw [hz]
  have he : IsEnum ((s.heap.push { cls := .type "tuple_iterator", data := .fields #[.ref l, .int 0 0] }).push
      { cls := .type "enumerate", data := .fields #[.none, .bool false, .ref s.heap.objs.size, rawInt 0, .none, .none] }) (s.heap.objs.size + 1) s.heap.objs.size 0 .none := by
    have := Heap.get?_push_size (s.heap.push { cls := .type "tuple_iterator", data := .fields #[.ref l, .int 0 0] })
      (o := { cls := .type "enumerate", data := .fields #[.none, .bool false, .ref s.heap.objs.size, rawInt 0, .none, .none] }) rfl
    rw [hz] at this; exact this
  refine ⟨⟨_, he, rfl⟩, h _ he ⟨_, Heap.get?_push_of_some _ (Heap.get?_push_size _ rfl), rfl, rfl⟩ (by rw [Heap.size_push, hz]) fun b o x => Heap.get?_push_of_some _ (Heap.get?_push_of_some _ x)⟩
theorem Draws.tupleT {prog : Program} {w : World} {A : Around} (hh : A.handled = none) (it l : Addr) (hne : l ≠ it) (items : Array Value) :
    Draws prog w A it [it, l] items.size (fun i v => items[i]? = some v) (fun i h => h.IsTupleIter it l i ∧ h.IsTuple l items) where
  live := fun _ _ st => let ⟨o, ho, _⟩ := st.1; ⟨o, ho⟩
  frame := fun _ _ _ st hk => ⟨let ⟨o, ho, r⟩ := st.1; ⟨o, hk it (by simp) o ho, r⟩, let ⟨o, ho, r⟩ := st.2; ⟨o, hk l (by simp) o ho, r⟩⟩
  item := fun i s Q E hi st hQ => by
    refine RZ.nextOf_tuple_item st.1 st.2 (x := items[i]) (by simp [hi]) fun h' hit' hs' => ?_
    exact hQ _ h' s.toks (by simp [hi]) ⟨hit', let ⟨o, ho, r⟩ := st.2; ⟨o, (hs'.2 l hne).trans ho, r⟩⟩ hs'
  done := fun s Q E st hE => RZ.nextOf_tuple_end hh st.1 st.2 (by simp) hE
end PySem
namespace E
open PySem L2 PySem.Spec PyProof.Rows
def IteT (K : PySem.W.Frag) (a : Addr) : L2.It :=
  ⟨fun i H => ∃ (xs : List V) (x : V), SqT K H a xs ∧ xs[i]? = some x, fun i H v H' => ∃ T x, v = .ref T ∧ H T = none ∧ H' = upd H T (.tup [.int (i : Nat), x]) ∧ ∀ xs, SqT K H a xs → xs[i]? = some x, fun i H => ∃ xs : List V, SqT K H a xs ∧ xs.length ≤ i⟩
theorem turn_enumT {P : Program} {w : World} {K : PySem.W.Frag} {elts : List Expr} {kk : Nat} {tpos : Pos} (a e it : Addr) (hai : a ≠ it) (hae : a ≠ e) :
    Turn P w K (.Tuple elts kk tpos) (IteT K a) [e, it] e (fun i h => (∃ old, IsEnum h e it ((i : Nat) : Int) old) ∧ h.IsTupleIter it a i ∧ e ≠ it) where
  mem := by simp
  obj := fun i h st b hb => by
    obtain ⟨⟨old, he⟩, ⟨o, ho, hc, hd⟩, _⟩ := st
    have e' : b = e ∨ b = it := by simpa using hb
    rcases e' with z | z
    · rw [z]; exact ⟨_, he, fun v q => nomatch q⟩
    · rw [z]; exact ⟨o, ho, fun v q => by rw [hd] at q; cases q⟩
  keep := fun i h h' st k => let ⟨⟨old, he⟩, ⟨o, ho, r⟩, hne⟩ := st; ⟨⟨old, k e (by simp) _ he⟩, ⟨o, k it (by simp) o ho, r⟩, hne⟩
  item := by
    intro X hP hw hK hc i pins s σ H E I hf st hg
    subst hP hw hK
    obtain ⟨⟨old, he⟩, hit, hne⟩ := st
    obtain ⟨xs, x, hq, hx⟩ := hg
    obtain ⟨its, rv, p, hz⟩ := I.tuple hq
    obtain ⟨u, hu, ru⟩ := rv.get hx
    have hel : e < s.heap.objs.size := Heap.lt_size he
    have hil : it < s.heap.objs.size := by obtain ⟨_, q, _⟩ := hit; exact Heap.lt_size q
    have hlt : i < its.toArray.size := by
      have := (List.getElem?_eq_some_iff.mp hu).1
      simpa using this
    obtain ⟨op, hp1, hp2⟩ := p
    have pT : s.heap.IsTuple a its.toArray := ⟨op, hp1, by first | exact hp2 | exact ⟨hp2.1, hp2.2⟩ | exact ⟨hp2.1, hp2.2.2⟩⟩
    refine wpAny_pyNext_enum_itemD (Draws.tupleT (A := X.A.in1) (I.ok.hd hc) it a hai its.toArray) he ⟨hit, pT⟩ hlt hne (by simp [hne, Ne.symm hae]) fun x' h' tk hP ho hit' hT hsz hk => ?_
    have ex : x' = u := by
      have h1 : its[i]? = some x' := by simpa using hP
      rw [hu] at h1
      exact (Option.some.inj h1).symm
    subst ex
    refine ⟨_, rfl, wpAny_letOwnedTupleGo_enum (s := { s with heap := h', toks := tk + 1 }) ho fun h'' he' sb => ?_⟩
    have hT2 : h''.get? s.heap.objs.size = some { cls := .type "tuple", data := .seq #[.int i tk, x'] } := (sb.2 _ (Nat.ne_of_gt hel)).trans hT
    have new : ObjOk X.prog X.w (upd H s.heap.objs.size (.tup [.int (i : Nat), x])) h'' s.heap.objs.size (.tup [.int (i : Nat), x]) :=
      ⟨by show 2 ≤ sizeLine; decide, [.int i tk, x'], .cons ⟨_, rfl⟩ (.cons ru .nil), ⟨_, hT2, rfl, _, rfl⟩⟩
    have I1 : Inv X pins σ (upd H s.heap.objs.size (.tup [.int (i : Nat), x])) { s with heap := h'', toks := tk + 1 } :=
      I.turnedNew (ch := [e, it]) (fun b ob hb q => (sb.2 b (fun z => hb (by simp [z]))).trans (hk b ob (fun z => hb (by simp [z])) (fun z => hb (by simp [z])) q)) hf (Nat.le_refl _) new
    obtain ⟨o2, ho2, r2⟩ := hit'.1
    refine ⟨.ref s.heap.objs.size, _, I1, rfl, ⟨_, x, rfl, I.hok.fresh (Nat.le_refl _), rfl, fun ys hy => by rw [I.tuple_inj hy hq]; exact hx⟩, ⟨⟨x', ?_⟩, ⟨o2, (sb.2 it (Ne.symm hne)).trans ho2, r2⟩, hne⟩, fun b hb => ?_⟩
    · have e1 : ((i + 1 : Nat) : Int) = (i : Int) + 1 := by omega
      rw [e1]; exact he'
    · have hb' : b < s.heap.objs.size := by
        have e' : b = e ∨ b = it := by simpa using hb
        rcases e' with z | z
        · rw [z]; exact hel
        · rw [z]; exact hil
      rw [upd_ne (Nat.ne_of_lt hb')]
      exact (hf b hb).1
  done := by
    intro X hP hw hK hc i pins s σ H E I hf st hg
    subst hP hw hK
    obtain ⟨⟨old, he⟩, hit, hne⟩ := st
    obtain ⟨xs, hq, hx⟩ := hg
    obtain ⟨its, rv, p, hz⟩ := I.tuple hq
    obtain ⟨f0, f1, f2, f3, f4, f5⟩ := hf it (by simp)
    have hl := rv.length
    obtain ⟨op, hp1, hp2⟩ := p
    have pT : s.heap.IsTuple a its.toArray := ⟨op, hp1, by first | exact hp2 | exact ⟨hp2.1, hp2.2⟩ | exact ⟨hp2.1, hp2.2.2⟩⟩
    unfold pyNext
    have hT : s.TypeIs (.ref e) "enumerate" := ⟨_, he, rfl⟩
    refine wpAny_bind (wpAny_attempt (wpAny_callSpecial?_slot (name := Str.ofString "__next__") hT PySem.F.slot_enumerate_next
      (wpAny_call_entry PySem.F.slot_enumerate_next hT PySem.F.entry_enumerate_next ?_ (PySem.F.args_enumerate_next_1 _))))
    show wpAny _ _ (field (.ref e) 2 >>= _) _ _ _
    refine wpAny_bind (wpAny_field he rfl (x := .ref it) rfl ?_)
    refine wpAny_bind (RZ.nextOf_tuple_end (I.ok.hd hc) hit pT (by simp; omega) fun h' x he' hx' => ?_)
    obtain ⟨o, ho, hc⟩ := hx'
    refine wpAny_bind (wpAny_isInstance (T := "StopIteration") (b := true) ⟨o, ho, hc⟩ isSubtype_stop ?_)
    exact wpAny_pure ⟨rfl, I.turned (t' := s.toks) (fun b o hb q => he' b o hb q) f0 f1 f3 f4 f5⟩
  self := fun A i s Q E st h => let ⟨⟨_, he⟩, _⟩ := st; wpAny_pyIter_enum he h
def iEnumT (K : PySem.W.Frag) (ta : TA) : TI := fun σ H R => ta σ H fun vs H1 => ∃ a xs, vs = [.ref a] ∧ SqT K H1 a xs ∧ R (IteT K a) H1
theorem pi_enumT {X : Cx} {e : Expr} {ta : TA} {p pos tpos : Pos} {elts : List Expr} {kk : Nat} (hg : Gl X "enumerate") (hm : X.mg "enumerate" = none) (ha : PA X [e] ta) (hs : starEach [e] X.env = [(false, eval e X.env)] := by rfl) :
    PI X (.Tuple elts kk tpos) (.Call (.Name "enumerate" p) [e] [] pos) (iEnumT X.K ta) := by
  refine ⟨fun pins s σ H R I h => ?_⟩
  refine Call_ (ld_blt I hg hm boot_enumerate (PyProof.Rows.callWith_type1 (thn (ha.run pos pins s σ H _ I h) fun us s1 ⟨vs, H1, I1, r1, q1⟩ => ?_) hs rfl))
  obtain ⟨a, xs, ex, hq, q⟩ := q1
  subst ex
  cases r1 with
  | cons r rr =>
    cases rr
    cases r
    obtain ⟨its, rv, p', hz⟩ := I1.tuple hq
    obtain ⟨op, hp1, hp2⟩ := p'
    have pT : s1.heap.IsTuple a its.toArray := ⟨op, hp1, by first | exact hp2 | exact ⟨hp2.1, hp2.2⟩ | exact ⟨hp2.1, hp2.2.2⟩⟩
    have hal : a < s1.heap.objs.size := Heap.lt_size hp1
    refine call_enumerate_tuple pT fun h' he hit hsz hk => wpAny_pyIter_enum he ?_
    have I2 : Inv X pins σ H1 { s1 with heap := h' } := I1.kept (t' := s1.toks) hk
    refine ⟨s1.heap.objs.size + 1, [s1.heap.objs.size + 1, s1.heap.objs.size], _, _, H1, rfl, I2, turn_enumT a (s1.heap.objs.size + 1) s1.heap.objs.size (Nat.ne_of_lt hal) (Nat.ne_of_lt (Nat.lt_succ_of_lt hal)), ⟨⟨.none, he⟩, hit, Nat.succ_ne_self _⟩, fun b hb => ?_, q⟩
    have e' : b = s1.heap.objs.size + 1 ∨ b = s1.heap.objs.size := by simpa using hb
    have hle : s1.heap.objs.size ≤ b := by
      rcases e' with z | z
      · rw [z]; exact Nat.le_add_right _ _
      · rw [z]; exact Nat.le_refl _
    exact I1.fpOk hle (I1.hok.fresh hle)
section
variable {K : PySem.W.Frag} {CT : Nat → Addr} {pi : List Nat} {W : Wd} {H : Hp} {σ : L2.St} {fp : List Addr}
theorem runs_enT {a : Addr} {xs : List D} {ok : Mem → Prop} (h : ∀ m2 σ2 W2 H2 fp2, PostS K CT pi W H σ fp m2 σ2 W2 H2 fp2 → ok m2 → ∃ vs, SqT K H2 a vs ∧ RepL K W2 H2 vs xs []) : Runs K CT pi (IteT K a) W H σ fp (enumD xs) ok := by
  intro m2 σ2 W2 H2 fp2 p o i
  obtain ⟨vs, s, l⟩ := h m2 σ2 W2 H2 fp2 p o
  refine ⟨fun d e => ?_, fun hl => ⟨vs, s, by
    rw [l.length]
    simpa [enumD] using hl⟩⟩
  have hi : i < xs.length := by simpa [enumD] using (List.getElem?_eq_some_iff.mp e).1
  unfold enumD at e
  rw [List.getElem?_map, List.getElem?_range hi] at e
  cases e
  have e : xs[i]? = some (xs.getD i .non) := by simp [List.getD_eq_getElem?_getD, hi]
  obtain ⟨v, h1, h2⟩ := l.item e
  refine ⟨⟨vs, v, s, h1⟩, fun x H3 y => ?_⟩
  obtain ⟨T, x', rfl, hT, rfl, y⟩ := y
  have := y vs s
  rw [h1] at this
  cases this
  have n := New.tup (K := K) (p := T) (vs := [.int (i : Nat), v]) (ds := [.int (i : Nat), xs.getD i .non]) p.rel.fix hT (.cons (f := []) (g := []) .int (.cons (f := []) (g := []) h2 .nil))
  exact ⟨_, n.rep, n.ext, n.ι, n.fix⟩
end
@[simp] def enOfT (m : Mem) : D → Res (It × Mem)
  | .tup xs => Res.when (pureL xs) (.ok ((enumD xs, fun (_ : Mem) => True), m))
  | _ => .fail
/-- enumerate of a tuple that is looked at -/
def miEnT (q : MQ D) : M It := fun m => (q m).bind fun d => enOfT m d
section
variable {X : Cx} {CT : Nat → Addr} {pi pin : List Nat} {e : Expr} {elts : List Expr} {kk : Nat} {pos p0 tpos : Pos} {q : MQ D}
theorem mi_enT (hg : Gl X "enumerate") (hm : X.mg "enumerate" = none) (h : MEQ X CT e q) (hs : starEach [e] X.env = [(false, eval e X.env)] := by rfl) (hs' : starEach [e] X.env = (false, eval e X.env) :: starEach [] X.env := by rfl) : MI X CT pi (.Tuple elts kk tpos) (.Call (.Name "enumerate" p0) [e] [] pos) (miEnT q) :=
  pi_weak (pi_enumT hg hm (pa_cons h pa_nil hs') hs) fun σ H R ⟨W, m, fp, it, m', rel, e, k⟩ => by
  obtain ⟨d, e1, e⟩ := Res.bind_eq e
  cases d with
  | tup xs =>
    obtain ⟨p0, e⟩ := Res.when_eq e
    cases e
    refine ⟨W, m, fp, _, rel, e1, fun v W1 H1 fd p => ?_⟩
    obtain ⟨a, vs, rfl, s, z, l⟩ := p.rep.tupl
    obtain rfl := l.pure p0
    exact ⟨a, vs, rfl, s, k _ W1 H1 fp ⟨p.rel, p.ext.sub (fun _ z => nomatch z), fun a z => .inl z⟩ (runs_enT fun m2 σ2 W2 H2 fp2 q _ => ⟨vs, (z.ext q.ext p.rel.off).sq, l.ext q.ext p.rel.off fun a z => by cases z⟩)⟩
  | _ => cases e
end
/-- a walk of two forms -/
def miOr (a b : M It) : M It := fun m => match a m with
  | .ok r => .ok r
  | _ => b m
theorem mi_or {X : Cx} {CT : Nat → Addr} {pi : List Nat} {e tg : Expr} {a b : M It} (h : MI X CT pi tg e a) (h' : MI X CT pi tg e b) : MI X CT pi tg e (miOr a b) := pi_weak (pi_or h h') fun σ H R ⟨W, m, fp, it, m', rel, e, k⟩ => by
  unfold miOr at e
  split at e
  · rename_i r e1
    cases e
    exact .inl ⟨W, m, fp, it, m', rel, e1, k⟩
  · exact .inr ⟨W, m, fp, it, m', rel, e, k⟩
end E
/-! EngZn: sorted lists of pairs of ints -/
namespace E
open PySem L2 PySem.Spec PyProof.Rows

/-- into an ordered row, ahead of what is not less -/
def insQ (p : Int × Int) : List (Int × Int) → List (Int × Int)
  | [] => [p]
  | q :: r => if ltP q p then q :: insQ p r else p :: q :: r
def sortQ : List (Int × Int) → List (Int × Int)
  | [] => []
  | p :: r => insQ p (sortQ r)
theorem insQ_perm (p : Int × Int) : ∀ r, (insQ p r).Perm (p :: r)
  | [] => .refl _
  | q :: r => by
    unfold insQ
    split
    · exact ((insQ_perm p r).cons q).trans (.swap p q r)
    · exact .refl _
theorem sortQ_perm : ∀ r, (sortQ r).Perm r
  | [] => .refl _
  | p :: r => (insQ_perm p _).trans ((sortQ_perm r).cons p)
theorem insQ_pw {p : Int × Int} : ∀ {r : List (Int × Int)}, r.Pairwise (fun a b => ¬ ltP b a) → (insQ p r).Pairwise (fun a b => ¬ ltP b a)
  | [], _ => by simp [insQ]
  | q :: r, h => by
    rw [List.pairwise_cons] at h
    unfold insQ
    split
    · rename_i c
      rw [List.pairwise_cons]
      refine ⟨fun z m => ?_, insQ_pw h.2⟩
      rcases List.mem_cons.mp ((insQ_perm p r).mem_iff.mp m) with rfl | m
      · unfold ltP at *; omega
      · exact h.1 z m
    · rename_i c
      rw [List.pairwise_cons]
      refine ⟨fun z m => ?_, List.pairwise_cons.mpr h⟩
      rcases List.mem_cons.mp m with rfl | m
      · exact c
      · have := h.1 z m
        unfold ltP at *; omega
theorem sortQ_pw : ∀ r : List (Int × Int), (sortQ r).Pairwise (fun a b => ¬ ltP b a)
  | [] => List.Pairwise.nil
  | _ :: r => insQ_pw (sortQ_pw r)
theorem sortQ_uniq {a b : List (Int × Int)} (p : a.Perm b) (ha : a.Pairwise (fun a b => ¬ ltP b a)) (hb : b.Pairwise (fun a b => ¬ ltP b a)) : a = b :=
  p.eq_of_pairwise (fun x y _ _ h1 h2 => by
    unfold ltP at h1 h2
    exact Prod.ext (by omega) (by omega)) ha hb
def rSortedQ (K : PySem.W.Frag) : List V → Hp → VK → Prop := fun vs H Q => ∃ (a : Addr) (L : List (Addr × Int × Int)), vs = [V.ref a] ∧ SqL K H a (L.map fun p => V.ref p.1) ∧ (∀ p ∈ L, SqT K H p.1 [.int p.2.1, .int p.2.2]) ∧
  ∀ (L' : List (Addr × Int × Int)) p, L'.Perm L → L'.Pairwise (fun a b => ¬ ltP b.2 a.2) → H p = none → Q (.ref p) (upd H p (.lst (L'.map fun p => V.ref p.1)))
def kOf (L : List (Addr × Int × Int)) : V → Int × Int
  | .ref t => ((L.find? fun p => decide (p.1 = t)).map (·.2)).getD (0, 0)
  | _ => (0, 0)
def adr : V → Addr
  | .ref t => t
  | _ => 0
section
variable {X : Cx}
theorem cr_sortedQ : CallR X (.builtin "sorted") (rSortedQ X.K) := by
  intro pins s σ H vs us Q I r h
  obtain ⟨a, L, rfl, hs, hx, q⟩ := h
  have hk : ∀ p ∈ L, kOf L (.ref p.1) = p.2 := fun p hp => by
    unfold kOf
    dsimp only
    cases hf : L.find? fun z => decide (z.1 = p.1) with
    | none =>
      have := List.find?_eq_none.mp hf p hp
      simp at this
    | some z =>
      have h1 := List.find?_some hf
      have h2 := List.mem_of_find?_eq_some hf
      have h1 : z.1 = p.1 := by simpa using h1
      have s1 := hx z h2
      rw [h1] at s1
      have := I.tuple_inj s1 (hx p hp)
      simp at this
      exact Prod.ext this.1 this.2
  obtain ⟨its, rv, hl, hz⟩ := I.list hs
  obtain ⟨u, rfl, ru⟩ := vals1 r
  obtain rfl : u = Value.ref a := ru
  have hrefs : ∀ x ∈ L.map (fun p => V.ref p.1), ∃ t, x = V.ref t := fun x m => by
    obtain ⟨p, _, rfl⟩ := List.mem_map.mp m
    exact ⟨_, rfl⟩
  obtain ⟨e1, e2⟩ := refs_back rv hrefs
  refine SrtO.sorted_pairsO (k := fun u => kOf L (backV u)) hl.isList (by rw [← rv.length]; exact hz) (fun v hv => ?_) fun h' d out h1 h2 kp hd hn => ?_
  · obtain ⟨t, rfl⟩ := e2 v hv
    have hm : V.ref t ∈ L.map (fun p => V.ref p.1) := by rw [e1]; exact List.mem_map.mpr ⟨_, hv, rfl⟩
    obtain ⟨p, hp, e⟩ := List.mem_map.mp hm
    cases e
    obtain ⟨its2, r2, p2, _⟩ := I.tuple (hx p hp)
    obtain ⟨u1, u2, rfl, ri, rj⟩ := vals2 r2
    obtain ⟨t1, rfl⟩ := ri
    obtain ⟨t2, rfl⟩ := rj
    obtain ⟨o, ho, hc, n, hd⟩ := p2
    refine ⟨p.1, o, t1, t2, n, rfl, ho, hc, ?_⟩
    show o.data = .seq #[.int (kOf L (.ref p.1)).1 t1, .int (kOf L (.ref p.1)).2 t2] n
    rw [hk p hp]
    exact hd
  · have h3 : ∀ u ∈ out, ∃ a, u = Value.ref a := fun u hu => e2 u (h2.perm.mem_iff.mp hu)
    obtain ⟨n, hn⟩ := hn
    have hb : SrtO.Stb (L2.ltP (kOf L)) (out.map backV) (L.map fun p => V.ref p.1) := by
      rw [e1]
      exact SrtO.Stb.map (ltP_swo (kOf L)) backV h2
    have hs2 : SrtO.Srtd (L2.ltP (kOf L)) (out.map backV) := SrtO.srtd_map h1
    have pm : ((out.map backV).map fun v => (adr v, kOf L v)).Perm L := by
      have := hb.perm.map fun v => (adr v, kOf L v)
      have e3 : (L.map ((fun v => (adr v, kOf L v)) ∘ fun p => V.ref p.1)) = L := by
        conv => rhs; rw [← List.map_id L]
        refine List.map_congr_left fun p hp => ?_
        show (p.1, kOf L (.ref p.1)) = p
        rw [hk p hp]
      rw [List.map_map (l := L), e3] at this
      exact this
    have e4 : ((out.map backV).map fun v => (adr v, kOf L v)).map (fun p => V.ref p.1) = out.map backV := by
      rw [List.map_map]
      conv => rhs; rw [← List.map_id (out.map backV)]
      refine List.map_congr_left fun v hv => ?_
      obtain ⟨t, rfl⟩ := hrefs v (hb.perm.mem_iff.mp hv)
      rfl
    have pw : ((out.map backV).map fun v => (adr v, kOf L v)).Pairwise (fun a b => ¬ ltP b.2 a.2) := by
      rw [List.pairwise_map]
      refine hs2.imp fun {x y} h => ?_
      have h := SrtO.lexB_no.mp h
      show ¬ ltP (kOf L y) (kOf L x)
      unfold ltP
      omega
    refine ⟨.ref d, upd H d (.lst (out.map backV)), I.laid (t' := s.toks) kp hd ⟨?_, out, n, vals_back h3, hn⟩, rfl, ?_⟩
    · rw [hb.len, List.length_map]
      have := rv.length
      simp only [List.length_map] at this
      simpa using hz
    · have := q _ d pm pw (I.hok.fresh hd)
      rw [e4] at this
      exact this
/-- sorted: a list of pairs of ints -/
@[simp] def dSortQ : List D → Res D
  | [.lst _ xs] => (Res.of (toPairs xs)).bind fun ps => .ok (.lst true ((sortQ ps).map pD))
  | _ => .fail
theorem toPairs_eq : ∀ {ds : List D} {ps : List (Int × Int)}, toPairs ds = some ps → ds = ps.map pD
  | [], ps, e => by cases e; rfl
  | d :: r, ps, e => by
    rw [toPairs] at e
    split at e
    · rename_i p qs e1 e2
      cases e
      rw [toPair_eq e1, toPairs_eq e2]
      rfl
    · cases e
/-- pairs, with their addresses -/
theorem rep_prs {K : PySem.W.Frag} {W : Wd} {H : Hp} : ∀ {vs : List V} {ps : List (Int × Int)} {g : List Addr}, RepL K W H vs (ps.map pD) g → ∃ L : List (Addr × Int × Int), vs = L.map (fun p => V.ref p.1) ∧ L.map (·.2) = ps ∧ ∀ p ∈ L, SqT K H p.1 [.int p.2.1, .int p.2.2] ∧ RepD K W H (.ref p.1) (pD p.2) []
  | [], [], g, l => ⟨[], rfl, rfl, by simp⟩
  | _ :: _, [], g, l => by cases l
  | [], _ :: _, g, l => by cases l
  | v :: vs, p :: ps, g, l => by
    cases l with
    | @cons _ _ f _ _ g r l =>
      obtain ⟨L, e1, e2, h⟩ := rep_prs l
      have hf : f = [] := r.pure rfl
      subst hf
      obtain ⟨x, xs, rfl, s1, _, l1⟩ := r.tupl
      have i1 := repI (ns := [p.1, p.2]) l1
      rw [i1.1] at s1
      refine ⟨(x, p) :: L, by rw [List.map_cons, ← e1], by rw [List.map_cons, e2], fun q m => ?_⟩
      rcases List.mem_cons.mp m with rfl | m
      · exact ⟨s1, r⟩
      · exact h q m
theorem prs_rep {K : PySem.W.Frag} {W : Wd} {H : Hp} : ∀ {L : List (Addr × Int × Int)}, (∀ p ∈ L, RepD K W H (.ref p.1) (pD p.2) []) → RepL K W H (L.map fun p => V.ref p.1) (L.map fun p => pD p.2) []
  | [], _ => .nil
  | p :: L, h => RepL.cons (f := []) (g := []) (h p (List.mem_cons_self ..)) (prs_rep fun q m => h q (List.mem_cons_of_mem _ m))
theorem cd_sortQ : CallD X (.builtin "sorted") dSortQ := ⟨_, cr_sortedQ, fun W H xs ds fs d Q x0 l e k => by
  unfold dSortQ at e; split at e
  · obtain ⟨ps, e1, e⟩ := Res.bind_eq e
    cases e
    have e2 := toPairs_eq (Res.of_eq e1)
    cases l with | cons r l =>
      cases l
      obtain ⟨a, vs, g, rfl, s, l, _⟩ := r.lst
      rw [e2] at l
      obtain ⟨L, rfl, h1, h2⟩ := rep_prs l
      refine ⟨a, L, rfl, s, fun p m => (h2 p m).1, fun L' p pm pw hp => ?_⟩
      have e3 : (sortQ ps).map pD = L'.map fun p => pD p.2 := by
        have : L'.map (·.2) = sortQ ps := by
          refine sortQ_uniq ((pm.map (·.2)).trans ?_) ?_ (sortQ_pw ps)
          · rw [h1]; exact (sortQ_perm ps).symm
          · rw [List.pairwise_map]; exact pw
        rw [← this, List.map_map]
        rfl
      rw [e3] at k
      exact k _ _ _ _ (New.lst x0 hp (prs_rep fun q m => (h2 q (pm.mem_iff.mp m)).2))
  · cases e⟩
/-- sorted: a list of ints, of texts, of pairs of ints -/
def dSortA (ds : List D) : Res D := match dSortS ds with
  | .ok d => .ok d
  | _ => dSortQ ds
theorem cd_sortA : CallD X (.builtin "sorted") dSortA := by
  obtain ⟨r1, c1, k1⟩ := cd_sortS (X := X)
  obtain ⟨r2, c2, k2⟩ := cd_sortQ (X := X)
  refine ⟨_, CallR.or c1 c2, fun W H xs ds fs d Q x0 l e k => ?_⟩
  unfold dSortA at e
  split at e
  · rename_i d' e1
    cases e
    exact .inl (k1 W H xs ds fs d Q x0 l e1 k)
  · exact .inr (k2 W H xs ds fs d Q x0 l e k)
end
end E
/-! EngZo: tuple(reversed(a tuple)) -/
namespace E
open PySem PySem.Spec PyProof.Rows L2 RT
theorem nolen_rt : typeLookup (.type "reversed") "__len__" = pure none := by rw [typeLookup_type, builtinLookup_eq_fast]; kernel_rfl
theorem hint_rt : typeLookup (.type "reversed") "__length_hint__" = pure (some (.builtin "reversed.__length_hint__")) := by rw [typeLookup_type, builtinLookup_eq_fast]; kernel_rfl
theorem slot_rt_hint : Slot "reversed" "__length_hint__" "reversed.__length_hint__" :=
  .of (owner := "reversed") (n := "__length_hint__") (by rw [typeLookup_type, builtinLookup_eq_fast]; kernel_rfl) (by decide +kernel) (by decide +kernel) (by decide +kernel)
    (by first | exact .inl (by decide +kernel) | exact .inr (by decide +kernel)) (by rw [isSubtype_type]; kernel_rfl)
theorem entry_rt_hint : entryFor table "reversed.__length_hint__" = some Builtin.«reversed.__length_hint__» := entryFor_of_tree (by kernel_rfl)
theorem args_rt_hint (a : Value) : argsOk "reversed.__length_hint__" ⟨[a], []⟩ := by
  unfold argsOk; rw [signature?_of (id := "reversed.__length_hint__") (n := ['_', '_', 't', 'n', 'i', 'h', '_', 'h', 't', 'g', 'n', 'e', 'l', '_', '_']) (o := ['d', 'e', 's', 'r', 'e', 'v', 'e', 'r']) (by kernel_rfl) owner_rt]; kernel_rfl
theorem bk_rt_hint : builtinKind "reversed.__length_hint__" = some .method := by decide +kernel
theorem bind_rt_hint (self : Value) : bindSpecial (.builtin "reversed.__length_hint__") self = pure (.builtin "reversed.__length_hint__", [self]) := by
  have hop : withoutEnding? "reversed.__length_hint__" "#opaque" = none := by decide +kernel
  have hdat : withoutEnding? "reversed.__length_hint__" "#data" = none := by decide +kernel
  simp only [bindSpecial, typeOf, builtinType, hop, hdat, bk_rt_hint]; rfl
section
variable {prog : Program} {w : World} {A : Around} {E : Value → Shared → Prop} {s : Shared}
theorem hint_body {it t : Addr} {items : Array Value} {Q : Value → Shared → Prop} (hit : IsRt s.heap it t ((items.size : Int) - 1)) (ht : IsTup s.heap t items) (hsz : items.size ≤ sizeLine)
    (hQ : ∀ k tk, Q (.int items.size k) { s with toks := tk }) : wpAny (model prog w) A (call (.builtin "reversed.__length_hint__") [.ref it]) Q E s := by
  obtain ⟨o, ho, hc, hd⟩ := id hit
  have hn := line63
  refine wpAny_call_entry slot_rt_hint hit.typeIs entry_rt_hint ?_ (args_rt_hint _)
  unfold Builtin.«reversed.__length_hint__»
  refine wpAny_bind (wpAny_of_eq (a := Value.ref it) rfl ?_)
  try dsimp only
  refine wpAny_bind (wpAny_field ho hd (x := .ref t) rfl ?_)
  try dsimp only
  try rw [if_neg (by decide)]
  try dsimp only
  refine wpAny_bind (len_tuple ht (by omega) ?_)
  refine wpAny_bind (wpAny_of_eq (a := some (items.size : Int)) rfl ?_)
  try dsimp only
  refine wpAny_bind (wpAny_field (s := { s with toks := s.toks + 1 + 1 }) ho hd (x := rawInt ((items.size : Int) - 1)) rfl ?_)
  try dsimp only
  show wpAny _ _ (if (items.size : Int) < (items.size : Int) - 1 + 1 then _ else _) _ _ _
  rw [if_neg (by omega)]
  unfold retInt
  refine wpAny_bind (wpAny_mkInt ?_)
  refine wpAny_pure ⟨_, rfl, ?_⟩
  rw [show (items.size : Int) - 1 + 1 = (items.size : Int) from by omega]
  exact hQ _ _
theorem wpAny_of_if_false {α : Type} {M : Model} {A : Around} {E : Value → Shared → Prop} {s : Shared} {Q : α → Shared → Prop} {b : Bool} {x y : Sem α} (h : b = false) (k : wpAny M A y Q E s) : wpAny M A (if b = true then x else y) Q E s := by
  rw [h]
  exact k
theorem bind_asInt {α : Type} {M : Model} {A : Around} {E : Value → Shared → Prop} {s : Shared} {Q : α → Shared → Prop} {n : Int} {t : Tok} {f : Option Int → Sem α} (k : wpAny M A (f (some n)) Q E s) : wpAny M A (asInt? (Value.int n t) >>= f) Q E s := wpAny_bind (wpAny_of_eq (a := some n) rfl k)
theorem hint_len {it t : Addr} {items : Array Value} {Q : Bool → Shared → Prop} (hit : IsRt s.heap it t ((items.size : Int) - 1)) (ht : IsTup s.heap t items) (hsz : items.size ≤ sizeLine)
    (hQ : ∀ b tk, Q b { s with toks := tk }) : wpAny (model prog w) A (Builtin.List.listLengthHint (.ref it)) Q E s := by
  have hT := hit.typeIs
  have hn := line63
  unfold Builtin.List.listLengthHint
  refine wpAny_bind (wpAny_specialOf hT nolen_rt ?_)
  show wpAny _ A (specialOf (Value.ref it) (Str.ofString "__length_hint__") >>= _) _ _ _
  refine wpAny_bind (wpAny_specialOf hT hint_rt ?_)
  generalize hid : ("reversed.__length_hint__" : String) = id0
  wp_delta
  rw [show splitId id0 = some ("reversed", "__length_hint__") from by subst hid; decide +kernel]
  subst hid
  refine wpAny_bind (wpAny_isInstance (b := true) hT (by rw [isSubtype_type]; kernel_rfl) ?_)
  rw [if_neg (by decide)]
  dsimp only
  refine wpAny_of_if_false (by kernel_rfl) ?_
  refine wpAny_bind (wpAny_rule ?_)
  rw [bind_rt_hint]
  refine wpAny_bind (wpAny_pure ?_)
  dsimp only
  refine wpAny_bind (wpAny_attempt (hint_body hit ht hsz fun k tk => ?_))
  refine bind_asInt ?_
  dsimp only
  have f1 : Builtin.List.listFitsIndex (items.size : Int) = true := by
    unfold Builtin.List.listFitsIndex
    rw [Bool.and_eq_true, decide_eq_true_eq, decide_eq_true_eq]
    omega
  have f2 : Builtin.List.listTooLong ((items.size : Int)).toNat = false := by
    unfold Builtin.List.listTooLong
    rw [decide_eq_false_iff_not]
    show ¬ (items.size > sizeLine)
    omega
  rw [f1, if_neg (by decide), if_neg (by omega), f2, if_neg (by decide)]
  exact wpAny_pure (hQ _ _)
end
theorem touch_room {α : Type} {M : Model} {A : Around} {E : Value → Shared → Prop} {s : Shared} {Q : α → Shared → Prop} {S : Addr} {b x : Bool} {m : Sem α} (hS : s.heap.get? S = some { cls := .type "list", data := .seq ([] : List Value).toArray })
    (h : ∀ h2 c, h2.get? S = some { cls := .type "list", dict := none, data := .seq #[] c, slots := #[] } → (∀ b o, b ≠ S → s.heap.get? b = some o → h2.get? b = some o) → wpAny M A m Q E { s with heap := h2 }) :
    wpAny M A (if (b || x) = true then (rule "list.extend.makes-room" >>= fun _ => Builtin.List.listTouch (.ref S) >>= fun _ => m) else m) Q E s := by
  split
  · refine wpAny_bind (wpAny_rule ?_)
    refine wpAny_bind ?_
    show wpAny _ A (updateSeq S (·.push .none) >>= fun _ => updateSeq S (·.pop)) _ _ _
    refine wpAny_bind (wpAny_updateSeq hS rfl ?_)
    have hS3 := Heap.get?_update_self (Obj.mapSeq (·.push Value.none)) hS rfl
    refine wpAny_updateSeq hS3 rfl ?_
    have hS4 := Heap.get?_update_self (Obj.mapSeq (·.pop)) hS3 rfl
    exact h _ _ hS4 fun b o hb e => (Heap.get?_update_other _ _ (Ne.symm hb)).trans ((Heap.get?_update_other _ _ (Ne.symm hb)).trans e)
  · exact h s.heap 0 hS fun b o _ e => e
theorem walks_rt {prog : Program} {w : World} {A : Around} (hh : A.handled = none) (I t : Addr) (hne : t ≠ I) (items : Array Value) (hsz : items.size ≤ sizeLine) :
    Walks prog w A I [I, t] [I] items.size (fun i v => items[items.size - 1 - i]? = some v) (fun i h => i ≤ items.size ∧ IsRt h I t ((items.size : Int) - 1 - (i : Int)) ∧ IsTup h t items) where
  sub := fun b hb => by simp at hb; simp [hb]
  frame := fun _ _ _ x hk => ⟨x.1, x.2.1.at fun o e => hk I (by simp) o e, by
    obtain ⟨o, e, r⟩ := x.2.2
    exact ⟨o, hk t (by simp) o e, r⟩⟩
  item := fun i s Q E hi x hQ => by
    have e : (items.size : Int) - 1 - (i : Int) = ((items.size - 1 - i : Nat) : Int) := by omega
    have hit := x.2.1
    rw [e] at hit
    have hx : items[items.size - 1 - i]? = some (items[items.size - 1 - i]'(by omega)) := Array.getElem?_eq_getElem (by omega)
    refine next_rt_item hit x.2.2 hx hsz fun h' hit' hs' => ?_
    have e2 : ((items.size - 1 - i : Nat) : Int) - 1 = (items.size : Int) - 1 - ((i + 1 : Nat) : Int) := by omega
    rw [e2] at hit'
    obtain ⟨o, eo, r⟩ := x.2.2
    exact hQ _ h' (s.toks + 1) hx ⟨hi, hit', ⟨o, (hs'.2 t hne).trans eo, r⟩⟩ fun b o hb eo => hs'.extBut b o (fun h => hb (by simp [h])) eo
  done := fun s Q E x hQ => by
    have e : (items.size : Int) - 1 - (items.size : Int) = -1 := by omega
    have hit := x.2.1
    rw [e] at hit
    exact next_rt_end hh hit fun h' he' => hQ h' s.toks fun b o hb eo => he' b o (fun h => hb (by simp [h])) eo
  self := fun _ _ _ _ x hQ => iter_rt x.2.1 hQ
section
variable {prog : Program} {w : World} {A : Around} {E : Value → Shared → Prop} {s : Shared}
theorem collect_rt {it t : Addr} {items : Array Value} {Q : List Value → Shared → Prop} (hh : A.handled = none) (hit : IsRt s.heap it t ((items.size : Int) - 1)) (hl : IsTup s.heap t items) (hne : t ≠ it) (hn : items.size ≤ sizeLine)
    (hQ : ∀ (h' : Heap) (tk : Nat) (acc : Array Value), (∀ b o, b ≠ it → s.heap.get? b = some o → h'.get? b = some o) → ItemsOf (fun i v => items[items.size - 1 - i]? = some v) acc items.size → Q acc.toList { s with heap := h', toks := tk }) :
    wpAny (model prog w) A (collect (.ref it)) Q E s := by
  have W := (walks_rt (prog := prog) (w := w) (A := A.in1) hh it t hne items hn).toS
  obtain ⟨oi, hoi, _⟩ := id hit
  obtain ⟨ol, hol, hlr⟩ := id hl
  have hSi : s.heap.objs.size ≠ it := Nat.ne_of_gt (Heap.lt_size hoi)
  have hSl : s.heap.objs.size ≠ t := Nat.ne_of_gt (Heap.lt_size hol)
  have hSf : s.heap.objs.size ∉ [it, t] := by simp only [List.mem_cons, List.not_mem_nil, or_false, not_or]; exact ⟨hSi, hSl⟩
  unfold collect
  refine wpAny_bind (wpAny_runValue (codeAny_builtin F.entry_proto_collect ?_))
  rw [Around.under_plainId F.plain_proto_collect _]
  show wpAny _ A.in1 (newList [] >>= fun l' => again (.builtin "list.__iadd__" ⟨[l', .ref it], []⟩)) _ _ s
  refine wpAny_bind (wpAny_newObj_type ?_)
  refine wpAny_pure ⟨plainId_quiet F.plain_list_iadd _, codeAny_builtin F.entry_list_iadd ?_⟩
  rw [Around.under_plainId F.plain_list_iadd _]
  have hS₁ : (s.heap.push { cls := .type "list", data := .seq ([] : List Value).toArray }).get? s.heap.objs.size = some { cls := .type "list", data := .seq ([] : List Value).toArray } := Heap.get?_push_size _ rfl
  have hit1 : IsRt (s.heap.push { cls := .type "list", data := .seq ([] : List Value).toArray }) it t ((items.size : Int) - 1) := hit.at fun o e => Heap.get?_push_of_some _ e
  have hl1 : IsTup (s.heap.push { cls := .type "list", data := .seq ([] : List Value).toArray }) t items := ⟨ol, Heap.get?_push_of_some _ hol, hlr⟩
  have hT : ({ s with heap := s.heap.push { cls := .type "list", data := .seq ([] : List Value).toArray } } : Shared).TypeIs (.ref it) "reversed" := IsRt.typeIs (s := { s with heap := s.heap.push { cls := .type "list", data := .seq ([] : List Value).toArray } }) hit1
  have h1 : Builtin.List.listSameRef (.ref s.heap.objs.size) (.ref it) = false := by simp [Builtin.List.listSameRef, hSi]
  show wpAny _ A.in1 (Builtin.List.listExtendWith (.ref s.heap.objs.size) (.ref it) (.ref s.heap.objs.size)) _ _ _
  unfold Builtin.List.listExtendWith
  refine wpAny_bind (wpAny_typeOf hT ?_)
  rw [if_neg (by rw [h1]; decide)]
  refine wpAny_bind (iter_rt (s := { s with heap := s.heap.push { cls := .type "list", data := .seq ([] : List Value).toArray } }) hit1 ?_)
  refine wpAny_bind (wpAny_holding ?_)
  refine hint_len (s := { s with heap := s.heap.push { cls := .type "list", data := .seq ([] : List Value).toArray } }) hit1 hl1 hn fun b tk => ?_
  refine touch_room (s := { s with heap := s.heap.push { cls := .type "list", data := .seq ([] : List Value).toArray }, toks := tk }) hS₁ fun h2 c hS2 oth => ?_
  have e0 : ((items.size : Nat) : Int) - 1 - ((0 : Nat) : Int) = (items.size : Int) - 1 := by omega
  have hit2 : IsRt h2 it t ((items.size : Int) - 1) := hit1.at fun o e => oth _ _ (Ne.symm hSi) e
  have hl2 : IsTup h2 t items := by
    obtain ⟨o, e, r⟩ := hl1
    exact ⟨o, oth _ _ (Ne.symm hSl) e, r⟩
  refine wpAny_pure ⟨plainId_quiet F.plain_extend_loop _, codeAny_extend_loopS W hn _ hSf _ items.size 0 _ _ _ rfl (Nat.zero_le _) ⟨Nat.zero_le _, by rw [e0]; exact hit2, hl2⟩ hS2 (ItemsOf.nil _) fun s' acc' c' hm hS' hacc => ?_⟩
  show wpAny _ A (load s.heap.objs.size >>= _) _ _ s'
  refine wpAny_bind (wpAny_load hS' ?_)
  refine wpAny_pure ?_
  rw [Moved.eq_with hm]
  refine hQ s'.heap s'.toks acc' (fun b o hb e => hm.heap b o (fun hmem => ?_) (oth _ _ (Nat.ne_of_lt (Heap.lt_size e)) (Heap.get?_push_of_some _ e))) hacc
  rcases List.mem_cons.mp hmem with e' | hmem
  · exact absurd (Heap.lt_size e) (by rw [e']; exact Nat.lt_irrefl _)
  · exact hb (List.mem_singleton.mp hmem)
theorem code_tuple_new_rt {it l : Addr} {items : Array Value} {Q₁ : Value → Shared → Prop} (hh : A.handled = none) (hit : IsRt s.heap it l ((items.size : Int) - 1)) (hl : IsTup s.heap l items) (hne : l ≠ it) (hn : items.size ≤ sizeLine)
    (h : ∀ (h' : Heap) (tk : Nat) (acc : Array Value), (∀ b o, b ≠ it → s.heap.get? b = some o → h'.get? b = some o) → ItemsOf (fun i v => items[items.size - 1 - i]? = some v) acc items.size →
      Q₁ (.ref h'.objs.size) { s with heap := h'.push { cls := .type "tuple", data := .seq acc }, toks := tk }) :
    codeAny (model prog w) A (.call (.builtin "tuple.__new__") ⟨[.type "tuple", .ref it], []⟩) (wants Q₁ E) s := by
  refine codeAny_of_tree ?_
  show wpAny _ A.in1 (do checkBuiltinCall "tuple.__new__" ⟨[.type "tuple", .ref it], []⟩; again (.builtin "tuple.__new__" ⟨[.type "tuple", .ref it], []⟩)) _ _ s
  refine wpAny_bind (wpAny_of_eq (F.newCall_tuple_1 _) (wpAny_pure ⟨plainId_quiet F.plain_tuple_new _, codeAny_builtin F.entry_tuple_new ?_⟩))
  rw [Around.under_plainId F.plain_tuple_new _]
  have hsub := sub_tuple_self
  have hinit := init_tuple_lookup
  have hmh := madeHere_tuple
  have hTI : s.TypeIs (.ref it) "reversed" := hit.typeIs
  have hh1 : A.in1.handled = none := hh
  wp_walk using wpAny_typeOf hTI, collect_rt (A := A.in1) hh1 hit hl hne hn
  intro h' tk acc hk hacc
  show wpAny _ _ (Builtin.Tuple.tupleExact acc.toList.toArray >>= fun v => ret v) _ _ _
  unfold Builtin.Tuple.tupleExact
  refine wpAny_bind (wpAny_newObj_type ?_ (by show acc.toList.toArray.size ≤ sizeLine; simp only [Array.toArray_toList]; rw [hacc.1]; exact hn))
  refine wpAny_pure ?_
  have e : acc.toList.toArray = acc := by simp
  rw [e]
  exact h h' tk acc hk hacc
theorem call_tuple_rt {it l : Addr} {items : Array Value} {Q : Value → Shared → Prop} (hh : A.handled = none) (hit : IsRt s.heap it l ((items.size : Int) - 1)) (hl : IsTup s.heap l items) (hne : l ≠ it) (hn : items.size ≤ sizeLine)
    (hQ : ∀ (h' : Heap) (tk : Nat) (acc : Array Value), (∀ b o, b ≠ it → s.heap.get? b = some o → h'.get? b = some o) → ItemsOf (fun i v => items[items.size - 1 - i]? = some v) acc items.size →
      Q (.ref h'.objs.size) { s with heap := h'.push { cls := .type "tuple", data := .seq acc }, toks := tk }) :
    wpAny (model prog w) A (call (.type "tuple") [.ref it]) Q E s := by
  refine callType_codes (Q₁ := fun obj s₁ => s₁.TypeIs obj "tuple" ∧ Q obj s₁) F.called_tuple (F.typeCall_tuple_1 _) F.entry_object_init
    (code_tuple_new_rt (A := A.in1) hh hit hl hne hn fun h' tk acc hk hacc => ⟨⟨_, Heap.get?_push_size _ rfl, rfl⟩, hQ h' tk acc hk hacc⟩) fun obj s₁ h₁ => ?_
  exact ⟨h₁.1, F.args_object_init_2 obj _, object_init_meets F.called_tuple.init.lookup F.called_tuple.made (by decide) prog w A.in1 _ s₁ ⟨h₁.1, rfl, h₁.2⟩⟩
end
def tTupRevT (K : PySem.W.Frag) (te : TE) : TE := fun σ H Q => te σ H fun v H1 => ∃ (a : Addr) (xs : List V), v = .ref a ∧ SqT K H1 a xs ∧ ∀ q, H1 q = none → Q (.ref q) (upd H1 q (.tup xs.reverse))
theorem pe_tupRevT {X : Cx} {e : Expr} {te : TE} {p p2 pos pos2 : Pos} (hc : X.calm = true) (hg : Gl X "tuple") (hm : X.mg "tuple" = none) (hg2 : Gl X "reversed") (hm2 : X.mg "reversed" = none) (he : PE X e te)
    (hs : starEach [e] X.env = (false, eval e X.env) :: starEach [] X.env := by rfl)
    (hs2 : starEach [.Call (.Name "reversed" p2) [e] [] pos2] X.env = (false, eval (.Call (.Name "reversed" p2) [e] [] pos2) X.env) :: starEach [] X.env := by rfl) :
    PE X (.Call (.Name "tuple" p) [.Call (.Name "reversed" p2) [e] [] pos2] [] pos) (tTupRevT X.K te) := by
  refine ⟨fun pins s σ H Q I h => ?_⟩
  refine Call_ (ld_blt I hg hm boot_tuple (PyProof.Rows.callWith_type1 (args_cons (Call_ (ld_blt I hg2 hm2 PyProof.Rows.boot_reversed (PyProof.Rows.callWith_type1 (args_cons (thn (he.run pins s σ H _ I h) fun u s1 ⟨v, H1, I1, r1, q1⟩ => args_nil ?_) hs) hs rfl))) hs2) hs2 rfl))
  obtain ⟨a, xs, ev, hq, q⟩ := q1
  subst ev
  obtain rfl : u = Value.ref a := r1
  obtain ⟨its, rv, p', hz⟩ := I1.tuple hq
  have hn0 := line63
  have hlen := rv.length
  have hn : its.toArray.size ≤ sizeLine := by rw [List.size_toArray, ← rv.length]; exact hz
  refine call_reversed_tup p' (fun A E Q k => len_tuple p' (by simp only [List.size_toArray] <;> omega) k) (args_nil ?_)
  have k0 : ∀ b o, s1.heap.get? b = some o → (s1.heap.push (rtObj a ((its.toArray.size : Int) - 1))).get? b = some o := fun b o e => Heap.get?_push_of_some _ e
  have I2 : Inv X pins σ H1 { s1 with heap := s1.heap.push (rtObj a ((its.toArray.size : Int) - 1)), toks := s1.toks + 1 + 1 } := I1.kept (t' := s1.toks + 1 + 1) k0
  obtain ⟨f0, f1, f2, f3, f4, f5⟩ := I1.fpOk (H' := H1) (b := s1.heap.objs.size) (Nat.le_refl _) (I1.hok.fresh (Nat.le_refl _))
  obtain ⟨ol, hol, hlr⟩ := id p'
  have hne : a ≠ s1.heap.objs.size := Nat.ne_of_lt (Heap.lt_size hol)
  refine call_tuple_rt (s := { s1 with heap := s1.heap.push (rtObj a ((its.toArray.size : Int) - 1)), toks := s1.toks + 1 + 1 }) (I1.ok.hd hc) ⟨_, Heap.get?_push_size _ rfl, rfl, rfl⟩ ⟨ol, k0 _ _ hol, hlr⟩ hne hn fun h' tk acc hk hi => ?_
  have I3 : Inv X pins σ H1 { s1 with heap := h', toks := tk } := I2.turned (t' := tk) (fun b o hb e => hk b o hb e) f0 f1 f3 f4 f5
  refine ⟨.ref h'.objs.size, upd H1 h'.objs.size (.tup xs.reverse), I3.laid (t' := tk) (fun c o e => Heap.get?_push_of_some _ e) (Nat.le_refl _) (show ObjOk X.prog X.w _ _ _ (.tup xs.reverse) from ⟨by rw [List.length_reverse]; exact hz, acc.toList, vals_rev rv hi, ?_⟩), rfl, q _ (I3.hok.fresh (Nat.le_refl _))⟩
  rw [Array.toArray_toList]
  exact IsTup.new _ _
/-- tuple(reversed(x)), x a tuple of fixed things -/
def mTupRev (q : MQ D) : M D := fun m => (q m).bind fun d => match d with
  | .tup xs => Res.when (pureL xs) (.ok (.tup xs.reverse, m))
  | _ => .fail
theorem RepL.rev {K : PySem.W.Frag} {W : Wd} {H : Hp} : ∀ {vs : List V} {ds : List D}, RepL K W H vs ds [] → RepL K W H vs.reverse ds.reverse [] := by
  have app : ∀ {vs ws : List V} {ds es : List D}, RepL K W H vs ds [] → RepL K W H ws es [] → RepL K W H (vs ++ ws) (ds ++ es) [] := by
    intro vs
    induction vs with
    | nil => intro ws ds es a b; cases a; exact b
    | cons v vs ih =>
      intro ws ds es a b
      generalize hf : ([] : List Addr) = g at a
      cases a with
      | @cons _ d f _ ds' g' r l =>
        have h := hf.symm
        rw [List.append_eq_nil_iff] at h
        obtain ⟨rfl, rfl⟩ := h
        exact .cons (f := []) (g := []) r (ih l b)
  intro vs
  induction vs with
  | nil => intro ds a; cases a; exact .nil
  | cons v vs ih =>
    intro ds a
    generalize hf : ([] : List Addr) = g at a
    cases a with
    | @cons _ d f _ ds' g' r l =>
      have h := hf.symm
      rw [List.append_eq_nil_iff] at h
      obtain ⟨rfl, rfl⟩ := h
      rw [List.reverse_cons, List.reverse_cons]
      exact app (ih l) (.cons (f := []) (g := []) r .nil)
theorem me_tupRev {X : Cx} {CT : Nat → Addr} {e : Expr} {q : MQ D} {p p2 pos pos2 : Pos} (hc : X.calm = true) (hg : Gl X "tuple") (hm : X.mg "tuple" = none) (hg2 : Gl X "reversed") (hm2 : X.mg "reversed" = none) (he : MEQ X CT e q)
    (hs : starEach [e] X.env = (false, eval e X.env) :: starEach [] X.env := by rfl)
    (hs2 : starEach [.Call (.Name "reversed" p2) [e] [] pos2] X.env = (false, eval (.Call (.Name "reversed" p2) [e] [] pos2) X.env) :: starEach [] X.env := by rfl) :
    ME X CT (.Call (.Name "tuple" p) [.Call (.Name "reversed" p2) [e] [] pos2] [] pos) (mTupRev q) :=
  pe_weak (pe_tupRevT hc hg hm hg2 hm2 he hs hs2) fun σ H Q ⟨W, m, fp, d, m', rel, e, k⟩ => by
    obtain ⟨d1, e1, e⟩ := Res.bind_eq e
    refine ⟨W, m, fp, d1, rel, e1, fun v1 W1 H1 fd1 p => ?_⟩
    have rp := p.rep
    split at e
    · obtain ⟨h, e⟩ := Res.when_eq e
      cases e
      obtain ⟨a, vs, rfl, s, z, l⟩ := rp.tupl
      obtain rfl := l.pure h
      exact ⟨a, vs, rfl, s, fun q0 hq => k _ _ _ fp _ ((New.tup p.rel.fix hq l.rev).post p.rel (p.ext.sub fun a m => by cases m) fun a m => .inl m)⟩
    · cases e
end E
/-! EngZp: dicts of ints and texts: {}, d[k] = v, del d[k], d.pop(k), d.pop(k, x), d.get(k), d.get(k, x) -/
namespace E
open PySem L2
section
variable {K : PySem.W.Frag} {W : Wd} {H : Hp}
theorem pureK_L {dd : List (D × D)} (h : pureK dd = true) : pureL (dd.map (·.2)) = true := by rw [pureL_all, ← pureK_all]; exact h
/-! {} -/
theorem New.dic {p : Addr} (x : Fix W H) (hp : H p = none) : New K W H (.ref p) (.dic true false []) W (upd H p (.dK [])) [p] :=
  ⟨.dkO (kvs := []) upd_same rfl .nil, ext_upd hp, rfl, fix_upd x, by simp, fun a m => by
    obtain rfl : a = p := by simpa using m
    exact ⟨fun z => x a z hp, by rw [upd_same]; exact fun z => by cases z⟩, fun a m => by
    obtain rfl : a = p := by simpa using m
    exact hp⟩
def mDic0 : M D := fun m => .ok (.dic true false [], m)
theorem me_dic0 {X : Cx} {CT : Nat → Addr} {pos : Pos} : ME X CT (.Dict [] [] pos) mDic0 := pe_weak pe_dnewK fun σ H Q ⟨W, m, fp, d, m', rel, e, k⟩ => by
  cases e
  exact fun p hp => k _ _ _ _ _ ((New.dic rel.fix hp).post rel (Ext.refl _ _ _) fun a z => .inl z)
/-! changes of the data -/
def putD (dd : List (D × D)) (q : Key) (y : D) : List (D × D) := if (valD dd q).isSome = true then dd.map (fun p => if toKey p.1 = some q then (p.1, y) else p) else dd ++ [(kD q, y)]
def dropD (dd : List (D × D)) (q : Key) : List (D × D) := dd.filter fun p => decide (toKey p.1 ≠ some q)
theorem any_rep {kvs : List (Key × V)} {dd : List (D × D)} {f : List Addr} (hk : kvs.map (fun p => kD p.1) = dd.map (·.1)) (l : RepL K W H (kvs.map (·.2)) (dd.map (·.2)) f) (q : Key) : (kvs.any fun kv => decide (kv.1 = q)) = (valD dd q).isSome := by
  rw [valV_any]
  rcases valD_rep hk l q with ⟨n1, n2⟩ | ⟨d, v, f', e1, e2, _⟩
  · rw [n1, n2]; rfl
  · rw [e1, e2]; rfl
theorem RepL.app0 {vs ws : List V} {ds es : List D} (a : RepL K W H vs ds []) (b : RepL K W H ws es []) : RepL K W H (vs ++ ws) (ds ++ es) [] := by
  induction vs generalizing ds with
  | nil => cases a; exact b
  | cons v vs ih =>
    generalize hf : ([] : List Addr) = g at a
    cases a with
    | @cons _ d f _ ds' g' r l =>
      have h := hf.symm
      rw [List.append_eq_nil_iff] at h
      obtain ⟨rfl, rfl⟩ := h
      exact .cons (f := []) (g := []) r (ih l)
theorem repL_cons0 {v : V} {vs : List V} {d : D} {ds : List D} (h : RepL K W H (v :: vs) (d :: ds) []) : RepD K W H v d [] ∧ RepL K W H vs ds [] := by
  generalize hf : ([] : List Addr) = g at h
  cases h with
  | @cons _ d f _ ds' g' r l =>
    have h := hf.symm
    rw [List.append_eq_nil_iff] at h
    obtain ⟨rfl, rfl⟩ := h
    exact ⟨r, l⟩
theorem repl_rep {q : Key} {v : V} {y : D} (ry : RepD K W H v y []) : ∀ {kvs : List (Key × V)} {dd : List (D × D)}, kvs.map (fun p => kD p.1) = dd.map (·.1) → RepL K W H (kvs.map (·.2)) (dd.map (·.2)) [] →
    (kvs.map fun kv => if kv.1 = q then (kv.1, v) else kv).map (fun p => kD p.1) = (dd.map fun p => if toKey p.1 = some q then (p.1, y) else p).map (·.1) ∧
    RepL K W H ((kvs.map fun kv => if kv.1 = q then (kv.1, v) else kv).map (·.2)) ((dd.map fun p => if toKey p.1 = some q then (p.1, y) else p).map (·.2)) []
  | [], [], _, _ => ⟨rfl, .nil⟩
  | [], _ :: _, h, _ => by cases h
  | _ :: _, [], h, _ => by cases h
  | (k, u) :: kvs, (p, d) :: dd, h, l => by
    rw [List.map_cons, List.map_cons] at h
    injection h with h1 h2
    have h1 : kD k = p := h1
    subst h1
    obtain ⟨r, l2⟩ := repL_cons0 l
    obtain ⟨i1, i2⟩ := repl_rep ry h2 l2
    rw [List.map_cons, List.map_cons, List.map_cons, List.map_cons, List.map_cons, List.map_cons]
    dsimp only
    rw [toKey_kD]
    by_cases e : k = q
    · rw [if_pos e, if_pos (by rw [e])]
      exact ⟨by rw [i1], .cons (f := []) (g := []) ry i2⟩
    · rw [if_neg e, if_neg fun z => e (Option.some.inj z)]
      exact ⟨by rw [i1], .cons (f := []) (g := []) r i2⟩
theorem dput_rep {q : Key} {v : V} {y : D} (ry : RepD K W H v y []) {kvs : List (Key × V)} {dd : List (D × D)} (hk : kvs.map (fun p => kD p.1) = dd.map (·.1)) (l : RepL K W H (kvs.map (·.2)) (dd.map (·.2)) []) :
    (putK kvs q v).map (fun p => kD p.1) = (putD dd q y).map (·.1) ∧ RepL K W H ((putK kvs q v).map (·.2)) ((putD dd q y).map (·.2)) [] := by
  unfold putK putD
  rw [any_rep hk l q]
  split
  · exact repl_rep ry hk l
  · rw [List.map_append, List.map_append, List.map_append, List.map_append, hk]
    exact ⟨rfl, l.app0 (.cons (f := []) (g := []) ry .nil)⟩
theorem drop_rep {q : Key} : ∀ {kvs : List (Key × V)} {dd : List (D × D)}, kvs.map (fun p => kD p.1) = dd.map (·.1) → RepL K W H (kvs.map (·.2)) (dd.map (·.2)) [] →
    (dropK kvs q).map (fun p => kD p.1) = (dropD dd q).map (·.1) ∧ RepL K W H ((dropK kvs q).map (·.2)) ((dropD dd q).map (·.2)) []
  | [], [], _, _ => ⟨rfl, .nil⟩
  | [], _ :: _, h, _ => by cases h
  | _ :: _, [], h, _ => by cases h
  | (k, u) :: kvs, (p, d) :: dd, h, l => by
    rw [List.map_cons, List.map_cons] at h
    injection h with h1 h2
    have h1 : kD k = p := h1
    subst h1
    obtain ⟨r, l2⟩ := repL_cons0 l
    obtain ⟨i1, i2⟩ := drop_rep (q := q) h2 l2
    unfold dropK dropD at i1 i2 ⊢
    rw [List.filter_cons, List.filter_cons]
    dsimp only
    rw [toKey_kD]
    by_cases e : k = q
    · rw [if_neg (by rw [decide_eq_true_eq]; exact fun z => z e), if_neg (by rw [decide_eq_true_eq]; exact fun z => z (by rw [e]))]
      exact ⟨i1, i2⟩
    · have e2 : (some k : Option Key) ≠ some q := fun z => e (Option.some.inj z)
      rw [if_pos (decide_eq_true e), if_pos (decide_eq_true e2), List.map_cons, List.map_cons, List.map_cons, List.map_cons]
      exact ⟨by rw [i1], .cons (f := []) (g := []) r i2⟩
end
/-! d[k] = v -/
def gSetD : D → List D → Res (D × D)
  | .dic true false dd, [k, y] => (Res.of (toKey k)).bind fun q => Res.when (pureK dd && (y.pure && decide (dd.length < sizeLine))) (.ok (.non, .dic true false (putD dd q y)))
  | _, _ => .fail
theorem sd_dic {X : Cx} : SetD X rSetD gSetD := fun W H v d f vs ds fd res d' Q x0 own nd rd rl e k => by
  unfold gSetD at e
  split at e
  · rename_i dd n y
    obtain ⟨q, e1, e⟩ := Res.bind_eq e
    have e1 := Res.of_eq e1
    obtain ⟨h, e⟩ := Res.when_eq e
    cases e
    rw [Bool.and_eq_true, Bool.and_eq_true, decide_eq_true_eq] at h
    obtain ⟨h1, h2, h3⟩ := h
    cases rd with
    | @dkO a fx kvs _ ha hk l =>
      obtain rfl := l.pure (pureK_L h1)
      cases rl with
      | @cons w _ fn _ _ gy rn rm =>
        cases rm with
        | @cons w2 _ fy _ _ gy ry rz =>
          cases rz
          obtain rfl := ry.pure h2
          obtain rfl := key_rep rn e1
          obtain ⟨p1, p2⟩ := dput_rep ry hk l
          have hl : kvs.length < sizeLine := by
            have := congrArg List.length hk
            rw [List.length_map, List.length_map] at this
            omega
          refine ⟨_, _, rfl, a, _, rfl, DPut.k ha hl, k .non W _ _ [] (mut_own x0 (fd := fn ++ ([] ++ [])) (fx' := []) own nd (fun b => by simp) (fun x off nn => .dkO upd_same p1 (p2.ext x off nn)) .non rfl)⟩
  · cases e
/-! methods that look, take out -/
theorem mt_dget1 {X : Cx} (hu : X.A.units + 64 < cLine) : MtR X "dict.get" (fun x xs H Q => ∃ a y o, x = .ref a ∧ xs = [y] ∧ DGet H a y o ∧ Q (o.getD .non) H) := by
  intro pins s σ H x xs v us Q I rx rs h
  obtain ⟨a, y, o, rfl, rfl, g, q⟩ := h
  obtain rfl : v = Value.ref a := rx
  cases rs with
  | cons r1 r2 =>
    cases r2
    exact d_get1 (by omega) I g r1 fun w' s' I' rw' => ⟨_, H, I', rw', q⟩
theorem mt_dget2 {X : Cx} (hu : X.A.units + 64 < cLine) : MtR X "dict.get" (fun x xs H Q => ∃ a y z o, x = .ref a ∧ xs = [y, z] ∧ DGet H a y o ∧ Q (o.getD z) H) := by
  intro pins s σ H x xs v us Q I rx rs h
  obtain ⟨a, y, z, o, rfl, rfl, g, q⟩ := h
  obtain rfl : v = Value.ref a := rx
  cases rs with
  | cons r1 r2 =>
    cases r2 with
    | cons r2 r3 =>
      cases r3
      exact d_get2 (by omega) I g r1 r2 fun w' s' I' rw' => ⟨_, H, I', rw', q⟩
theorem mt_dpop1 {X : Cx} : MtR X "dict.pop" (fun x xs H Q => ∃ a kvs k v, x = .ref a ∧ xs = [kV k] ∧ H a = some (.dK kvs) ∧ valV kvs k = some v ∧ Q v (upd H a (.dK (dropK kvs k)))) := by
  intro pins s σ H x xs v us Q I rx rs h
  obtain ⟨a, kvs, k, z, rfl, rfl, e, l, q⟩ := h
  obtain rfl : v = Value.ref a := rx
  cases rs with
  | cons r1 r2 =>
    cases r2
    exact d_pop I e r1 l (.inl rfl) fun w' s' I' rw' => ⟨_, _, I', rw', q⟩
theorem mt_dpop2 {X : Cx} : MtR X "dict.pop" (fun x xs H Q => ∃ a kvs k z, x = .ref a ∧ xs = [kV k, z] ∧ H a = some (.dK kvs) ∧ (∀ v, valV kvs k = some v → Q v (upd H a (.dK (dropK kvs k)))) ∧ (valV kvs k = none → Q z H)) := by
  intro pins s σ H x xs v us Q I rx rs h
  obtain ⟨a, kvs, k, z, rfl, rfl, e, q1, q2⟩ := h
  obtain rfl : v = Value.ref a := rx
  cases rs with
  | cons r1 r2 =>
    cases r2 with
    | cons r2 r3 =>
      cases r3
      cases l : valV kvs k with
      | some w => exact d_pop I e r1 l (.inr ⟨_, rfl⟩) fun w' s' I' rw' => ⟨_, _, I', rw', q1 w l⟩
      | none => exact d_popD I e r1 l fun s' I' => ⟨_, _, I', r2, q2 l⟩
def gDGet1 : D → List D → Res (D × D)
  | .dic true false dd, [k] => (Res.of (toKey k)).bind fun q => Res.when (pureK dd) (.ok ((valD dd q).getD .non, .dic true false dd))
  | _, _ => .fail
def gDGet2 : D → List D → Res (D × D)
  | .dic true false dd, [k, y] => (Res.of (toKey k)).bind fun q => Res.when (pureK dd && y.pure) (.ok ((valD dd q).getD y, .dic true false dd))
  | _, _ => .fail
def gDPop1 : D → List D → Res (D × D)
  | .dic true false dd, [k] => (Res.of (toKey k)).bind fun q => Res.when (pureK dd) ((Res.of (valD dd q)).bind fun y => .ok (y, .dic true false (dropD dd q)))
  | _, _ => .fail
def gDPop2 : D → List D → Res (D × D)
  | .dic true false dd, [k, y] => (Res.of (toKey k)).bind fun q => Res.when (pureK dd && y.pure) (match valD dd q with
    | some z => .ok (z, .dic true false (dropD dd q))
    | none => .ok (y, .dic true false dd))
  | _, _ => .fail
def gDel : D → List D → Res (D × D)
  | .dic true false dd, [k] => (Res.of (toKey k)).bind fun q => Res.when (pureK dd && (valD dd q).isSome) (.ok (.non, .dic true false (dropD dd q)))
  | _, _ => .fail
section
variable {K : PySem.W.Frag} {W : Wd} {H : Hp}
/-- nothing changes -/
theorem opPost_same {a : Addr} {f fd : List Addr} {x : V} {res d : D} (x0 : Fix W H) (own : Own W H (f ++ fd)) (nd : (f ++ fd).Nodup) (r : RepD K W H (.ref a) d f) (rx : RepD K W H x res []) (ow : d.owned = true) : OpPost K W H f fd (.ref a) x res d W H f [] where
  ext := Ext.refl _ _ _
  ι := rfl
  fix := x0
  rep := r
  res := rx
  nd := by rw [List.append_nil]; exact (List.nodup_append.mp nd).1
  own := by rw [List.append_nil]; exact fun b m => own b (List.mem_append_left _ m)
  sub := fun b m => by rw [List.append_nil] at m; exact .inl m
  mine := ow
theorem valD_val {kvs : List (Key × V)} {dd : List (D × D)} (hk : kvs.map (fun p => kD p.1) = dd.map (·.1)) (l : RepL K W H (kvs.map (·.2)) (dd.map (·.2)) []) (q : Key) :
    (valD dd q = none ∧ valV kvs q = none) ∨ ∃ d v, valD dd q = some d ∧ valV kvs q = some v ∧ RepD K W H v d [] := by
  rcases valD_rep hk l q with n | ⟨d, v, f', e1, e2, r, s⟩
  · exact .inl n
  · obtain rfl : f' = [] := by
      cases f' with
      | nil => rfl
      | cons b t => cases s b (List.mem_cons_self ..)
    exact .inr ⟨d, v, e1, e2, r⟩
end
theorem mu_dget1 {X : Cx} : MutD X (fun x xs H Q => ∃ a y o, x = .ref a ∧ xs = [y] ∧ DGet H a y o ∧ Q (o.getD .non) H) gDGet1 := fun W H v d f vs ds fd res d' Q x0 own nd rd rl e k => by
  unfold gDGet1 at e
  split at e
  · rename_i dd n
    obtain ⟨q, e1, e⟩ := Res.bind_eq e
    have e1 := Res.of_eq e1
    obtain ⟨h1, e⟩ := Res.when_eq e
    cases e
    have rd0 := rd
    cases rd with
    | @dkO a fx kvs _ ha hk l =>
      obtain rfl := l.pure (pureK_L h1)
      cases rl with
      | @cons w _ fn _ _ gy rn rm =>
        cases rm
        obtain rfl := key_rep rn e1
        refine ⟨a, _, _, rfl, rfl, DGet.k ha, ?_⟩
        rcases valD_val hk l q with ⟨n1, n2⟩ | ⟨d, v, n1, n2, r⟩
        · rw [n2]
          rw [n1] at k
          exact k _ _ _ _ _ (opPost_same x0 own nd rd0 .non rfl)
        · rw [n2]
          rw [n1] at k
          exact k _ _ _ _ _ (opPost_same x0 own nd rd0 r rfl)
  · cases e
theorem mu_dget2 {X : Cx} : MutD X (fun x xs H Q => ∃ a y z o, x = .ref a ∧ xs = [y, z] ∧ DGet H a y o ∧ Q (o.getD z) H) gDGet2 := fun W H v d f vs ds fd res d' Q x0 own nd rd rl e k => by
  unfold gDGet2 at e
  split at e
  · rename_i dd n y
    obtain ⟨q, e1, e⟩ := Res.bind_eq e
    have e1 := Res.of_eq e1
    obtain ⟨h, e⟩ := Res.when_eq e
    cases e
    rw [Bool.and_eq_true] at h
    have rd0 := rd
    cases rd with
    | @dkO a fx kvs _ ha hk l =>
      obtain rfl := l.pure (pureK_L h.1)
      cases rl with
      | @cons w _ fn _ _ gy rn rm =>
        cases rm with
        | @cons w2 _ fy _ _ gy ry rz =>
          cases rz
          obtain rfl := ry.pure h.2
          obtain rfl := key_rep rn e1
          refine ⟨a, _, _, _, rfl, rfl, DGet.k ha, ?_⟩
          rcases valD_val hk l q with ⟨n1, n2⟩ | ⟨d, v, n1, n2, r⟩
          · rw [n2]
            rw [n1] at k
            exact k _ _ _ _ _ (opPost_same x0 own nd rd0 ry rfl)
          · rw [n2]
            rw [n1] at k
            exact k _ _ _ _ _ (opPost_same x0 own nd rd0 r rfl)
  · cases e
theorem mu_dpop1 {X : Cx} : MutD X (fun x xs H Q => ∃ a kvs k v, x = .ref a ∧ xs = [kV k] ∧ H a = some (.dK kvs) ∧ valV kvs k = some v ∧ Q v (upd H a (.dK (dropK kvs k)))) gDPop1 := fun W H v d f vs ds fd res d' Q x0 own nd rd rl e k => by
  unfold gDPop1 at e
  split at e
  · rename_i dd n
    obtain ⟨q, e1, e⟩ := Res.bind_eq e
    have e1 := Res.of_eq e1
    obtain ⟨h1, e⟩ := Res.when_eq e
    obtain ⟨y, e2, e⟩ := Res.bind_eq e
    have e2 := Res.of_eq e2
    cases e
    cases rd with
    | @dkO a fx kvs _ ha hk l =>
      obtain rfl := l.pure (pureK_L h1)
      cases rl with
      | @cons w _ fn _ _ gy rn rm =>
        cases rm
        obtain rfl := key_rep rn e1
        rcases valD_val hk l q with ⟨n1, n2⟩ | ⟨d, v, n1, n2, r⟩
        · rw [n1] at e2; cases e2
        · rw [n1] at e2
          cases e2
          obtain ⟨p1, p2⟩ := drop_rep (q := q) hk l
          exact ⟨a, kvs, q, v, rfl, rfl, ha, n2, k v W _ _ [] (mut_own x0 (fd := fn ++ []) (fx' := []) own nd (fun b => by simp) (fun x off nn => .dkO upd_same p1 (p2.ext x off nn)) r rfl)⟩
  · cases e
theorem mu_dpop2 {X : Cx} : MutD X (fun x xs H Q => ∃ a kvs k z, x = .ref a ∧ xs = [kV k, z] ∧ H a = some (.dK kvs) ∧ (∀ v, valV kvs k = some v → Q v (upd H a (.dK (dropK kvs k)))) ∧ (valV kvs k = none → Q z H)) gDPop2 := fun W H v d f vs ds fd res d' Q x0 own nd rd rl e k => by
  unfold gDPop2 at e
  split at e
  · rename_i dd n y
    obtain ⟨q, e1, e⟩ := Res.bind_eq e
    have e1 := Res.of_eq e1
    obtain ⟨h, e⟩ := Res.when_eq e
    rw [Bool.and_eq_true] at h
    have rd0 := rd
    cases rd with
    | @dkO a fx kvs _ ha hk l =>
      obtain rfl := l.pure (pureK_L h.1)
      cases rl with
      | @cons w _ fn _ _ gy rn rm =>
        cases rm with
        | @cons w2 _ fy _ _ gy ry rz =>
          cases rz
          obtain rfl := ry.pure h.2
          obtain rfl := key_rep rn e1
          refine ⟨a, kvs, q, w2, rfl, rfl, ha, fun v ev => ?_, fun ev => ?_⟩
          · rcases valD_val hk l q with ⟨n1, n2⟩ | ⟨d, v', n1, n2, r⟩
            · rw [n2] at ev; cases ev
            · rw [n2] at ev
              cases ev
              rw [n1] at e
              cases e
              obtain ⟨p1, p2⟩ := drop_rep (q := q) hk l
              exact k v W _ _ [] (mut_own x0 (fd := fn ++ ([] ++ [])) (fx' := []) own nd (fun b => by simp) (fun x off nn => .dkO upd_same p1 (p2.ext x off nn)) r rfl)
          · rcases valD_val hk l q with ⟨n1, n2⟩ | ⟨d, v', n1, n2, r⟩
            · rw [n1] at e
              cases e
              exact k _ _ _ _ _ (opPost_same x0 own nd rd0 ry rfl)
            · rw [n2] at ev; cases ev
  · cases e
theorem md_del {X : Cx} : MutD X (fun x xs H Q => ∃ a kvs k, x = .ref a ∧ xs = [kV k] ∧ H a = some (.dK kvs) ∧ (valV kvs k).isSome = true ∧ Q .non (upd H a (.dK (dropK kvs k)))) gDel := fun W H v d f vs ds fd res d' Q x0 own nd rd rl e k => by
  unfold gDel at e
  split at e
  · rename_i dd n
    obtain ⟨q, e1, e⟩ := Res.bind_eq e
    have e1 := Res.of_eq e1
    obtain ⟨h, e⟩ := Res.when_eq e
    cases e
    rw [Bool.and_eq_true] at h
    cases rd with
    | @dkO a fx kvs _ ha hk l =>
      obtain rfl := l.pure (pureK_L h.1)
      cases rl with
      | @cons w _ fn _ _ gy rn rm =>
        cases rm
        obtain rfl := key_rep rn e1
        obtain ⟨p1, p2⟩ := drop_rep (q := q) hk l
        refine ⟨a, kvs, q, rfl, rfl, ha, ?_, k .non W _ _ [] (mut_own x0 (fd := fn ++ []) (fx' := []) own nd (fun b => by simp) (fun x off nn => .dkO upd_same p1 (p2.ext x off nn)) .non rfl)⟩
        have := any_rep hk l q
        rw [valV_any] at this
        rw [this]
        exact h.2
  · cases e
/-! del p[k] -/
def sDelP (rs : MQ Pl) (q : MQ D) : MS := fun m => (rs m).bind fun p => (q m).bind fun kd => Res.when kd.pure ((Res.of (p.get m)).bind fun d => Res.when d.defd ((gDel d [kd]).bind fun o => .ok (.nx, p.put o.2 m)))
theorem mst_delP {X : Cx} {CT : Nat → Addr} {pin : List Nat} {o e : Expr} {rs : MQ Pl} {q : MQ D} {tpos pos : Pos} (ho : MPl X CT o rs) (hi : MEQ X CT e q) : MSt X CT pin (.Delete [.Subscript o e tpos] pos) (sDelP rs q) :=
  ps_weak (ps_ddel ho hi) fun D σ H ⟨W, m, fp, fl, m', rel, e, k⟩ => by
    obtain ⟨p, e1, e⟩ := Res.bind_eq e
    obtain ⟨kd, e2, e⟩ := Res.bind_eq e
    obtain ⟨pk, e⟩ := Res.when_eq e
    obtain ⟨d0, e3, e⟩ := Res.bind_eq e
    have e3 := Res.of_eq e3
    obtain ⟨df, e⟩ := Res.when_eq e
    obtain ⟨⟨res, d2⟩, e4, e⟩ := Res.bind_eq e
    cases e
    refine ⟨W, m, fp, p, rel, e1, fun v0 W1 H1 rel1 x1 now _ => ⟨W1, m, fp, kd, rel1, e2, fun kv W2 H2 fk p2 => ?_⟩⟩
    obtain rfl := p2.rep.pure pk
    have i2 : W2.ι = W1.ι := iota_same rel1 p2.rel p2.ext rfl
    obtain ⟨A, f, B, rfl, rd, kk⟩ := (now d0 e3 (by rintro rfl; cases df)).ext p2.ext i2
    have x2 : Ext W H W2 H2 [] := x1.trans p2.ext fun a z => nomatch z
    have ndA : (A ++ f ++ B).Nodup := p2.rel.nd
    have ndf : (f ++ ([] ++ [])).Nodup := by
      rw [List.nodup_iff_count]; intro b
      have := List.nodup_iff_count.mp ndA b
      simp only [List.count_append, List.append_nil] at this ⊢
      omega
    have rl : RepL X.K W2 H2 [kv] [kd] ([] ++ []) := .cons p2.rep .nil
    obtain ⟨a, kvs, k0, rfl, ek, ha, hs, ht⟩ := md_del (X := X) W2 H2 v0 d0 f [kv] [kd] _ res d2 (fun _ H' => D.nx σ H') p2.rel.fix (Own.app.mpr ⟨fun b z => p2.rel.own b (by simp [z]), fun b z => by simp at z⟩) ndf rd rl e4 fun x W' H' f' fr op => by
      have nd2 : (A ++ f ++ B ++ ([] ++ [])).Nodup := by simpa using ndA
      have ps := Hole.post p2.rel nd2 (fun b z => by simp at z) kk op
      have x3 : Ext W H W2 H2 (A ++ f ++ B) := x2.sub fun a z => nomatch z
      refine k σ W' H' _ ⟨ps.rel, x3.trans ps.ext fun b z => .inl (by simpa using z), fun b z => ?_, fun _ _ => rfl, rfl⟩
      rcases ps.sub b (List.mem_append_left _ z) with z | z
      · exact .inl (by simpa using z)
      · exact .inr (x2.there b z)
    injection ek with ek
    exact ⟨a, kvs, k0, rfl, ha, ek, hs, ht⟩
/-! lists or dicts -/
def gOr (g g' : D → List D → Res (D × D)) : D → List D → Res (D × D) := fun d ds => match g d ds with
  | .ok r => .ok r
  | _ => g' d ds
theorem SetD.or {X : Cx} {t t' : TSet} {g g' : D → List D → Res (D × D)} (h : SetD X t g) (h' : SetD X t' g') : SetD X (fun o i v H Q => t o i v H Q ∨ t' o i v H Q) (gOr g g') := fun W H v d f vs ds fd res d' Q x0 own nd rd rl e k => by
  unfold gOr at e
  split at e
  · rename_i r e1
    cases e
    obtain ⟨k0, y, e2, ht⟩ := h W H v d f vs ds fd res d' Q x0 own nd rd rl e1 k
    exact ⟨k0, y, e2, .inl ht⟩
  · obtain ⟨k0, y, e2, ht⟩ := h' W H v d f vs ds fd res d' Q x0 own nd rd rl e k
    exact ⟨k0, y, e2, .inr ht⟩
theorem PSet.or {X : Cx} {t t' : TSet} (h : PSet X t) (h' : PSet X t') : PSet X (fun o i v H Q => t o i v H Q ∨ t' o i v H Q) := by
  intro pins s σ H o i v ov iv u Q I ro ri rv q
  rcases q with q | q
  · exact h pins s σ H o i v ov iv u Q I ro ri rv q
  · exact h' pins s σ H o i v ov iv u Q I ro ri rv q
theorem set_dicH {X : Cx} (hu : X.A.units + 64 < cLine) : PSet X rSetD := set_dict (by omega)
/-! sorted(d), len(d) -/
def dSortD : List D → Res D
  | [.dic _ false dd] => (Res.of (toStrs (dd.map (·.1)))).bind fun ns => Res.when (decide (ns.length < 64)) (.ok (.lst true ((sortS ns).map .str)))
  | _ => .fail
theorem keys_str : ∀ {kvs : List (Key × V)} {ns : List Str}, kvs.map (fun p => kD p.1) = ns.map D.str → kvs.map (·.1) = ns.map Sum.inr
  | [], [], _ => rfl
  | [], _ :: _, h => by cases h
  | _ :: _, [], h => by cases h
  | (k, v) :: kvs, n :: ns, h => by
    rw [List.map_cons, List.map_cons] at h
    injection h with h1 h2
    rw [List.map_cons, List.map_cons, keys_str h2]
    have h1 : kD k = D.str n := h1
    cases k with
    | inl i => cases h1
    | inr x => cases h1; rfl
theorem cd_sortD {X : Cx} (hc : X.calm = true) : CallD X (.builtin "sorted") dSortD := ⟨_, call_sortedD hc, fun W H xs ds fs d Q x0 l e k => by
  unfold dSortD at e; split at e
  · obtain ⟨ns, e1, e⟩ := Res.bind_eq e
    obtain ⟨hl, e⟩ := Res.when_eq e
    cases e
    have e2 := toStrs_eq (Res.of_eq e1)
    cases l with | cons r l =>
      cases l
      obtain ⟨a, kvs, f', rfl, h, hk, l, _⟩ := r.dict
      rw [e2] at hk
      refine ⟨a, kvs, ns, rfl, .inl h, keys_str hk, of_decide_eq_true hl, fun ys p pm up hp => ?_⟩
      obtain rfl := up_unique (pm.trans (sortS_perm ns).symm) (sortedS_up up) (sortS_up ns)
      exact k _ _ _ _ (New.lst x0 hp (repSts _))
  · cases e⟩
def dLenD : List D → Res D
  | [.dic _ false dd] => .ok (.int dd.length)
  | _ => .fail
theorem cd_lenD {X : Cx} : CallD X (.builtin "len") dLenD := ⟨_, call_lenD, fun W H xs ds fs d Q x0 l e k => by
  unfold dLenD at e; split at e
  · cases e
    cases l with | cons r l =>
      cases l
      obtain ⟨a, kvs, f', rfl, h, hk, l, _⟩ := r.dict
      have := congrArg List.length hk
      rw [List.length_map, List.length_map] at this
      exact ⟨a, kvs, rfl, h, by rw [this]; exact k _ W H [] (New.sc x0 .int)⟩
  · cases e⟩
end E
/-! EngZq: {k: v, ..} with keys that are ints or texts -/
namespace E
open PySem L2
section
variable {K : PySem.W.Frag} {CT : Nat → Addr} {W W' : Wd} {H H' : Hp}
def PairsR (K : PySem.W.Frag) (W : Wd) (H : Hp) (vs : List (V × V)) (ps : List (D × D)) : Prop :=
  ∃ kvs : List (Key × V), vs = kvs.map (fun kv => (kV kv.1, kv.2)) ∧ kvs.map (fun p => kD p.1) = ps.map (·.1) ∧ RepL K W H (kvs.map (·.2)) (ps.map (·.2)) []
/-- the pairs of a written dict -/
def MPs (X : Cx) (CT : Nat → Addr) (pos : Pos) (keys : List (Option Expr)) (values : List Expr) (mp : M (List (D × D))) : Prop :=
  ∃ trs, PPs X pos keys values trs ∧ ∀ W H σ m fp ps m', Rel X.K CT W H σ m fp → mp m = .ok (ps, m') → ∀ Q : List (V × V) → Hp → Prop,
    (∀ vs W' H' fp', PostT X.K CT W H σ fp m' W' H' fp' → PairsR X.K W' H' vs ps → Q vs H') → tPairs trs σ H Q
def mpNil : M (List (D × D)) := fun m => .ok ([], m)
def mpCons (qk : MQ D) (mv : M D) (mp : M (List (D × D))) : M (List (D × D)) := fun m => (qk m).bind fun kd => (Res.of (toKey kd)).bind fun q => (mv m).bind fun r => Res.when r.1.pure ((mp r.2).bind fun s => .ok ((kD q, r.1) :: s.1, s.2))
theorem mps_nil {X : Cx} {pos : Pos} : MPs X CT pos [] [] mpNil := ⟨[], pps_nil, fun W H σ m fp ps m' rel e Q k => by
  cases e
  exact k [] W H fp ⟨rel, Ext.refl _ _ _, fun a z => .inl z⟩ ⟨[], rfl, rfl, .nil⟩⟩
theorem mps_cons {X : Cx} {pos : Pos} {k v : Expr} {ks : List (Option Expr)} {vs : List Expr} {qk : MQ D} {mv : M D} {mp : M (List (D × D))} (hk : MEQ X CT k qk) (hv : ME X CT v mv) (hr : MPs X CT pos ks vs mp) : MPs X CT pos (some k :: ks) (v :: vs) (mpCons qk mv mp) := by
  obtain ⟨trs, hp, hr⟩ := hr
  refine ⟨_, pps_cons hk hv hp, fun W H σ m fp ps m' rel e Q kk => ?_⟩
  obtain ⟨kd, e1, e⟩ := Res.bind_eq e
  obtain ⟨q, e2, e⟩ := Res.bind_eq e
  have e2 := Res.of_eq e2
  obtain ⟨⟨d, m1⟩, e3, e⟩ := Res.bind_eq e
  obtain ⟨pu, e⟩ := Res.when_eq e
  obtain ⟨⟨ps', m2⟩, e4, e⟩ := Res.bind_eq e
  cases e
  refine ⟨W, m, fp, kd, rel, e1, fun x W1 H1 fk p1 => ⟨W1, m, fp, d, m1, p1.rel, e3, fun y W2 H2 fp2 fd2 p2 => ?_⟩⟩
  refine hr W2 H2 σ m1 fp2 ps' m2 p2.rel e4 _ fun us W3 H3 fp3 p3 pr => ?_
  obtain rfl := p2.rep.pure pu
  obtain ⟨kvs, rfl, h2, h3⟩ := pr
  have ex := key_rep p1.rep e2
  subst ex
  have t1 : PostT X.K CT W H σ fp m W1 H1 fp := ⟨p1.rel, p1.ext.sub fun a z => (by cases z), fun a z => .inl z⟩
  refine kk _ W3 H3 fp3 ((t1.trans p2.t).trans p3) ⟨(q, y) :: kvs, rfl, by rw [List.map_cons, List.map_cons, h2], ?_⟩
  exact .cons (f := []) (g := []) (p2.rep.ext p3.ext p2.rel.off fun a z => by cases z) h3
def mergeD (dd : List (D × D)) : List (Key × D) → List (D × D)
  | [] => dd
  | p :: r => mergeD (putD dd p.1 p.2) r
def toKeys : List (D × D) → Option (List (Key × D))
  | [] => some []
  | (k, d) :: r => (toKey k).bind fun q => (toKeys r).map fun s => (q, d) :: s
theorem merge_rep : ∀ {ps : List (D × D)} {qs : List (Key × D)} {kvs acc : List (Key × V)} {dd : List (D × D)}, toKeys ps = some qs → kvs.map (fun p => kD p.1) = ps.map (·.1) → RepL K W H (kvs.map (·.2)) (ps.map (·.2)) [] →
    acc.map (fun p => kD p.1) = dd.map (·.1) → RepL K W H (acc.map (·.2)) (dd.map (·.2)) [] →
    (mergeK acc kvs).map (fun p => kD p.1) = (mergeD dd qs).map (·.1) ∧ RepL K W H ((mergeK acc kvs).map (·.2)) ((mergeD dd qs).map (·.2)) []
  | [], qs, [], acc, dd, e, _, _, h, l => by cases e; exact ⟨h, l⟩
  | [], _, _ :: _, _, _, _, h, _, _, _ => by cases h
  | _ :: _, _, [], _, _, _, h, _, _, _ => by cases h
  | (p, d) :: ps, qs, (k, v) :: kvs, acc, dd, e, h, l, ha, la => by
    rw [List.map_cons, List.map_cons] at h
    injection h with h1 h2
    have h1 : kD k = p := h1
    subst h1
    obtain ⟨r, l2⟩ := repL_cons0 l
    rw [toKeys, toKey_kD, Option.bind_some] at e
    obtain ⟨qs', e1, rfl⟩ := Option.map_eq_some_iff.mp e
    obtain ⟨p1, p2⟩ := dput_rep (q := k) r ha la
    have z := merge_rep (kvs := kvs) (acc := putK acc k v) (dd := putD dd k d) e1 h2 l2 p1 p2
    exact z
def mDisp (mp : M (List (D × D))) : M D := fun m => (mp m).bind fun r => (Res.of (toKeys r.1)).bind fun qs => Res.when (decide (r.1.length ≤ 15)) (.ok (.dic true false (mergeD [] qs), r.2))
theorem me_disp {X : Cx} {pos : Pos} {keys : List (Option Expr)} {values : List Expr} {mp : M (List (D × D))} (h : MPs X CT pos keys values mp) (hall : keys.all (·.isSome) = true) (hl : keys.length = values.length) (h0 : keys ≠ [])
    (h15 : keys.length ≤ 15) : ME X CT (.Dict keys values pos) (mDisp mp) := by
  obtain ⟨trs, hp, hr⟩ := h
  refine pe_weak (pe_disp hp hall hl h0 h15) fun σ H Q ⟨W, m, fp, d, m', rel, e, k⟩ => ?_
  obtain ⟨⟨ps, m1⟩, e1, e⟩ := Res.bind_eq e
  obtain ⟨qs, e2, e⟩ := Res.bind_eq e
  have e2 := Res.of_eq e2
  obtain ⟨hn, e⟩ := Res.when_eq e
  cases e
  intro p hp0
  have x0 : Ext W H W (upd H p (.dK [])) [] := ext_upd hp0
  have rel0 : Rel X.K CT W (upd H p (.dK [])) σ m fp := rel.ext x0 off_nil (fun a _ z => by cases z) rfl (fix_upd rel.fix)
  have npf : p ∉ fp := fun z => (rel.own p z).2 hp0
  refine hr W _ σ m fp ps m1 rel0 e1 _ fun us W3 H3 fp3 p3 pr => ?_
  obtain ⟨kvs, rfl, h2, h3⟩ := pr
  have hpp : H3 p = some (.dK []) := p3.ext.keep p _ upd_same npf
  have nF : ¬ W3.F p := fun z => by
    rcases p3.ext.fnew p z with z | z | z
    · exact rel.fix p z hp0
    · exact npf z
    · rw [upd_same] at z; cases z
  have np3 : p ∉ fp3 := fun z => by
    rcases p3.sub p z with z | z
    · exact npf z
    · rw [upd_same] at z; cases z
  have hlen : kvs.length ≤ 15 := by
    have := congrArg List.length h2
    rw [List.length_map, List.length_map] at this
    have := of_decide_eq_true hn
    dsimp only at this
    omega
  refine ⟨hpp, kvs, rfl, hlen, ?_⟩
  obtain ⟨g1, g2⟩ := merge_rep (acc := []) (dd := []) e2 h2 h3 rfl .nil
  have x3 : Ext W3 H3 W3 (upd H3 p (.dK (mergeK [] kvs))) [p] := ext_updA
  have off : Off W3 [p] := fun b z => by rw [List.mem_singleton.mp z]; exact nF
  have nn : ∀ a ∈ fp3, a ∉ [p] := fun a z y => np3 (by rw [← List.mem_singleton.mp y]; exact z)
  have fx3 : Fix W3 (upd H3 p (.dK (mergeK [] kvs))) := fix_upd p3.rel.fix
  refine k (.ref p) W3 _ fp3 [p] ⟨p3.rel.ext x3 off nn rfl fx3, .dkO upd_same g1 (g2.ext x3 off fun a z => by cases z), ?_, ?_, ?_, ?_⟩
  · rw [List.nodup_append]
    refine ⟨p3.rel.nd, by simp, fun a ma b mb z => ?_⟩
    rw [List.mem_singleton.mp mb] at z
    exact np3 (by rw [← z]; exact ma)
  · intro a z
    rw [List.mem_singleton.mp z]
    exact ⟨nF, by rw [upd_same]; exact fun z => by cases z⟩
  · refine Ext.trans (Ext.trans (x0.sub (fq := fp) fun a z => by cases z) p3.ext fun a z => .inl z) x3 fun a z => .inr ?_
    rw [List.mem_singleton.mp z]
    exact hp0
  · intro a z
    rcases List.mem_append.mp z with z | z
    · rcases p3.sub a z with z | z
      · exact .inl z
      · exact .inr (x0.there a z)
    · rw [List.mem_singleton.mp z]
      exact .inr hp0
end
end E
/-! EngZr: sets of texts, sorted -/
namespace E
open PySem L2 PySem.Spec PyProof.Rows PySem.Froz
section
variable {P : Program} {w : World} {A : Around} {Ex : Value → Shared → Prop} {s : Shared}
/-- the payload can be walked -/
structure Wk (w : World) (D : SD) : Prop where
  r : Ris D.2.2.place.toList
  l : w.params.followText "set-order" = true ∨ D.2.2.led = true
theorem Wk.tail {ep : Nat} {es : Array (Int × Value)} {t : SetTable} {b : Bool} (k : Wk w (es, ep, t)) : Wk w (tailTx ep es t b) := by
  unfold tailTx
  split
  · exact ⟨relayAll_ris t es _, k.l.imp id fun z => by
      show (relayAll t es (SetTable.grown es.size)).2.1.led = true
      rw [relayAll_led]
      exact z⟩
  · exact ⟨k.r, k.l⟩
theorem Wk.add {D : SD} (k : Wk w D) (h : Int) (v : Value) : Wk w (addTx h v D) := by
  unfold addTx
  refine Wk.tail ⟨?_, ?_⟩
  · have := layNew_ris D.2.2 D.1 h v k.r
    dsimp only
    split <;> exact this
  · have e := layNew_led D.2.2 D.1 h v
    have : w.params.followText "set-order" = true ∨ (layNew D.2.2 D.1 h v).2.1.led = true := k.l.imp id fun z => by rw [e]; exact z
    dsimp only
    split <;> exact this
def strOf : Value → Str
  | .str k _ => k
  | _ => ⟨#[]⟩
/-- the rows are the texts l -/
structure Rws (D : SD) (l : List Str) : Prop where
  p : (D.1.toList.map fun e => strOf e.2).Perm l
  s : ∀ e ∈ D.1.toList, ∃ k u, e.2 = Value.str k u
theorem Rws.perm {es es' : Array (Int × Value)} {ep ep' : Nat} {t t' : SetTable} {l : List Str} (r : Rws (es, ep, t) l) (p : List.Perm es'.toList es.toList) : Rws (es', ep', t') l :=
  ⟨(p.map _).trans r.p, fun e m => r.s e (p.mem_iff.mp m)⟩
theorem Rws.tail {ep : Nat} {es : Array (Int × Value)} {t : SetTable} {b : Bool} {l : List Str} (r : Rws (es, ep, t) l) : Rws (tailTx ep es t b) l := by
  unfold tailTx
  split
  · exact r.perm (relayAll_perm t es _)
  · exact r.perm (.refl _)
theorem Rws.add {D : SD} {l : List Str} (r : Rws D l) (h : Int) (k : Str) (u : Tok) : Rws (addTx h (.str k u) D) (k :: l) := by
  obtain ⟨es, ep, t⟩ := D
  unfold addTx
  refine Rws.tail ?_
  have pm := layNew_perm t es h (.str k u)
  rw [Array.toList_push] at pm
  have pc := pm.trans (List.perm_append_singleton _ _)
  refine ⟨(pc.map _).trans (.cons k r.p), fun e m => ?_⟩
  rcases List.mem_cons.mp (pc.mem_iff.mp m) with z | z
  · exact ⟨k, u, by rw [z]⟩
  · exact r.s e z
/-- the set of texts at a: its members l -/
def SetX (P : Program) (w : World) (h : Heap) (a : Addr) (l : List Str) : Prop := ∃ D : SD, h.get? a = some (sObj "set" D) ∧ TxOk P w D l ∧ l.Nodup ∧ l.length < scanBound ∧ Wk w D ∧ Rws D l
theorem SetX.at {h h' : Heap} {a : Addr} {l : List Str} (R : SetX P w h a l) (k : ∀ o, h.get? a = some o → h'.get? a = some o) : SetX P w h' a l := by
  obtain ⟨D, e, r⟩ := R
  exact ⟨D, k _ e, r⟩
theorem setX_fresh {h : Heap} : SetX P w (h.push { cls := .type "set", dict := none, data := .set #[] 0 (.fresh 0 0 (!w.params.followText "set-order")) }) h.objs.size [] :=
  ⟨(#[], 0, .fresh 0 0 (!w.params.followText "set-order")), Heap.get?_push_size _ rfl, TxOk.nil (by rfl), .nil, by decide, ⟨List.Pairwise.nil, by
    show _ ∨ (!w.params.followText "set-order") = true
    cases w.params.followText "set-order"
    · exact .inr rfl
    · exact .inl rfl⟩, ⟨.refl _, fun e m => by simp at m⟩⟩
theorem addX_hashed {a : Addr} {l : List Str} {k : Str} {u : Tok} {Q : Bool → Shared → Prop} (R : SetX P w s.heap a l) (room : l.length + 1 < scanBound)
    (hQ : ∀ b h', Heap.SameBut a s.heap h' → SetX P w h' a (if k ∈ l then l else k :: l) → Q b { s with heap := h' }) :
    wpAny (model P w) A (setAddHashed a (.str k u) (hashStr w k)) Q Ex s := by
  obtain ⟨D, ho, F, nd, hl, wk, rws⟩ := R
  by_cases hk : k ∈ l
  · rw [if_pos hk] at hQ
    obtain ⟨es, ep, t⟩ := D
    have hd : (sObj "set" (es, ep, t)).data = .set es ep t := rfl
    have hf : t.fits es.size = true := F.fit
    have hel : ElemsOf (strKind P w) es.toList := F.el
    have hsz : es.size = l.length := F.sz
    have hkey : (strKind P w).is k (.str k u) = true := is_str k u
    obtain ⟨e, he, pe⟩ := (F.mem k).mp hk
    unfold setAddHashed setAddHashedIn
    refine wpAny_holding (wpAny_bind (wpAny_setState_of ho hd hf ?_))
    dsimp only
    rw [byScan_of rfl (by omega) hel]
    simp only [↓reduceIte]
    unfold setAddByScan
    refine wpAny_bind ?_
    refine wpAny_bind (wpAny_rule ?_)
    refine wpAny_bind (wpAny_setScan_of (knd := strKind P w) (k := k) hkey ho hd hf hel ?_)
    cases hfi : List.findIdx? (fun e => (strKind P w).is k e.2) es.toList with
    | none =>
      have c := List.findIdx?_eq_none_iff.mp hfi e he
      rw [pe] at c
      cases c
    | some j =>
      dsimp only
      exact wpAny_pure (wpAny_pure (hQ _ s.heap (Heap.SameBut.refl a s.heap) ⟨(es, ep, t), ho, F, nd, hl, wk, rws⟩))
  · rw [if_neg hk] at hQ
    refine add_x ho F hk room (hQ _ _ (Heap.SameBut.update s.heap a _) ⟨_, get_upd _ ho rfl, add_ok u F, List.nodup_cons.mpr ⟨hk, nd⟩, room, wk.add _ _, rws.add _ _ _⟩)
theorem strs_of : ∀ (l : List Value), (∀ v ∈ l, ∃ k u, v = Value.str k u) → StrsAre l (l.map strOf)
  | [], _ => .nil
  | v :: l, h => by
    obtain ⟨k, u, rfl⟩ := h v List.mem_cons_self
    exact .cons k u (strs_of l fun x hx => h x (List.mem_cons_of_mem _ hx))
theorem sorted_setX {a : Addr} {l : List Str} {Q : Value → Shared → Prop} (R : SetX P w s.heap a l) (hh : A.handled = none) (h64 : l.length < 64)
    (hQ : ∀ s' p (out : Array Value) (c : Nat) (ys : List Str), (∀ b o, s.heap.get? b = some o → s'.heap.get? b = some o) → s'.gens = s.gens → s'.os = s.os → s.heap.objs.size ≤ p →
      s'.heap.get? p = some (seqObj "list" out c) → StrsAre out.toList ys → ys.Perm l → sortedS ys = true → Q (.ref p) s') :
    wpAny (model P w) A (call (.builtin "sorted") [.ref a]) Q Ex s := by
  obtain ⟨D, ho, F, nd, hl, wk, rws⟩ := R
  obtain ⟨es, ep, t⟩ := D
  refine Calls.call_function_entry kind_sorted plain_sorted entry_sorted (args_sorted1 _) ?_
  unfold Builtin.«sorted»
  have hsz : es.size = l.length := F.sz
  refine wpAny_bind (m := checkCount "sorted" 1 1 _) (wpAny_pure ?_)
  refine wpAny_bind (collect_set (A := A.in1) hh ⟨_, ho, rfl, rfl⟩ F.fit (show es.size < scanBound by omega) wk.r wk.l fun s1 vs k1 hz g1 o1 pm => ?_)
  have hvl : vs.length = l.length := by rw [pm.length_eq, List.length_map, Array.length_toList]; exact hsz
  have hS : StrsAre vs (vs.map strOf) := strs_of vs fun v hv => by
    obtain ⟨e, he, q⟩ := List.mem_map.mp (pm.mem_iff.mp hv)
    obtain ⟨k, u, h1⟩ := rws.s e he
    exact ⟨k, u, by rw [← q]; exact h1⟩
  have pk : (vs.map strOf).Perm l := by
    have q := pm.map strOf
    rw [List.map_map] at q
    exact q.trans rws.p
  refine wpAny_bind (wpAny_newList ?_ (by rw [hvl, sizeLine_eq]; omega))
  have hoL : (s1.heap.push (seqObj "list" vs.toArray 0)).get? s1.heap.objs.size = some (seqObj "list" vs.toArray 0) := Heap.get?_push_size _ rfl
  refine wpAny_bind (wpAny_holding (wpAny_call_entry slot_list_sort ⟨_, hoL, rfl⟩ entry_list_sort (list_sort_treeK strKind_oneLt hoL hS.keysOf (fun v₁ v₂ rest e => keyKind_strs (by rw [← e]; exact hS)) (by rw [hvl]; exact h64) fun st' hp hs => ?_) (args_list_sort _)))
  obtain ⟨ys, a1, a2, a3⟩ := sorted_out_str hS hp hs
  refine ⟨_, rfl, ?_⟩
  obtain ⟨c, hc⟩ := sortedHeap_at (vs := vs) (out := (arrOf st').map (·.2)) hoL
  refine wpAny_pure ⟨_, rfl, hQ _ s1.heap.objs.size _ c ys (fun b u e => ?_) g1 o1 hz hc a1 (a2.trans pk) a3⟩
  have q := k1 b u e
  have hlt := Heap.lt_size q
  show (sortedHeap (s1.heap.push (seqObj "list" vs.toArray 0)) s1.heap.objs.size vs _).get? b = some u
  rw [sortedHeap_old (Nat.ne_of_lt hlt) (by rw [Heap.size_push]; exact Nat.lt_succ_of_lt hlt)]
  exact Heap.get?_push_of_some _ q
end
/-- the set of texts at a (an object of its own kind) -/
def SetXO (P : Program) (w : World) (a : Addr) (l : List Str) : HO := .ext fun h => SetX P w h a l
theorem setXO_new {w : World} {P : Program} {H : Hp} {h : Heap} {a : Addr} {l : List Str} (R : SetX P w h a l) : ObjOk P w H h a (SetXO P w a l) := by
  have ⟨D, ho, _⟩ := R
  exact ⟨R, ⟨_, ho⟩, fun h1 h2 p k => SetX.at p k⟩
theorem newX {P : Program} {w : World} (H : Hp) (h : Heap) : ObjOk P w H (h.push (freshSet w)) h.objs.size (SetXO P w h.objs.size []) := setXO_new setX_fresh
section
variable {X : Cx}
theorem setXO_get {pins : List (Addr × Obj)} {σ : L2.St} {H : Hp} {s : Shared} {a : Addr} {l : List Str} (I : Inv X pins σ H s) (ha : H a = some (SetXO X.prog X.w a l)) : SetX X.prog X.w s.heap a l := (I.hok a _ ha).1
/-- found.add(k), k a text -/
def rAddX (P : Program) (w : World) : V → List V → Hp → VK → Prop := fun x xs H Q => ∃ (a : Addr) (k : Str) (l : List Str), x = V.ref a ∧ xs = [V.str k] ∧ H a = some (SetXO P w a l) ∧ l.length + 1 < scanBound ∧
  Q .non (upd H a (SetXO P w a (if k ∈ l then l else k :: l)))
theorem mt_addX : MtR X "set.add" (rAddX X.prog X.w) := by
  intro pins s σ H x xs v us Q I rx rxs h
  obtain ⟨a, k, l, rfl, rfl, ha, room, q⟩ := h
  cases rx
  cases rxs with
  | cons ry rt =>
    cases rt
    obtain ⟨u, rfl⟩ := ry
    have R := setXO_get I ha
    have hR := R
    obtain ⟨D, ho, _⟩ := hR
    have hkey : (strKind X.prog X.w).is k (.str k u) = true := is_str k u
    refine wpAny_call_entry F.slot_set_add ⟨_, ho, rfl⟩ F.entry_set_add ?_ (F.args_set_add_2 _ _)
    unfold Builtin.«set.add» Builtin.Frozenset.oneOther
    simp only [List.isEmpty_nil, bind_assoc]
    unfold Builtin.Frozenset.addrOf setAdd
    refine wpAny_bind (wpAny_pure (wpAny_bind (wpAny_pure (wpAny_bind (wpAny_holding (wpAny_bind ((strKind X.prog X.w).pyHash hkey ?_)))))))
    refine addX_hashed (s := { s with toks := s.toks + 1 }) R room fun b h' sb r => ?_
    show wpAny _ _ (ret Value.none) _ _ _
    refine wpAny_pure ⟨_, rfl, .non, upd H a (SetXO X.prog X.w a (if k ∈ l then l else k :: l)), ?_, rfl, q⟩
    have he : ∃ o, h'.get? a = some o := by
      have ⟨D', ho', _⟩ := r
      exact ⟨_, ho'⟩
    exact I.write (e := a) (t' := s.toks + 1) (by rw [ha]; trivial) (.inl rfl) (fun b u hb hu => (sb.2 b hb).trans hu) he (setXO_new r)
/-- sorted(found), fewer than 64 members -/
def rSortedX (P : Program) (w : World) : List V → Hp → VK → Prop := fun vs H Q => ∃ (a : Addr) (l : List Str), vs = [V.ref a] ∧ H a = some (SetXO P w a l) ∧ l.length < 64 ∧ l.Nodup ∧
  ∀ (ys : List Str) (p : Addr), ys.Perm l → sortedS ys = true → H p = none → Q (.ref p) (upd H p (.lst (ys.map V.str)))
theorem cr_sortedX (hc : X.calm = true) : CallR X (.builtin "sorted") (rSortedX X.prog X.w) := by
  intro pins s σ H vs us Q I r h
  obtain ⟨a, l, rfl, ha, h64, _, q⟩ := h
  have R := setXO_get I ha
  rw [Vals.ref1 r]
  refine sorted_setX R (I.ok.hd hc) h64 fun s' p out c ys k g o hp hg hi pm hs => ?_
  have hlen : (ys.map V.str).length ≤ sizeLine := by rw [List.length_map, pm.length_eq]; exact small64 h64
  have hn : H p = none := I.hok.fresh hp
  have J : Inv X pins σ (upd H p (.lst (ys.map V.str))) { s with heap := s'.heap, gens := s'.gens, drawn := s'.drawn, toks := s'.toks } :=
    I.call (ch := []) (Un.laid k hp hn) (I.hok.laid k hp ⟨hlen, out.toList, c, vals_of_strs hi, hg⟩) (by rw [g]; exact I.bare) (fun _ z => nomatch z)
  have e : s' = { s with heap := s'.heap, gens := s'.gens, drawn := s'.drawn, toks := s'.toks } := by
    cases s'
    cases s
    cases o
    rfl
  rw [e]
  exact ⟨.ref p, _, J, rfl, q ys p pm hs hn⟩
end
/-- each text once -/
def uniqS (xs : List Str) : List Str := xs.foldl (fun l k => if k ∈ l then l else k :: l) []
theorem uniqS_snoc (xs : List Str) (k : Str) : uniqS (xs ++ [k]) = if k ∈ uniqS xs then uniqS xs else k :: uniqS xs := by
  unfold uniqS
  rw [List.foldl_append]
  rfl
theorem snoc_ind {α : Type} {P : List α → Prop} (h0 : P []) (h1 : ∀ xs x, P xs → P (xs ++ [x])) (xs : List α) : P xs := by
  have : ∀ ys : List α, P ys.reverse := fun ys => by
    induction ys with
    | nil => exact h0
    | cons y ys ih => rw [List.reverse_cons]; exact h1 _ _ ih
  have k := this xs.reverse
  rw [List.reverse_reverse] at k
  exact k
theorem uniqS_len (xs : List Str) : (uniqS xs).length ≤ xs.length := by
  refine snoc_ind (P := fun xs => (uniqS xs).length ≤ xs.length) (Nat.le_refl _) (fun xs k ih => ?_) xs
  rw [uniqS_snoc, List.length_append, List.length_singleton]
  split
  · omega
  · rw [List.length_cons]; omega
theorem uniqS_nodup (xs : List Str) : (uniqS xs).Nodup := by
  refine snoc_ind (P := fun xs => (uniqS xs).Nodup) List.nodup_nil (fun xs k ih => ?_) xs
  rw [uniqS_snoc]
  split
  · exact ih
  · rename_i h; exact List.nodup_cons.mpr ⟨h, ih⟩
theorem mem_uniqS {k : Str} (xs : List Str) : k ∈ uniqS xs ↔ k ∈ xs := by
  refine snoc_ind (P := fun xs => k ∈ uniqS xs ↔ k ∈ xs) Iff.rfl (fun xs j ih => ?_) xs
  rw [uniqS_snoc, List.mem_append, List.mem_singleton]
  split
  · rename_i h
    rw [ih]
    constructor
    · exact .inl
    · rintro (m | rfl)
      · exact m
      · exact ih.mp h
  · rw [List.mem_cons, ih]
    exact Or.comm
theorem mid_str {acc : List Str} {d : D} {r : List D} {ps : List Str} (h : acc.map D.str ++ [d] ++ r = ps.map D.str) : ∃ z q, d = .str z ∧ ps = acc ++ [z] ++ q := by
  rw [List.append_assoc] at h
  obtain ⟨a, b, e, e1, e2⟩ := List.map_eq_append_iff.mp h.symm
  obtain ⟨c, q, e3, e4, e5⟩ := List.map_eq_append_iff.mp e2
  have ea : a = acc := (List.map_inj_right fun x y e => by cases e; rfl).mp e1
  obtain ⟨z, rfl, rfl⟩ : ∃ z, c = [z] ∧ D.str z = d := by
    match c, e4 with
    | [z], e4 => exact ⟨z, rfl, (List.cons.inj e4).1⟩
  exact ⟨z, q, rfl, by rw [e, e3, ea, List.append_assoc]⟩
theorem rep_str {K : PySem.W.Frag} {W : Wd} {H : Hp} {v : V} {z : Str} {g : List Addr} (r : RepD K W H v (.str z) g) : v = .str z ∧ g = [] := by
  cases r
  exact ⟨rfl, rfl⟩
/-- sorted({el for .. in it if tt}), texts -/
noncomputable def mSortSetS (it : M E.It) (vs : List Nat) (b : D → Mem → Res Mem) (tt : M Bool) (el : M D) : M D := fun m => (it m).bind fun r =>
  Res.when (vs.all fun v => decide (v < r.2.env.length)) ((lcM r.1.2 vs b tt el r.1.1 [] ⟨undL vs r.2.env, r.2.hs⟩).bind fun o => (Res.of (toStrs o.1)).bind fun ps =>
    Res.when (decide (ps.length < 63)) (.ok (.lst true ((sortS (uniqS ps)).map .str), ⟨restore r.2.env vs o.2.env, o.2.hs⟩)))
section
variable {X : Cx} {CT : Nat → Addr} {pi pin : List Nat} {elt tg iter : Expr} {ifs : List Expr} {scope : Scope} {own : List (Str × Nat)} {pos p0 pos' : Pos} {it : M E.It} {b : D → Mem → Res Mem} {tt : M Bool} {el : M D}
theorem tsgX {vs : List Nat} (hvs : vs.Nodup) (hpi : ∀ i ∈ pi, i ∉ vs) (hpin : ∀ i, i < X.N.length → i ∉ vs → i ∈ pin) :
    ∀ σ H Q, σ.length = X.N.length → tM X.K CT (mSortSetS it vs b tt el) σ H Q → tSg (fun D => SetXO X.prog X.w D []) (rAddX X.prog X.w) (tI X.K CT pi it) (tG X.K CT pin b) (tT X.K CT tt) (tM X.K CT el) vs σ H (fun v H' => rSortedX X.prog X.w [v] H' Q) := fun σ H Q hσ ⟨W, m, fp, d, m', rel, e, k⟩ => by
  obtain ⟨⟨⟨xs, ok⟩, m1⟩, e1, e⟩ := Res.bind_eq e
  obtain ⟨hid, e⟩ := Res.when_eq e
  obtain ⟨⟨res, mE⟩, e2, e⟩ := Res.bind_eq e
  obtain ⟨ps, eps, e⟩ := Res.bind_eq e
  obtain ⟨hok, e⟩ := Res.when_eq e
  cases e
  dsimp only at hid e2 eps hok
  have hlen := of_decide_eq_true hok
  have eps := toStrs_eq (Res.of_eq eps)
  refine ⟨W, m, fp, (xs, ok), m1, rel, e1, fun J W1 H1 fp1 p1 run D hD => ?_⟩
  dsimp only at run
  have lenEnv : m1.env.length = σ.length := by
    obtain ⟨f, g, _, h1, _⟩ := p1.rel.s
    exact h1.length.symm
  have hidR : ∀ v ∈ vs, hidV (m1.env.getD v .und) = .und ∨ ∃ x, σ[v]? = some (some x) ∧ RepD X.K W1 H1 x (hidV (m1.env.getD v .und)) [] := fun v mv => by
    cases he : m1.env[v]? with
    | none => exact .inl (by rw [List.getD_eq_getElem?_getD, he]; rfl)
    | some dv =>
      have eg : m1.env.getD v .und = dv := by rw [List.getD_eq_getElem?_getD, he]; rfl
      rw [eg]
      unfold hidV
      by_cases pd : dv.pure = true
      · rw [if_pos pd]
        have hu : dv ≠ .und := by intro z; subst z; cases pd
        obtain ⟨f, g, _, h1, _⟩ := p1.rel.s
        obtain ⟨x, A, f1, B, _, s, r, _⟩ := h1.at he hu
        obtain rfl := r.pure pd
        exact .inr ⟨x, s, r⟩
      · rw [if_neg pd]
        exact .inl rfl
  have wiped : ∀ {W2 H2 σ2 m2 fp2}, Rel X.K CT W2 H2 σ2 m2 fp2 → L2.wipe σ2 vs = L2.wipe σ vs → ∃ fp3, Rel X.K CT W2 H2 (L2.wipe σ vs) ⟨undL vs m2.env, m2.hs⟩ fp3 ∧ (∀ a ∈ fp3, a ∈ fp2) := fun {W2 H2 σ2 m2 fp2} r ew => by
    obtain ⟨f, g, rfl, h1, h2⟩ := r.s
    obtain ⟨f', rr, pm, k1⟩ := h1.wipe vs
    rw [ew] at k1
    have pm2 : ((f' ++ g) ++ rr).Perm (f ++ g) := by
      rw [List.perm_iff_count]; intro a
      have := pm.count_eq a
      simp only [List.count_append] at this ⊢; omega
    have nd := pm2.nodup_iff.mpr r.nd
    rw [List.nodup_append] at nd
    refine ⟨f' ++ g, ⟨⟨f', g, rfl, k1, h2⟩, nd.1, fun a z => r.own a (pm2.mem_iff.mp (List.mem_append_left _ z)), r.fix⟩, fun a z => pm2.mem_iff.mp (List.mem_append_left _ z)⟩
  have pw : ∀ i ∈ pi, (L2.wipe σ vs)[i]? = σ[i]? := fun i z => wipe_out (hpi i z)
  -- what holds: acc the items so far, L what the set has
  let Iv : Nat → Wd → Hp → Mem → List Addr → List Str → List Str → Prop := fun i W2 H2 m2 fp2 L acc =>
    PostS X.K CT pi W1 H1 σ fp1 m2 (L2.wipe σ vs) W2 H2 fp2 ∧ H2 D = some (SetXO X.prog X.w D L) ∧ L = uniqS acc ∧ D ∉ fp2 ∧ ¬ W2.F D ∧
    (∀ v ∈ vs, v < m2.env.length → m2.env[v]? = some .und) ∧ m2.env.length = m1.env.length ∧ lcM ok vs b tt el (xs.drop i) (acc.map E.D.str) m2 = .ok (res, mE)
  refine ⟨fun i n H2 => n = xs.length - i ∧ ∃ W2 m2 fp2 L acc, Iv i W2 H2 m2 fp2 L acc, ⟨xs.length, rfl, ?_⟩, fun i n H2 ⟨hn, W2, m2, fp2, L, acc, p2, hd, hL, dfp, dF, un, ln, e3⟩ => ?_⟩
  · obtain ⟨fp3, r3, s3⟩ := wiped p1.rel rfl
    have x := ext_upd (W := W1) (o := SetXO X.prog X.w D []) hD
    refine ⟨W1, ⟨undL vs m1.env, m1.hs⟩, fp3, [], [], ⟨r3.ext x off_nil (fun a _ z => by cases z) rfl (fix_upd r3.fix), x.sub (fun a z => by cases z), fun a z => .inl (s3 a z), pw, by rw [L2.wipe_length]⟩, upd_same, rfl, (fun z => (r3.own D z).2 hD), (fun z => p1.rel.fix D z hD), fun v mv hl => undL_get _ _ (by rw [undL_length] at hl; exact hl) vs mv, undL_length _ _, e2⟩
  have okrun : ok m2 → _ := fun o => run m2 (L2.wipe σ vs) W2 H2 fp2 p2 o i
  cases hx : xs[i]? with
  | none =>
    have hl : xs.length ≤ i := by simpa using hx
    rw [List.drop_of_length_le hl] at e3
    obtain ⟨o, e3⟩ := Res.ifP_eq e3
    cases e3
    refine .inl ⟨(okrun o).2 hl, ?_⟩
    have ep : acc = ps := by
      have : acc.map E.D.str = ps.map E.D.str := eps
      exact (List.map_inj_right fun x y e => by cases e; rfl).mp this
    subst ep
    have hle := uniqS_len acc
    refine ⟨D, L, rfl, hd, by rw [hL]; omega, by rw [hL]; exact uniqS_nodup acc, fun L' p pm srt hp => ?_⟩
    · have hs : L' = sortS (uniqS acc) := up_unique (pm.trans (by rw [hL]; exact (sortS_perm (uniqS acc)).symm)) (sortedS_up srt) (sortS_up _)
      subst hs
      have rl := repSts (K := X.K) (W := W2) (H := H2) (sortS (uniqS acc))
      obtain ⟨f, g, rfl, h1, h2⟩ := p2.rel.s
      have hidE : ∀ v ∈ vs, hidV (m1.env.getD v .und) = .und ∨ ∃ x, σ[v]? = some (some x) ∧ RepD X.K W2 H2 x (hidV (m1.env.getD v .und)) [] := fun v mv => (hidR v mv).imp id fun ⟨x, s, r⟩ => ⟨x, s, r.ext p2.ext p1.rel.off fun a z => by cases z⟩
      have hback : RepS X.K W2 H2 σ (restore m1.env vs mE.env) f := by
        have hin : ∀ v ∈ vs, v < mE.env.length := fun v mv => by
          rw [ln]
          exact of_decide_eq_true ((List.all_eq_true.mp hid) v mv)
        exact h1.unwipe hvs (fun v mv => un v mv (hin v mv)) hidE
      have rel2 : Rel X.K CT W2 H2 σ ⟨restore m1.env vs mE.env, mE.hs⟩ (f ++ g) := ⟨⟨f, g, rfl, hback, h2⟩, p2.rel.nd, p2.rel.own, p2.rel.fix⟩
      refine k _ W2 _ _ [p] ((New.lst p2.rel.fix hp rl).post rel2 (p1.ext.trans p2.ext p1.sub) fun a z => ?_)
      exact (p2.sub a z).elim (p1.sub a) fun y => .inr (p1.ext.there a y)
  | some x =>
    obtain ⟨hl, hx'⟩ := List.getElem?_eq_some_iff.mp hx
    rw [List.drop_eq_getElem_cons hl, hx'] at e3
    obtain ⟨o, e3⟩ := Res.ifP_eq e3
    obtain ⟨m3, e4, e3⟩ := Res.bind_eq e3
    obtain ⟨⟨c, m4⟩, e5, e3⟩ := Res.bind_eq e3
    obtain ⟨g, y⟩ := (okrun o).1 x hx
    refine .inr ⟨g, fun H' => ∃ W2 m2 fp2 L acc, Iv (i + 1) W2 H' m2 fp2 L acc, fun H' q => ⟨n - 1, by omega, by omega, q⟩, fun v H3 hy => ?_⟩
    obtain ⟨W3, rv, x3, i3, fx3⟩ := y v H3 hy
    have r3 : Rel X.K CT W3 H3 (L2.wipe σ vs) m2 fp2 := p2.rel.ext x3 off_nil (fun a _ z => by cases z) i3 fx3
    refine ⟨W3, m2, fp2, x, [], m3, r3, rv, by rw [List.append_nil]; exact p2.rel.nd, Own.nil, e4, fun σ4 W4 H4 fp4 p4 => ?_⟩
    rw [List.append_nil] at p4
    have ew : L2.wipe σ4 vs = L2.wipe σ vs := by
      have := wipe_eq (σ := L2.wipe σ vs) (σ2 := σ4) p4.len (vs := vs) fun j hj => by
        by_cases hjl : j < X.N.length
        · exact p4.pin j (hpin j hjl hj)
        · have l1 : (L2.wipe σ vs).length = X.N.length := by rw [L2.wipe_length]; exact hσ
          rw [List.getElem?_eq_none (by rw [p4.len, l1]; omega), List.getElem?_eq_none (by rw [l1]; omega)]
      rw [this]
      exact wipe_eq (by rw [L2.wipe_length]) fun j hj => wipe_out hj
    refine ⟨ew, W4, m3, fp4, c, m4, p4.rel, e5, fun W5 H5 fp5 p5 => ?_⟩
    have x25 : Ext W2 H2 W5 H5 fp2 := ((x3.sub (fq := fp2) fun a z => by cases z).trans p4.ext (fun a z => .inl z)).trans p5.ext fun a z => (p4.sub a z).imp id (x3.there a)
    have s25 : ∀ a ∈ fp5, a ∈ fp2 ∨ H2 a = none := fun a z => by
      rcases p5.sub a z with z | z
      · exact (p4.sub a z).imp id (x3.there a)
      · exact .inr (x3.there a (p4.ext.there a z))
    have off2 := p2.rel.off
    have hd5 : H5 D = some (SetXO X.prog X.w D L) := x25.keep D _ hd dfp
    have d5 : D ∉ fp5 := fun z => by
      rcases s25 D z with z | z
      · exact dfp z
      · rw [hd] at z; cases z
    have dF5 : ¬ W5.F D := fun z => by
      rcases x25.fnew D z with z | z | z
      · exact dF z
      · exact dfp z
      · rw [hd] at z; cases z
    have len4 : ∀ {σ2 W2 H2 m2 fp2}, Rel X.K CT W2 H2 σ2 m2 fp2 → σ2.length = σ.length → m2.env.length = m1.env.length := fun r el => by
      obtain ⟨f, g, _, h1, _⟩ := r.s
      rw [← h1.length, el, lenEnv]
    have lenσ4 : σ4.length = σ.length := by rw [p4.len, L2.wipe_length]
    cases c with
    | false =>
      refine iteF ?_
      rw [if_neg Bool.false_ne_true] at e3
      obtain ⟨fp6, r6, s6⟩ := wiped p5.rel ew
      refine ⟨W5, ⟨undL vs m4.env, m4.hs⟩, fp6, L, acc, ⟨r6, p2.ext.trans x25 p2.sub, subT p2.sub (fun a z => s25 a (s6 a z)) p2.ext.there, pw, by rw [L2.wipe_length]⟩, hd5, hL, (fun z => d5 (s6 D z)), dF5, fun v mv hl => undL_get _ _ (by rw [undL_length] at hl; exact hl) vs mv, ?_, e3⟩
      rw [undL_length]
      exact len4 p5.rel lenσ4
    | true =>
      refine iteT ?_
      rw [if_pos rfl] at e3
      obtain ⟨⟨dr, m6⟩, e6, e3⟩ := Res.bind_eq e3
      obtain ⟨hsz, e3⟩ := Res.when_eq e3
      -- the item is a text
      obtain ⟨r, hr⟩ := lcM_pre e3
      obtain ⟨z, q2, rfl, hps⟩ := mid_str (hr.symm.trans eps)
      refine ⟨W5, m4, fp5, E.D.str z, m6, p5.rel, e6, fun y6 W6 H6 fp6 fd6 p6 => ?_⟩
      obtain ⟨rfl, rfl⟩ := rep_str p6.rep
      have hd6 : H6 D = some (SetXO X.prog X.w D L) := p6.ext.keep D _ hd5 d5
      have hlL : L.length + 1 < scanBound := by
        have h1 := uniqS_len acc
        have h2 := congrArg List.length hps
        rw [List.length_append, List.length_append, List.length_singleton] at h2
        rw [hL]
        unfold scanBound
        omega
      have nd6 : D ∉ fp6 := fun w => by
        rcases p6.sub D (List.mem_append_left _ w) with w | w
        · exact d5 w
        · rw [hd5] at w; cases w
      have dF6 : ¬ W6.F D := fun w => by
        rcases p6.ext.fnew D w with w | w | w
        · exact dF5 w
        · exact d5 w
        · rw [hd5] at w; cases w
      refine ⟨D, z, L, rfl, rfl, hd6, hlL, ?_⟩
      have eL : (if z ∈ L then L else z :: L) = uniqS (acc ++ [z]) := by rw [uniqS_snoc, hL]
      rw [eL]
      generalize hL' : uniqS (acc ++ [z]) = L'
      have xD : Ext W6 H6 W6 (upd H6 D (SetXO X.prog X.w D L')) [D] := ⟨fun _ h => h, fun _ _ h => h, fun a o h n => by rw [upd_ne (fun z => n (by simp [z]))]; exact h, fun _ h => .inl h, fun a h => by
        by_cases e : a = D
        · subst e; rw [upd_same] at h; cases h
        · rw [upd_ne e] at h; exact h⟩
      have offD : Off W6 [D] := fun a w => by
        rw [List.mem_singleton.mp w]
        exact dF6
      have fixD : Fix W6 (upd H6 D (SetXO X.prog X.w D L')) := fix_upd p6.rel.fix
      obtain ⟨fp7, r7, s7⟩ := wiped p6.rel ew
      have r8 := r7.ext xD offD (fun a w y => nd6 (by rw [List.mem_singleton.mp y] at w; exact s7 D w)) rfl fixD
      have x26 : Ext W2 H2 W6 H6 fp2 := x25.trans p6.ext s25
      have x28 : Ext W1 H1 W6 (upd H6 D (SetXO X.prog X.w D L')) fp1 := ⟨fun a h => p2.ext.fm a h |> x26.fm a, fun n a h => x26.im n a (p2.ext.im n a h), fun a o h n => by
          have e : a ≠ D := fun e => by subst e; rw [hD] at h; cases h
          rw [upd_ne e]
          exact (p2.ext.trans x26 p2.sub).keep a o h n, fun a h => (p2.ext.trans x26 p2.sub).fnew a h, fun a h => (p2.ext.trans x26 p2.sub).there a (xD.there a h)⟩
      have s26 : ∀ a ∈ fp6, a ∈ fp1 ∨ H1 a = none := fun a w => by
        rcases p6.sub a (List.mem_append_left _ w) with w | w
        · rcases s25 a w with w | w
          · exact p2.sub a w
          · exact .inr (p2.ext.there a w)
        · exact .inr (p2.ext.there a (x25.there a w))
      have eacc : (acc ++ [z]).map E.D.str = acc.map E.D.str ++ [E.D.str z] := by rw [List.map_append]; rfl
      rw [← eacc] at e3
      refine ⟨W6, ⟨undL vs m6.env, m6.hs⟩, fp7, L', acc ++ [z], ⟨r8, x28, fun a w => s26 a (s7 a w), pw, by rw [L2.wipe_length]⟩, upd_same, hL'.symm, (fun w => nd6 (s7 D w)), dF6, fun v mv hl => undL_get _ _ (by rw [undL_length] at hl; exact hl) vs mv, ?_, e3⟩
      rw [undL_length]
      exact len4 p6.rel lenσ4
theorem me_sortSetS (hc : X.calm = true) (hN : X.N.Nodup) (hsg : Gl X "sorted") (hsm : X.mg "sorted" = none) (hi : MI X CT pi tg iter it) (ok : BlkOk X.N X.env.scope scope own)
    (hg : ∀ (s : Shared) (H : Hp) (C : Addr) (cl : List (Str × Addr)) (fp : List Addr), MG (X.blk s H scope (compEnvC scope cl C X.env) fp) CT pin tg b) (ht : ∀ (s : Shared) (H : Hp) (C : Addr) (cl : List (Str × Addr)) (fp : List Addr), MTs (X.blk s H scope (compEnvC scope cl C X.env) fp) CT ifs tt)
    (he : ∀ (s : Shared) (H : Hp) (C : Addr) (cl : List (Str × Addr)) (fp : List Addr), ME (X.blk s H scope (compEnvC scope cl C X.env) fp) CT elt el)
    (hvs : (own.map (·.2)).Nodup) (hpi : ∀ i ∈ pi, i ∉ own.map (·.2)) (hpin : ∀ i, i < X.N.length → i ∉ own.map (·.2) → i ∈ pin) (hs : ∀ x, foldedSetIterable iter X.env x = pure x := by intro _; rfl)
    (na : starEach [.SetComp elt [⟨tg, iter, ifs, 0⟩] scope pos] X.env = (false, eval (.SetComp elt [⟨tg, iter, ifs, 0⟩] scope pos) X.env) :: starEach [] X.env := by rfl) :
    ME X CT (.Call (.Name "sorted" p0) [.SetComp elt [⟨tg, iter, ifs, 0⟩] scope pos] [] pos') (mSortSetS it (own.map (·.2)) b tt el) :=
  pe_weakN (pe_callB (cr_sortedX hc) hsg hsm (by decide +kernel) (pa_cons (pe_sg (O0 := fun D => SetXO X.prog X.w D []) (r := rAddX X.prog X.w) (g := tG X.K CT pin b) (tt := tT X.K CT tt) (te := tM X.K CT el) hc hN hi ok (fun H h => newX H h) hg ht he (fun s H C cl fp => mt_addX (X := X.blk s H scope (compEnvC scope cl C X.env) fp))  hs) pa_nil na)) fun σ H Q hσ q => tsgX hvs hpi hpin σ H Q hσ q
end
end E
/-! EngP: the law's end -/
namespace E
open PySem L2 PySem.Spec PyProof.Rows
def fuel : Nat := 1000000000
def spLaw (K : PySem.W.Frag) : Sp := fun vs H Q _ => ∃ (a : Addr) (ns : List Int), vs = [.ref a] ∧ SqL K H a (ns.map V.int) ∧ ns.length ≤ 63 ∧ ∀ H', Q (.bl true) H'
theorem sp_law {K : PySem.W.Frag} {CT : Nat → Addr} {m : CallM} (h : ∀ ns : List Int, ns.length ≤ 63 → ∃ ds hs, m [.lst false (ns.map .int)] [] = .ok (.bl true, ds, hs)) : ∀ vs H Q wx, spLaw K vs H Q wx → spM K CT 1 m vs H Q wx := by
  rintro vs H Q wx ⟨a, ns, rfl, s, hl, q⟩
  obtain ⟨ds, hs, e⟩ := h ns hl
  have hF : FzL K ⟨fun x => x = a ∧ H a ≠ none, []⟩ H a (ns.map V.int) := by
    rcases s with s | s
    · refine .inl ⟨⟨rfl, ?_⟩, s⟩
      rcases s with s | ⟨o, s⟩ <;> (rw [s]; exact fun z => by cases z)
    · exact .inr s
  refine ⟨⟨fun x => x = a ∧ H a ≠ none, []⟩, _, [], [], [], .bl true, ds, hs, rfl, RepL.cons (f := []) (g := []) (.lstF hF (repIs ns)) .nil, .nil, List.nodup_nil, Own.nil, fun x hx => by rw [hx.1]; exact hx.2, e, fun v W' H' fd' fh' fr _ _ r _ _ _ _ _ => ?_⟩
  cases r
  exact q H'
theorem law_end {P : Program} {w : World} {K : PySem.W.Frag} {mg : Str → Option Value} {CT : Nat → Addr} {m : CallM} {k : Nat} {fa : Addr} {x : Str} (h : ∀ ns : List Int, ns.length ≤ 63 → ∃ ds hs, m [.lst false (ns.map .int)] [] = .ok (.bl true, ds, hs))
    (r : ∃ fd : FuncData, (∀ (s : Shared) (v : Value), BindsTo s fd ⟨[v], []⟩ [(x, v)]) ∧ ∀ base : Heap, K.In base → base.Ns mainGlobals mg → FnOk P w K mg base CX0 k fa fd [x] (spM K CT 1 m)) :
    ∃ fd : FuncData, (∀ (s : Shared) (v : Value), BindsTo s fd ⟨[v], []⟩ [(x, v)]) ∧ ∀ base : Heap, K.In base → base.Ns mainGlobals mg → FnOk P w K mg base CX0 k fa fd [x] (spLaw K) := by
  obtain ⟨fd, b, f⟩ := r
  exact ⟨fd, b, fun base h1 h2 => (f base h1 h2).imp (sp_law h)⟩
end E
/-! EngQ: the combinators at a state that is written out (printed by mkap.py) -/
namespace E
open PySem L2
def getV : Option D → Res D
  | some .und => .fail
  | some d => .ok d
  | none => .fail
@[simp] theorem getV_none : getV none = .fail := rfl
@[simp] theorem getV_und : getV (some .und) = .fail := rfl
@[simp] theorem getV_pure {a : D} (h : a.pure = true) : getV (some a) = .ok a := by cases a <;> first | rfl | (simp at h)
@[simp] theorem getV_non : getV (some (.non )) = .ok (.non ) := rfl
@[simp] theorem getV_bl (b : Bool) : getV (some (.bl b)) = .ok (.bl b) := rfl
@[simp] theorem getV_int (b : Int) : getV (some (.int b)) = .ok (.int b) := rfl
@[simp] theorem getV_str (b : Str) : getV (some (.str b)) = .ok (.str b) := rfl
@[simp] theorem getV_loc (b : Nat) : getV (some (.loc b)) = .ok (.loc b) := rfl
@[simp] theorem getV_ty (b : String) : getV (some (.ty b)) = .ok (.ty b) := rfl
@[simp] theorem getV_tup (b : List D) : getV (some (.tup b)) = .ok (.tup b) := rfl
@[simp] theorem getV_lst (o : Bool) (b : List D) : getV (some (.lst o b)) = .ok (.lst o b) := rfl
@[simp] theorem getV_dic (o t : Bool) (b : List (D × D)) : getV (some (.dic o t b)) = .ok (.dic o t b) := rfl
@[simp] theorem defd_pure {a : D} (h : a.pure = true) : a.defd = true := by cases a <;> first | rfl | (simp at h)
@[simp] theorem defd_und : D.und.defd = false := rfl
@[simp] theorem defd_non : (.non  : D).defd = true := rfl
@[simp] theorem defd_bl (b : Bool) : (.bl b : D).defd = true := rfl
@[simp] theorem defd_int (b : Int) : (.int b : D).defd = true := rfl
@[simp] theorem defd_str (b : Str) : (.str b : D).defd = true := rfl
@[simp] theorem defd_loc (b : Nat) : (.loc b : D).defd = true := rfl
@[simp] theorem defd_ty (b : String) : (.ty b : D).defd = true := rfl
@[simp] theorem defd_tup (b : List D) : (.tup b : D).defd = true := rfl
@[simp] theorem defd_lst (o : Bool) (b : List D) : (.lst o b : D).defd = true := rfl
@[simp] theorem defd_dic (o t : Bool) (b : List (D × D)) : (.dic o t b : D).defd = true := rfl
def grabV (i : Nat) (as : List Arg) (env : List D) : Option D → Res (List D × List (Option Nat) × List D)
  | some .und => .fail
  | some d => if d.pure = true then (grab as env).bind fun r => .ok (d :: r.1, none :: r.2.1, r.2.2)
    else (grab as (env.set i .und)).bind fun r => .ok (d :: r.1, some i :: r.2.1, r.2.2)
  | none => .fail
@[simp] theorem grab_nil (env : List D) : grab [] env = .ok ([], [], env) := by unfold grab; rfl
@[simp] theorem grab_val (d : D) (as : List Arg) (env : List D) : grab (.val d :: as) env = ((grab as env).bind fun r => .ok (d :: r.1, none :: r.2.1, r.2.2)) := by rw [grab]
@[simp] theorem grab_bor (d : D) (as : List Arg) (env : List D) : grab (.bor d :: as) env = Res.when d.pure ((grab as env).bind fun r => .ok (d :: r.1, none :: r.2.1, r.2.2)) := by rw [grab]
@[simp] theorem grab_nam (i : Nat) (as : List Arg) (env : List D) : grab (.nam i :: as) env = grabV i as env env[i]? := by
  rw [grab]
  generalize env[i]? = o
  rcases o with _ | d
  · rfl
  · cases d <;> rfl
@[simp] theorem grabV_none (i : Nat) (as : List Arg) (env : List D) : grabV i as env none = .fail := rfl
@[simp] theorem grabV_und (i : Nat) (as : List Arg) (env : List D) : grabV i as env (some .und) = .fail := rfl
@[simp] theorem grabV_pure (i : Nat) (as : List Arg) (env : List D) {a : D} (h : a.pure = true) : grabV i as env (some a) = ((grab as env).bind fun r => .ok (a :: r.1, none :: r.2.1, r.2.2)) := by cases a <;> simp_all [grabV]
@[simp] theorem grabV_non (i : Nat) (as : List Arg) (env : List D) : grabV i as env (some (.non )) = ((grab as env).bind fun r => .ok ((.non ) :: r.1, none :: r.2.1, r.2.2)) := grabV_pure i as env rfl
@[simp] theorem grabV_bl (i : Nat) (as : List Arg) (env : List D) (b : Bool) : grabV i as env (some (.bl b)) = ((grab as env).bind fun r => .ok ((.bl b) :: r.1, none :: r.2.1, r.2.2)) := grabV_pure i as env rfl
@[simp] theorem grabV_int (i : Nat) (as : List Arg) (env : List D) (b : Int) : grabV i as env (some (.int b)) = ((grab as env).bind fun r => .ok ((.int b) :: r.1, none :: r.2.1, r.2.2)) := grabV_pure i as env rfl
@[simp] theorem grabV_str (i : Nat) (as : List Arg) (env : List D) (b : Str) : grabV i as env (some (.str b)) = ((grab as env).bind fun r => .ok ((.str b) :: r.1, none :: r.2.1, r.2.2)) := grabV_pure i as env rfl
@[simp] theorem grabV_loc (i : Nat) (as : List Arg) (env : List D) (b : Nat) : grabV i as env (some (.loc b)) = ((grab as env).bind fun r => .ok ((.loc b) :: r.1, none :: r.2.1, r.2.2)) := grabV_pure i as env rfl
@[simp] theorem grabV_ty (i : Nat) (as : List Arg) (env : List D) (b : String) : grabV i as env (some (.ty b)) = ((grab as env).bind fun r => .ok ((.ty b) :: r.1, none :: r.2.1, r.2.2)) := grabV_pure i as env rfl
@[simp] theorem grabV_tup (i : Nat) (as : List Arg) (env : List D) (b : List D) : grabV i as env (some (.tup b)) = if (.tup b : D).pure = true then (grab as env).bind fun r => .ok ((.tup b : D) :: r.1, none :: r.2.1, r.2.2) else (grab as (env.set i .und)).bind fun r => .ok ((.tup b : D) :: r.1, some i :: r.2.1, r.2.2) := rfl
@[simp] theorem grabV_lst (i : Nat) (as : List Arg) (env : List D) (o : Bool) (b : List D) : grabV i as env (some (.lst o b)) = if (.lst o b : D).pure = true then (grab as env).bind fun r => .ok ((.lst o b : D) :: r.1, none :: r.2.1, r.2.2) else (grab as (env.set i .und)).bind fun r => .ok ((.lst o b : D) :: r.1, some i :: r.2.1, r.2.2) := rfl
@[simp] theorem grabV_dic (i : Nat) (as : List Arg) (env : List D) (o t : Bool) (b : List (D × D)) : grabV i as env (some (.dic o t b)) = if (.dic o t b : D).pure = true then (grab as env).bind fun r => .ok ((.dic o t b : D) :: r.1, none :: r.2.1, r.2.2) else (grab as (env.set i .und)).bind fun r => .ok ((.dic o t b : D) :: r.1, some i :: r.2.1, r.2.2) := rfl

@[simp] theorem mqC_ap (d : D) (env : List D) (hs : List Ob) : mqC d ⟨env, hs⟩ = (fun _ : Mem => .ok d) ⟨env, hs⟩ := rfl
@[simp] theorem mqVar_ap (i : Nat) (env : List D) (hs : List Ob) : mqVar i ⟨env, hs⟩ = getV env[i]? := rfl
@[simp] theorem mP_ap (q : MQ D) (env : List D) (hs : List Ob) : mP q ⟨env, hs⟩ = (fun m : Mem => (q m).bind fun d => Res.when d.pure (.ok (d, m))) ⟨env, hs⟩ := rfl
@[simp] theorem mVar_ap (i : Nat) (env : List D) (hs : List Ob) : mVar i ⟨env, hs⟩ = (fun m : Mem => (mqVar i m).bind fun d => if d.pure = true then .ok (d, m) else .ok (d.fz, { m with env := m.env.set i d.fz })) ⟨env, hs⟩ := rfl
@[simp] theorem mB_ap (q : MQ D) (env : List D) (hs : List Ob) : mB q ⟨env, hs⟩ = (fun m : Mem => (q m).bind fun d => .ok (d, m)) ⟨env, hs⟩ := rfl
@[simp] theorem mOp2_ap (g : D → D → Res D) (ma mb : M D) (env : List D) (hs : List Ob) : mOp2 g ma mb ⟨env, hs⟩ = (fun m : Mem => (ma m).bind fun r1 => (mb r1.2).bind fun r2 => (g r1.1 r2.1).bind fun d => .ok (d, r2.2)) ⟨env, hs⟩ := rfl
@[simp] theorem mOpN_ap (g : D → D → Res D) (i : Nat) (mb : M D) (env : List D) (hs : List Ob) : mOpN g i mb ⟨env, hs⟩ = (fun m : Mem => (mqVar i m).bind fun _ => (mb m).bind fun r2 => (mqVar i r2.2).bind fun d1 => (g d1 r2.1).bind fun d => .ok (d, r2.2)) ⟨env, hs⟩ := rfl
@[simp] theorem mqOp2_ap (g : D → D → Res D) (qa qb : MQ D) (env : List D) (hs : List Ob) : mqOp2 g qa qb ⟨env, hs⟩ = (fun m : Mem => (qa m).bind fun d1 => (qb m).bind fun d2 => (g d1 d2).bind fun d => Res.when d.pure (.ok d)) ⟨env, hs⟩ := rfl
@[simp] theorem mOpQ_ap (g : D → D → Res D) (qa qb : MQ D) (env : List D) (hs : List Ob) : mOpQ g qa qb ⟨env, hs⟩ = (fun m : Mem => (qa m).bind fun d1 => (qb m).bind fun d2 => (g d1 d2).bind fun d => .ok (d, m)) ⟨env, hs⟩ := rfl
@[simp] theorem mtB_ap (e : M D) (env : List D) (hs : List Ob) : mtB e ⟨env, hs⟩ = (fun m : Mem => (e m).bind fun r => r.1.isB.bind fun b => .ok (b, r.2)) ⟨env, hs⟩ := rfl
@[simp] theorem mtV_ap (e : M D) (env : List D) (hs : List Ob) : mtV e ⟨env, hs⟩ = (fun m : Mem => (e m).bind fun r => r.1.tru.bind fun b => .ok (b, r.2)) ⟨env, hs⟩ := rfl
@[simp] theorem mtAnd_ap (a b : M Bool) (env : List D) (hs : List Ob) : mtAnd a b ⟨env, hs⟩ = (fun m : Mem => (a m).bind fun r => if r.1 = true then b r.2 else .ok (false, r.2)) ⟨env, hs⟩ := rfl
@[simp] theorem mtOr_ap (a b : M Bool) (env : List D) (hs : List Ob) : mtOr a b ⟨env, hs⟩ = (fun m : Mem => (a m).bind fun r => if r.1 = true then .ok (true, r.2) else b r.2) ⟨env, hs⟩ := rfl
@[simp] theorem mtNot_ap (a : M Bool) (env : List D) (hs : List Ob) : mtNot a ⟨env, hs⟩ = (fun m : Mem => (a m).bind fun r => .ok (!r.1, r.2)) ⟨env, hs⟩ := rfl
@[simp] theorem mAnd_ap (a b : M D) (env : List D) (hs : List Ob) : mAnd a b ⟨env, hs⟩ = (fun m : Mem => (a m).bind fun r => r.1.isB.bind fun c => if c = true then b r.2 else .ok (.bl false, r.2)) ⟨env, hs⟩ := rfl
@[simp] theorem mOr_ap (a b : M D) (env : List D) (hs : List Ob) : mOr a b ⟨env, hs⟩ = (fun m : Mem => (a m).bind fun r => r.1.isB.bind fun c => if c = true then .ok (.bl true, r.2) else b r.2) ⟨env, hs⟩ := rfl
@[simp] theorem mNot_ap (a : M D) (env : List D) (hs : List Ob) : mNot a ⟨env, hs⟩ = (fun m : Mem => (a m).bind fun r => r.1.isB.bind fun c => .ok (.bl (!c), r.2)) ⟨env, hs⟩ := rfl
@[simp] theorem mIf_ap (t : M Bool) (a b : M D) (env : List D) (hs : List Ob) : mIf t a b ⟨env, hs⟩ = (fun m : Mem => (t m).bind fun r => if r.1 = true then a r.2 else b r.2) ⟨env, hs⟩ := rfl
@[simp] theorem mOp1_ap (g : D → Res D) (ma : M D) (env : List D) (hs : List Ob) : mOp1 g ma ⟨env, hs⟩ = (fun m : Mem => (ma m).bind fun r => (g r.1).bind fun d => .ok (d, r.2)) ⟨env, hs⟩ := rfl
@[simp] theorem mqOp1_ap (g : D → Res D) (qa : MQ D) (env : List D) (hs : List Ob) : mqOp1 g qa ⟨env, hs⟩ = (fun m : Mem => (qa m).bind fun d1 => (g d1).bind fun d => Res.when d.pure (.ok d)) ⟨env, hs⟩ := rfl
@[simp] theorem mqIx_ap (qa qb : MQ D) (env : List D) (hs : List Ob) : mqIx qa qb ⟨env, hs⟩ = (fun m : Mem => (qa m).bind fun d1 => (qb m).bind fun d2 => dIx d1 d2) ⟨env, hs⟩ := rfl
@[simp] theorem mIx_ap (ma mb : M D) (env : List D) (hs : List Ob) : mIx ma mb ⟨env, hs⟩ = (fun m : Mem => (ma m).bind fun r1 => (mb r1.2).bind fun r2 => (dIx r1.1 r2.1).bind fun d => Res.when d.pure (.ok (d, r2.2))) ⟨env, hs⟩ := rfl
@[simp] theorem mIxN_ap (i : Nat) (mb : M D) (env : List D) (hs : List Ob) : mIxN i mb ⟨env, hs⟩ = (fun m : Mem => (mqVar i m).bind fun _ => (mb m).bind fun r2 => (mqVar i r2.2).bind fun d1 => (dIx d1 r2.1).bind fun d => Res.when d.pure (.ok (d, r2.2))) ⟨env, hs⟩ := rfl
@[simp] theorem mqNone_ap (env : List D) (hs : List Ob) : mqNone  ⟨env, hs⟩ = (fun _ : Mem => .ok none) ⟨env, hs⟩ := rfl
@[simp] theorem mqSome_ap (q : MQ D) (env : List D) (hs : List Ob) : mqSome q ⟨env, hs⟩ = (fun m : Mem => (q m).bind fun d => match d with
  | .int i => .ok (some i)
  | _ => .fail) ⟨env, hs⟩ := rfl
@[simp] theorem mSl_ap (ma : M D) (lo hi : MQ (Option Int)) (env : List D) (hs : List Ob) : mSl ma lo hi ⟨env, hs⟩ = (fun m : Mem => (ma m).bind fun r => (lo r.2).bind fun l => (hi r.2).bind fun h => (dSl r.1 l h).bind fun d => .ok (d, r.2)) ⟨env, hs⟩ := rfl
@[simp] theorem maNil_ap (env : List D) (hs : List Ob) : maNil  ⟨env, hs⟩ = (fun m : Mem => .ok ([], m)) ⟨env, hs⟩ := rfl
@[simp] theorem maV_ap (a : M D) (r : M (List Arg)) (env : List D) (hs : List Ob) : maV a r ⟨env, hs⟩ = (fun m : Mem => (a m).bind fun x => (r x.2).bind fun y => .ok (.val x.1 :: y.1, y.2)) ⟨env, hs⟩ := rfl
@[simp] theorem maN_ap (i : Nat) (r : M (List Arg)) (env : List D) (hs : List Ob) : maN i r ⟨env, hs⟩ = (fun m : Mem => (mqVar i m).bind fun _ => (r m).bind fun y => .ok (.nam i :: y.1, y.2)) ⟨env, hs⟩ := rfl
@[simp] theorem maQ_ap (q : MQ (List D)) (env : List D) (hs : List Ob) : maQ q ⟨env, hs⟩ = (fun m : Mem => (q m).bind fun ds => .ok (ds.map .bor, m)) ⟨env, hs⟩ := rfl
@[simp] theorem mqNil_ap (env : List D) (hs : List Ob) : mqNil  ⟨env, hs⟩ = (fun _ : Mem => .ok []) ⟨env, hs⟩ := rfl
@[simp] theorem mqCons_ap (a : MQ D) (r : MQ (List D)) (env : List D) (hs : List Ob) : mqCons a r ⟨env, hs⟩ = (fun m : Mem => (a m).bind fun x => (r m).bind fun y => .ok (x :: y)) ⟨env, hs⟩ := rfl
@[simp] theorem mTup_ap (a : M (List Arg)) (env : List D) (hs : List Ob) : mTup a ⟨env, hs⟩ = (fun m : Mem => (a m).bind fun r => (vals r.1).bind fun ds => Res.when (decide (ds.length ≤ sizeLine)) (.ok (.tup ds, r.2))) ⟨env, hs⟩ := rfl
@[simp] theorem mLst_ap (a : M (List Arg)) (env : List D) (hs : List Ob) : mLst a ⟨env, hs⟩ = (fun m : Mem => (a m).bind fun r => (vals r.1).bind fun ds => Res.when (decide (ds.length ≤ sizeLine)) (.ok (.lst true ds, r.2))) ⟨env, hs⟩ := rfl
@[simp] theorem mqTup_ap (a : MQ (List D)) (env : List D) (hs : List Ob) : mqTup a ⟨env, hs⟩ = (fun m : Mem => (a m).bind fun ds => Res.when (pureL ds && decide (ds.length ≤ sizeLine)) (.ok (.tup ds))) ⟨env, hs⟩ := rfl
@[simp] theorem mCB_ap (g : List D → Res D) (a : M (List Arg)) (env : List D) (hs : List Ob) : mCB g a ⟨env, hs⟩ = (fun m : Mem => (a m).bind fun r => (conts r.2.env r.1).bind fun ds => (g ds).bind fun d => .ok (d, r.2)) ⟨env, hs⟩ := rfl
@[simp] theorem mqCB_ap (g : List D → Res D) (a : MQ (List D)) (env : List D) (hs : List Ob) : mqCB g a ⟨env, hs⟩ = (fun m : Mem => (a m).bind fun ds => (g ds).bind fun d => Res.when d.pure (.ok d)) ⟨env, hs⟩ := rfl
@[simp] theorem mCall_ap (f : CallM) (dd : List D) (a : M (List Arg)) (env : List D) (hs : List Ob) : mCall f dd a ⟨env, hs⟩ = (fun m : Mem => (a m).bind fun r => (grab r.1 r.2.env).bind fun q => (f (q.1 ++ dd) r.2.hs).bind fun o => .ok (o.1, ⟨giveBack q.2.1 o.2.1 q.2.2, o.2.2⟩)) ⟨env, hs⟩ := rfl
@[simp] theorem sPass_ap (env : List D) (hs : List Ob) : sPass  ⟨env, hs⟩ = (fun m : Mem => .ok (.nx, m)) ⟨env, hs⟩ := rfl
@[simp] theorem sBk_ap (env : List D) (hs : List Ob) : sBk  ⟨env, hs⟩ = (fun m : Mem => .ok (.bk, m)) ⟨env, hs⟩ := rfl
@[simp] theorem sCt_ap (env : List D) (hs : List Ob) : sCt  ⟨env, hs⟩ = (fun m : Mem => .ok (.ct, m)) ⟨env, hs⟩ := rfl
@[simp] theorem sNever_ap (env : List D) (hs : List Ob) : sNever  ⟨env, hs⟩ = (fun _ : Mem => .fail) ⟨env, hs⟩ := rfl
@[simp] theorem sSeq_ap (a b : MS) (env : List D) (hs : List Ob) : sSeq a b ⟨env, hs⟩ = (fun m : Mem => (a m).bind fun r => match r.1 with
  | .nx => b r.2
  | .bk => .ok (.bk, r.2)
  | .ct => .ok (.ct, r.2)
  | .rt d => .ok (.rt d, r.2)) ⟨env, hs⟩ := rfl
@[simp] theorem sEx_ap (e : M D) (env : List D) (hs : List Ob) : sEx e ⟨env, hs⟩ = (fun m : Mem => (e m).bind fun r => .ok (.nx, r.2)) ⟨env, hs⟩ := rfl
@[simp] theorem sRt_ap (e : M D) (env : List D) (hs : List Ob) : sRt e ⟨env, hs⟩ = (fun m : Mem => (e m).bind fun r => .ok (.rt r.1, r.2)) ⟨env, hs⟩ := rfl
@[simp] theorem sRtN_ap (env : List D) (hs : List Ob) : sRtN  ⟨env, hs⟩ = (fun m : Mem => .ok (.rt .non, m)) ⟨env, hs⟩ := rfl
@[simp] theorem sIf_ap (t : M Bool) (a b : MS) (env : List D) (hs : List Ob) : sIf t a b ⟨env, hs⟩ = (fun m : Mem => (t m).bind fun r => if r.1 = true then a r.2 else b r.2) ⟨env, hs⟩ := rfl
@[simp] theorem sAsg_ap (e : M D) (b : D → Mem → Res Mem) (env : List D) (hs : List Ob) : sAsg e b ⟨env, hs⟩ = (fun m : Mem => (e m).bind fun r => (b r.1 r.2).bind fun m' => .ok (.nx, m')) ⟨env, hs⟩ := rfl
@[simp] theorem miV_ap (e : M D) (env : List D) (hs : List Ob) : miV e ⟨env, hs⟩ = (fun m : Mem => (e m).bind fun r => (itOf (fun (_ : Mem) => True) r.1).bind fun it => .ok (it, r.2)) ⟨env, hs⟩ := rfl
@[simp] theorem miN_ap (i : Nat) (env : List D) (hs : List Ob) : miN i ⟨env, hs⟩ = (fun m : Mem => (mqVar i m).bind fun d => (itOf (fun m' => m'.env[i]? = some d) d).bind fun it => .ok (it, m)) ⟨env, hs⟩ := rfl
@[simp] theorem miR1_ap (a : M (List Arg)) (env : List D) (hs : List Ob) : miR1 a ⟨env, hs⟩ = (fun m : Mem => (a m).bind fun r => (conts r.2.env r.1).bind fun ds => match ds with
  | [.int j] => Res.when (b62 j) (.ok ((rangeD 0 j.toNat, fun (_ : Mem) => True), r.2))
  | _ => .fail) ⟨env, hs⟩ := rfl
@[simp] theorem miR2_ap (a : M (List Arg)) (env : List D) (hs : List Ob) : miR2 a ⟨env, hs⟩ = (fun m : Mem => (a m).bind fun r => (conts r.2.env r.1).bind fun ds => match ds with
  | [.int i, .int j] => Res.when (b62 i && b62 j) (.ok ((rangeD i (j - i).toNat, fun (_ : Mem) => True), r.2))
  | _ => .fail) ⟨env, hs⟩ := rfl
@[simp] theorem sFor_ap (it : M It) (b : D → Mem → Res Mem) (body : MS) (env : List D) (hs : List Ob) : sFor it b body ⟨env, hs⟩ = (fun m : Mem => (it m).bind fun r => forM r.1.2 b body r.1.1 r.2) ⟨env, hs⟩ := rfl
@[simp] theorem mLc_ap (it : M E.It) (vs : List Nat) (b : D → Mem → Res Mem) (tt : M Bool) (el : M D) (env : List D) (hs : List Ob) : mLc it vs b tt el ⟨env, hs⟩ = (fun m : Mem => (it m).bind fun r =>
  Res.when (vs.all fun v => decide (v < r.2.env.length)) ((lcM r.1.2 vs b tt el r.1.1 [] ⟨undL vs r.2.env, r.2.hs⟩).bind fun o => .ok (.lst true o.1, ⟨restore r.2.env vs o.2.env, o.2.hs⟩))) ⟨env, hs⟩ := rfl
@[simp] theorem mtYes_ap (env : List D) (hs : List Ob) : mtYes  ⟨env, hs⟩ = (fun m : Mem => .ok (true, m)) ⟨env, hs⟩ := rfl
@[simp] theorem mAppN_ap (i : Nat) (a : M D) (env : List D) (hs : List Ob) : mAppN i a ⟨env, hs⟩ = (fun m : Mem => (mqVar i m).bind fun d0 => Res.when d0.isL ((a m).bind fun r => (mqVar i r.2).bind fun d => match d with
  | .lst true xs => Res.when (decide (xs.length < sizeLine)) (.ok (.non, { r.2 with env := r.2.env.set i (.lst true (xs ++ [r.1])) }))
  | _ => .fail)) ⟨env, hs⟩ := rfl
@[simp] theorem sAug_ap (i : Nat) (g : D → D → Res D) (e : M D) (env : List D) (hs : List Ob) : sAug i g e ⟨env, hs⟩ = (fun m : Mem => (mqVar i m).bind fun d0 => Res.when d0.pure ((e m).bind fun r => (g d0 r.1).bind fun d => Res.when (d.pure && decide (i < r.2.env.length)) (.ok (.nx, { r.2 with env := r.2.env.set i d })))) ⟨env, hs⟩ := rfl
@[simp] theorem mMv_ap (i : Nat) (env : List D) (hs : List Ob) : mMv i ⟨env, hs⟩ = (fun m : Mem => (mqVar i m).bind fun d => if d.pure = true then .ok (d, m) else .ok (d, { m with env := m.env.set i .und })) ⟨env, hs⟩ := rfl
@[simp] theorem sPar_ap (i j : Nat) (a : M (List Arg)) (env : List D) (hs : List Ob) : sPar i j a ⟨env, hs⟩ = (fun m : Mem => (a m).bind fun r => (vals r.1).bind fun ds => match ds with
  | [d1, d2] => (bName i d1 r.2).bind fun m1 => (bName j d2 m1).bind fun m2 => .ok (.nx, m2)
  | _ => .fail) ⟨env, hs⟩ := rfl
@[simp] theorem mqChain_ap (g g' : D → D → Res D) (qa qb qc : MQ D) (env : List D) (hs : List Ob) : mqChain g g' qa qb qc ⟨env, hs⟩ = (fun m : Mem => (qa m).bind fun d1 => (qb m).bind fun d2 => (g d1 d2).bind fun r => r.isB.bind fun c => if c = true then (qc m).bind fun d3 => (g' d2 d3).bind fun d => Res.when d.pure (.ok d) else .ok (.bl false)) ⟨env, hs⟩ := rfl
@[simp] theorem mLstRg_ap (me : M D) (env : List D) (hs : List Ob) : mLstRg me ⟨env, hs⟩ = (fun m : Mem => (me m).bind fun r => match r.1 with
  | .int j => Res.when (cdec (0 ≤ j ∧ j ≤ 16777216)) (.ok (.lst true (rangeD 0 j.toNat), r.2))
  | _ => .fail) ⟨env, hs⟩ := rfl
@[simp] theorem mqAttr_ap (cs : List Nat) (f : String) (q : MQ D) (env : List D) (hs : List Ob) : mqAttr cs f q ⟨env, hs⟩ = (fun m : Mem => (q m).bind fun d => match d with
  | .loc n => match m.hs[n]? with
    | some ob => Res.when (cs.contains ob.cls) (Res.of (lookF f ob.fs))
    | none => .fail
  | _ => .fail) ⟨env, hs⟩ := rfl
@[simp] theorem sSetA_ap (cs : List Nat) (f : String) (e : M D) (q : MQ D) (env : List D) (hs : List Ob) : sSetA cs f e q ⟨env, hs⟩ = (fun m : Mem => (e m).bind fun r => (q r.2).bind fun d => match d with
  | .loc n => match r.2.hs[n]? with
    | some ob => Res.when (cs.contains ob.cls && decide (ob.fs.length < 1000)) (.ok (.nx, ⟨r.2.env, r.2.hs.set n ⟨ob.cls, setF f r.1 ob.fs⟩⟩))
    | none => .fail
  | _ => .fail) ⟨env, hs⟩ := rfl
@[simp] theorem mMeth_ap (c : Nat) (mn : String) (f : CallM) (dd : List D) (q : MQ D) (a : M (List Arg)) (env : List D) (hs : List Ob) : mMeth c mn f dd q a ⟨env, hs⟩ = (fun m : Mem => (q m).bind fun d => Res.when (isOf c mn m d) ((a m).bind fun r => callTail f dd (.val d :: r.1) r.2)) ⟨env, hs⟩ := rfl
@[simp] theorem mMake_ap (c : Nat) (f : CallM) (dd : List D) (a : M (List Arg)) (env : List D) (hs : List Ob) : mMake c f dd a ⟨env, hs⟩ = (fun m : Mem => (a m).bind fun r => (callTail f dd (.val (.loc r.2.hs.length) :: r.1) ⟨r.2.env, r.2.hs ++ [⟨c, []⟩]⟩).bind fun o => match o.1 with
  | .non => .ok (.loc r.2.hs.length, o.2)
  | _ => .fail) ⟨env, hs⟩ := rfl
@[simp] theorem mOrM_ap (a b : M D) (env : List D) (hs : List Ob) : mOrM a b ⟨env, hs⟩ = (fun m : Mem => match a m with
  | .ok r => .ok r
  | _ => b m) ⟨env, hs⟩ := rfl
@[simp] theorem miRevV_ap (e : M D) (env : List D) (hs : List Ob) : miRevV e ⟨env, hs⟩ = (fun m : Mem => (miV e m).bind fun r => .ok (revIt r.1, r.2)) ⟨env, hs⟩ := rfl
@[simp] theorem miRevN_ap (i : Nat) (env : List D) (hs : List Ob) : miRevN i ⟨env, hs⟩ = (fun m : Mem => (miN i m).bind fun r => .ok (revIt r.1, r.2)) ⟨env, hs⟩ := rfl
@[simp] theorem miEnV_ap (e : M D) (env : List D) (hs : List Ob) : miEnV e ⟨env, hs⟩ = (fun m : Mem => (e m).bind fun r => enOf (fun (_ : Mem) => True) r.2 r.1) ⟨env, hs⟩ := rfl
@[simp] theorem miEnN_ap (i : Nat) (env : List D) (hs : List Ob) : miEnN i ⟨env, hs⟩ = (fun m : Mem => (mqVar i m).bind fun d => enOf (fun m' => m'.env[i]? = some d) m d) ⟨env, hs⟩ := rfl
@[simp] theorem bName_ap (i : Nat) (d : D) (env : List D) (hs : List Ob) : bName i d ⟨env, hs⟩ = Res.when (decide (i < env.length)) (.ok ⟨env.set i d, hs⟩) := rfl
@[simp] theorem bNil_ap (env : List D) (hs : List Ob) : bNil [] ⟨env, hs⟩ = .ok ⟨env, hs⟩ := rfl
@[simp] theorem bCons_ap (b : D → Mem → Res Mem) (bs : List D → Mem → Res Mem) (d : D) (ds : List D) (env : List D) (hs : List Ob) : bCons b bs (d :: ds) ⟨env, hs⟩ = (b d ⟨env, hs⟩).bind (bs ds) := rfl
@[simp] theorem bTL_tup (n : Nat) (bs : List D → Mem → Res Mem) (ds : List D) (env : List D) (hs : List Ob) : bTL n bs (.tup ds) ⟨env, hs⟩ = Res.when (decide (ds.length = n)) (bs ds ⟨env, hs⟩) := rfl
@[simp] theorem bTL_lst (n : Nat) (o : Bool) (bs : List D → Mem → Res Mem) (ds : List D) (env : List D) (hs : List Ob) : bTL n bs (.lst o ds) ⟨env, hs⟩ = Res.when (decide (ds.length = n) && pureL ds) (bs ds ⟨env, hs⟩) := rfl
@[simp] theorem bSub_ap (i : Nat) (q : MQ D) (d : D) (env : List D) (hs : List Ob) : bSub i q d ⟨env, hs⟩ = (q ⟨env, hs⟩).bind fun k => (mqVar i ⟨env, hs⟩).bind fun x => match x, k with
  | .lst true xs, .int k => (Res.of (ixN xs.length k)).bind fun j => .ok ⟨env.set i (.lst true (xs.set j d)), hs⟩
  | _, _ => .fail := rfl
@[simp] theorem Res.ifP_t {α : Type} (r : Res α) : Res.ifP True r = r := if_pos trivial
@[simp] theorem forM_nil (ok : Mem → Prop) (b : D → Mem → Res Mem) (body : MS) (env : List D) (hs : List Ob) : E.forM ok b body [] ⟨env, hs⟩ = Res.ifP (ok ⟨env, hs⟩) (.ok (.nx, ⟨env, hs⟩)) := rfl
@[simp] theorem forM_cons (ok : Mem → Prop) (b : D → Mem → Res Mem) (body : MS) (x : D) (xs : List D) (env : List D) (hs : List Ob) : E.forM ok b body (x :: xs) ⟨env, hs⟩ = Res.ifP (ok ⟨env, hs⟩) ((b x ⟨env, hs⟩).bind fun m1 => (body m1).bind fun o => match o.1 with
      | .nx => E.forM ok b body xs o.2
      | .ct => E.forM ok b body xs o.2
      | .bk => .ok (.nx, o.2)
      | .rt d => .ok (.rt d, o.2)) := rfl
@[simp] theorem mDef_ap (n N : Nat) (pin : List Nat) (body : MS) (ds : List D) (hs : List Ob) : mDef n N pin body ds hs = Res.when (decide (ds.length = n)) ((body ⟨ds ++ List.replicate (N - n) .und, hs⟩).bind fun r => (D.rtv r.1).bind fun d => (outs pin 0 ds r.2.env).bind fun ds' => .ok (d, ds', r.2.hs)) := rfl
end E
/-! YA: typed programs over the mirrors: patterns of slots, expressions, statements -/
namespace Y
open PySem E
open L2 (ixN atI)

abbrev Pt := List (Option D)
inductive Mt : Pt → List D → Prop
  | nil : Mt [] []
  | any {p e d} : Mt p e → Mt (none :: p) (d :: e)
  | one {p e d} : Mt p e → Mt (some d :: p) (d :: e)
theorem Mt.get {p : Pt} {e : List D} (h : Mt p e) : ∀ {i : Nat} {d : D}, p[i]? = some (some d) → e[i]? = some d := by
  induction h with
  | nil => intro i d q; simp at q
  | any _ ih => intro i d q; cases i with
    | zero => simp at q
    | succ i => simpa using ih (by simpa using q)
  | one _ ih => intro i d q; cases i with
    | zero => simpa using q
    | succ i => simpa using ih (by simpa using q)
theorem Mt.set {p : Pt} {e : List D} (h : Mt p e) : ∀ (i : Nat) (d : D), Mt (p.set i (some d)) (e.set i d) := by
  induction h with
  | nil => intro i d; exact .nil
  | any k ih => intro i d; cases i with
    | zero => exact .one k
    | succ i => exact .any (ih i d)
  | one k ih => intro i d; cases i with
    | zero => exact .one k
    | succ i => exact .one (ih i d)
theorem Mt.setn {p : Pt} {e : List D} (h : Mt p e) : ∀ (i : Nat) (d : D), Mt (p.set i none) (e.set i d) := by
  induction h with
  | nil => intro i d; exact .nil
  | any k ih => intro i d; cases i with
    | zero => exact .any k
    | succ i => exact .any (ih i d)
  | one k ih => intro i d; cases i with
    | zero => exact .any k
    | succ i => exact .one (ih i d)
theorem Mt.len {p : Pt} {e : List D} (h : Mt p e) : e.length = p.length := by
  induction h with
  | nil => rfl
  | any _ ih => simp [ih]
  | one _ ih => simp [ih]
theorem Mt.refl : ∀ e : List D, Mt (e.map some) e
  | [] => .nil
  | _ :: e => .one (Mt.refl e)
/-- a weaker pattern -/
inductive Wk : Pt → Pt → Prop
  | nil : Wk [] []
  | drop {p q x} : Wk p q → Wk (none :: p) (x :: q)
  | keep {p q x} : Wk p q → Wk (x :: p) (x :: q)
  | cast {p q d d'} : d = d' → Wk p q → Wk (some d' :: p) (some d :: q)
theorem Wk.mt {p q : Pt} (h : Wk p q) : ∀ {e : List D}, Mt q e → Mt p e := by
  induction h with
  | nil => intro e m; exact m
  | drop _ ih => intro e m; cases m with
    | any k => exact .any (ih k)
    | one k => exact .any (ih k)
  | keep _ ih => intro e m; cases m with
    | any k => exact .any (ih k)
    | one k => exact .one (ih k)
  | cast x _ ih => intro e m; subst x; cases m with
    | one k => exact .one (ih k)
theorem Wk.rfl : ∀ p : Pt, Wk p p
  | [] => .nil
  | _ :: p => .keep (Wk.rfl p)
structure Sx (p : Pt) (h : List Ob) (m : Mem) : Prop where
  e : Mt p m.env
  h : m.hs = h
theorem Sx.wk {p q : Pt} {h : List Ob} {m : Mem} (s : Sx q h m) (k : Wk p q) : Sx p h m := ⟨k.mt s.e, s.h⟩

def YT (p : Pt) (h : List Ob) (q : MQ D) (d : D) : Prop := ∀ m, Sx p h m → q m = .ok d
def YL (p : Pt) (h : List Ob) (q : MQ (List D)) (ds : List D) : Prop := ∀ m, Sx p h m → q m = .ok ds
def YM (p : Pt) (h : List Ob) (x : M D) (d : D) (p' : Pt) (h' : List Ob) : Prop := ∀ m, Sx p h m → ∃ m', x m = .ok (d, m') ∧ Sx p' h' m'
def YB (p : Pt) (h : List Ob) (x : M Bool) (b : Bool) (p' : Pt) (h' : List Ob) : Prop := ∀ m, Sx p h m → ∃ m', x m = .ok (b, m') ∧ Sx p' h' m'
def YA (p : Pt) (h : List Ob) (x : M (List E.Arg)) (as : List E.Arg) (p' : Pt) (h' : List Ob) : Prop := ∀ m, Sx p h m → ∃ m', x m = .ok (as, m') ∧ Sx p' h' m'
def YG (p : Pt) (h : List Ob) (b : Mem → Res Mem) (p' : Pt) (h' : List Ob) : Prop := ∀ m, Sx p h m → ∃ m', b m = .ok m' ∧ Sx p' h' m'
def YO (p : Pt) (h : List Ob) (q : MQ (Option Int)) (o : Option Int) : Prop := ∀ m, Sx p h m → q m = .ok o
def YI (p : Pt) (h : List Ob) (x : M E.It) (xs : List D) (ok : Mem → Prop) (p' : Pt) (h' : List Ob) : Prop := ∀ m, Sx p h m → ∃ m', x m = .ok ((xs, ok), m') ∧ Sx p' h' m'

section
variable {p p' p1 p2 : Pt} {h h' h1 h2 : List Ob} {q q1 q2 q3 : MQ D} {d d' d1 d2 d3 : D} {x x1 x2 : M D} {i j : Nat} {g g' : D → D → Res D}

theorem YT.c : YT p h (mqC d) d := fun _ _ => rfl
theorem YT.var (e : p[i]? = some (some d)) (n : d.defd = true) : YT p h (mqVar i) d := fun m s => by
  unfold mqVar
  rw [s.e.get e]
  cases d <;> first | rfl | cases n
theorem YT.op2 (a : YT p h q1 d1) (b : YT p h q2 d2) (e : g d1 d2 = .ok d) (u : d.pure = true) : YT p h (mqOp2 g q1 q2) d := fun m s => by
  unfold mqOp2
  rw [a m s, Res.bind_ok, b m s, Res.bind_ok, e, Res.bind_ok, u]
  rfl
theorem YT.op1 {g : D → Res D} (a : YT p h q1 d1) (e : g d1 = .ok d) (u : d.pure = true) : YT p h (mqOp1 g q1) d := fun m s => by
  unfold mqOp1
  rw [a m s, Res.bind_ok, e, Res.bind_ok, u]
  rfl
theorem YT.ix (a : YT p h q1 d1) (b : YT p h q2 d2) (e : dIx d1 d2 = .ok d) : YT p h (mqIx q1 q2) d := fun m s => by
  unfold mqIx
  rw [a m s, Res.bind_ok, b m s, Res.bind_ok, e]
theorem YL.nil : YL p h mqNil [] := fun _ _ => rfl
theorem YL.cons {l : MQ (List D)} {ds : List D} (a : YT p h q d) (b : YL p h l ds) : YL p h (mqCons q l) (d :: ds) := fun m s => by
  unfold mqCons
  rw [a m s, Res.bind_ok, b m s]
  rfl
theorem YT.cb {l : MQ (List D)} {ds : List D} {g : List D → Res D} (a : YL p h l ds) (e : g ds = .ok d) (u : d.pure = true) : YT p h (mqCB g l) d := fun m s => by
  unfold mqCB
  rw [a m s, Res.bind_ok, e, Res.bind_ok, u]
  rfl
theorem YT.chain {b : Bool} (a : YT p h q1 d1) (b1 : YT p h q2 d2) (e1 : g d1 d2 = .ok (.bl b)) (c : b = true → YT p h q3 d3) (e2 : b = true → g' d2 d3 = .ok d) (e3 : b = false → d = .bl false) (u : d.pure = true) : YT p h (mqChain g g' q1 q2 q3) d := fun m s => by
  unfold mqChain
  rw [a m s, Res.bind_ok, b1 m s, Res.bind_ok, e1, Res.bind_ok]
  cases b with
  | false => cases e3 rfl; rfl
  | true =>
    show ((q3 m).bind fun d3 => (g' d2 d3).bind fun d => Res.when d.pure (.ok d)) = _
    rw [c rfl m s, Res.bind_ok, e2 rfl, Res.bind_ok, u]
    rfl

theorem YT.chainT {b c : Bool} (a : YT p h q1 d1) (b1 : YT p h q2 d2) (e1 : g d1 d2 = .ok (.bl b)) (k : YT p h q3 d3) (e2 : g' d2 d3 = .ok (.bl c)) : YT p h (mqChain g g' q1 q2 q3) (.bl (b && c)) :=
  YT.chain a b1 e1 (fun _ => k) (fun hb => by subst hb; exact e2) (fun hb => by subst hb; rfl) rfl
theorem YM.pp (a : YT p h q d) (u : d.pure = true) : YM p h (mP q) d p h := fun m s => ⟨m, by
  unfold mP
  rw [a m s, Res.bind_ok, u]
  rfl, s⟩
theorem YM.qb (a : YT p h q d) : YM p h (mB q) d p h := fun m s => ⟨m, by
  unfold mB
  rw [a m s, Res.bind_ok], s⟩
theorem fz_same {d : D} (n : d.defd = true) (u : d.pure = true) : d.fz = d := fz_pure d (by intro e; subst e; cases n) (fun _ _ => trivial) u
theorem set_get {e : List D} (k : e[i]? = some d) : e.set i d = e := by
  apply List.ext_getElem?
  intro j
  rw [List.getElem?_set]
  split
  · rename_i ej; subst ej
    rw [if_pos (List.getElem?_eq_some_iff.mp k).1, k]
  · rfl
theorem YM.var (e : p[i]? = some (some d)) (n : d.defd = true) (f : d.fz = d') : YM p h (mVar i) d' (p.set i (some d')) h := fun m s => by
  unfold mVar
  rw [YT.var e n m s, Res.bind_ok]
  by_cases u : d.pure = true
  · have : d = d' := (fz_same n u).symm.trans f
    subst this
    refine ⟨m, by rw [if_pos u], ?_, s.h⟩
    have := s.e.set i d
    rw [set_get (s.e.get e)] at this
    exact this
  · rw [if_neg u, f]
    exact ⟨_, rfl, s.e.set i d', s.h⟩
theorem YM.varP (e : p[i]? = some (some d)) (n : d.defd = true) (u : d.pure = true) : YM p h (mVar i) d p h := fun m s => by
  unfold mVar
  rw [YT.var e n m s, Res.bind_ok, if_pos u]
  exact ⟨m, rfl, s⟩
theorem YM.mv (e : p[i]? = some (some d)) (n : d.defd = true) : YM p h (mMv i) d (p.set i none) h := fun m s => by
  unfold mMv
  rw [YT.var e n m s, Res.bind_ok]
  have k := s.e.setn i
  by_cases u : d.pure = true
  · refine ⟨m, by rw [if_pos u], ?_, s.h⟩
    have := k d
    rw [set_get (s.e.get e)] at this
    exact this
  · rw [if_neg u]
    exact ⟨_, rfl, k _, s.h⟩
theorem YM.fz (a : YM p h x d p' h') (e : d.fz = d') : YM p h (mFz x) d' p' h' := fun m s => by
  obtain ⟨m1, e1, s1⟩ := a m s
  refine ⟨m1, ?_, s1⟩
  unfold mFz
  rw [e1, Res.bind_ok, e]
theorem YM.op2 (a : YM p h x1 d1 p1 h1) (b : YM p1 h1 x2 d2 p' h') (e : g d1 d2 = .ok d) : YM p h (mOp2 g x1 x2) d p' h' := fun m s => by
  obtain ⟨m1, e1, s1⟩ := a m s
  obtain ⟨m2, e2, s2⟩ := b m1 s1
  refine ⟨m2, ?_, s2⟩
  unfold mOp2
  rw [e1, Res.bind_ok, e2, Res.bind_ok, e]
  rfl
theorem YM.opN (g0 : p[i]? = some (some d1)) (n0 : d1.defd = true) (b : YM p h x2 d2 p' h') (g1 : p'[i]? = some (some d3)) (n1 : d3.defd = true) (e : g d3 d2 = .ok d) : YM p h (mOpN g i x2) d p' h' := fun m s => by
  obtain ⟨m2, e2, s2⟩ := b m s
  refine ⟨m2, ?_, s2⟩
  unfold mOpN
  rw [YT.var g0 n0 m s, Res.bind_ok, e2, Res.bind_ok, YT.var g1 n1 m2 s2, Res.bind_ok, e]
  rfl
theorem YM.opQ (a : YT p h q1 d1) (b : YT p h q2 d2) (e : g d1 d2 = .ok d) : YM p h (mOpQ g q1 q2) d p h := fun m s => ⟨m, by
  unfold mOpQ
  rw [a m s, Res.bind_ok, b m s, Res.bind_ok, e]
  rfl, s⟩
theorem YM.op1 {g : D → Res D} (a : YM p h x1 d1 p' h') (e : g d1 = .ok d) : YM p h (mOp1 g x1) d p' h' := fun m s => by
  obtain ⟨m1, e1, s1⟩ := a m s
  refine ⟨m1, ?_, s1⟩
  unfold mOp1
  rw [e1, Res.bind_ok, e]
  rfl
theorem YM.and {b : Bool} (a : YM p h x1 (.bl b) p1 h1) (k : b = true → YM p1 h1 x2 d p' h') (k2 : b = false → d = .bl false ∧ h' = h1 ∧ Wk p' p1) : YM p h (mAnd x1 x2) d p' h' := fun m s => by
  obtain ⟨m1, e1, s1⟩ := a m s
  unfold mAnd
  rw [e1, Res.bind_ok]
  cases b with
  | true => exact k rfl m1 s1
  | false =>
    obtain ⟨rfl, rfl, w⟩ := k2 rfl
    exact ⟨m1, rfl, s1.wk w⟩
theorem YM.or {b : Bool} (a : YM p h x1 (.bl b) p1 h1) (k : b = false → YM p1 h1 x2 d p' h') (k2 : b = true → d = .bl true ∧ h' = h1 ∧ Wk p' p1) : YM p h (mOr x1 x2) d p' h' := fun m s => by
  obtain ⟨m1, e1, s1⟩ := a m s
  unfold mOr
  rw [e1, Res.bind_ok]
  cases b with
  | false => exact k rfl m1 s1
  | true =>
    obtain ⟨rfl, rfl, w⟩ := k2 rfl
    exact ⟨m1, rfl, s1.wk w⟩
theorem YM.andT {b c : Bool} (a : YM p h x1 (.bl b) p1 h1) (k : YM p1 h1 x2 (.bl c) p1 h1) : YM p h (mAnd x1 x2) (.bl (b && c)) p1 h1 :=
  YM.and a (fun hb => by subst hb; exact k) (fun hb => by subst hb; exact ⟨rfl, rfl, Wk.rfl _⟩)
theorem YM.orT {b c : Bool} (a : YM p h x1 (.bl b) p1 h1) (k : YM p1 h1 x2 (.bl c) p1 h1) : YM p h (mOr x1 x2) (.bl (b || c)) p1 h1 :=
  YM.or a (fun hb => by subst hb; exact k) (fun hb => by subst hb; exact ⟨rfl, rfl, Wk.rfl _⟩)
theorem YM.not {b : Bool} (a : YM p h x1 (.bl b) p' h') : YM p h (mNot x1) (.bl (!b)) p' h' := fun m s => by
  obtain ⟨m1, e1, s1⟩ := a m s
  refine ⟨m1, ?_, s1⟩
  unfold mNot
  rw [e1, Res.bind_ok]
  rfl
theorem YM.ite {b : Bool} {t : M Bool} (c : YB p h t b p1 h1) (k : b = true → YM p1 h1 x1 d p' h') (k2 : b = false → YM p1 h1 x2 d p' h') : YM p h (mIf t x1 x2) d p' h' := fun m s => by
  obtain ⟨m1, e1, s1⟩ := c m s
  unfold mIf
  rw [e1, Res.bind_ok]
  cases b with
  | true => exact k rfl m1 s1
  | false => exact k2 rfl m1 s1
theorem YM.iteT {α : Type} {b : Bool} {t : M Bool} {f : α → D} {v1 v2 : α} (c : YB p h t b p1 h1) (k1 : YM p1 h1 x1 (f v1) p' h') (k2 : YM p1 h1 x2 (f v2) p' h') : YM p h (mIf t x1 x2) (f (if b = true then v1 else v2)) p' h' :=
  YM.ite c (fun hb => by subst hb; exact k1) (fun hb => by subst hb; exact k2)
theorem YM.wk (a : YM p h x d p1 h') (w : Wk p' p1) : YM p h x d p' h' := fun m s => by
  obtain ⟨m1, e1, s1⟩ := a m s
  exact ⟨m1, e1, s1.wk w⟩
theorem YM.cast (a : YM p h x d p' h') (e : d = d') : YM p h x d' p' h' := e ▸ a
theorem YT.cast (a : YT p h q d) (e : d = d') : YT p h q d' := e ▸ a
theorem YM.ix (a : YM p h x1 d1 p1 h1) (b : YM p1 h1 x2 d2 p' h') (e : dIx d1 d2 = .ok d) (u : d.pure = true) : YM p h (mIx x1 x2) d p' h' := fun m s => by
  obtain ⟨m1, e1, s1⟩ := a m s
  obtain ⟨m2, e2, s2⟩ := b m1 s1
  refine ⟨m2, ?_, s2⟩
  unfold mIx
  rw [e1, Res.bind_ok, e2, Res.bind_ok, e, Res.bind_ok, u]
  rfl
theorem YM.ixN (g0 : p[i]? = some (some d1)) (n0 : d1.defd = true) (b : YM p h x2 d2 p' h') (g1 : p'[i]? = some (some d3)) (n1 : d3.defd = true) (e : dIx d3 d2 = .ok d) (u : d.pure = true) : YM p h (mIxN i x2) d p' h' := fun m s => by
  obtain ⟨m2, e2, s2⟩ := b m s
  refine ⟨m2, ?_, s2⟩
  unfold mIxN
  rw [YT.var g0 n0 m s, Res.bind_ok, e2, Res.bind_ok, YT.var g1 n1 m2 s2, Res.bind_ok, e, Res.bind_ok, u]
  rfl
theorem YO.none : YO p h mqNone none := fun _ _ => rfl
theorem YO.some {k : Int} (a : YT p h q (.int k)) : YO p h (mqSome q) (some k) := fun m s => by
  unfold mqSome
  rw [a m s]
  rfl
theorem YM.sl {lo hi : MQ (Option Int)} {l k : Option Int} (a : YM p h x d1 p' h') (b : YO p' h' lo l) (c : YO p' h' hi k) (e : dSl d1 l k = .ok d) : YM p h (mSl x lo hi) d p' h' := fun m s => by
  obtain ⟨m1, e1, s1⟩ := a m s
  refine ⟨m1, ?_, s1⟩
  unfold mSl
  rw [e1, Res.bind_ok, b m1 s1, Res.bind_ok, c m1 s1, Res.bind_ok, e]
  rfl
/-! arguments -/
variable {as : List E.Arg} {ma : M (List E.Arg)} {ds : List D}
theorem YA.nil : YA p h maNil [] p h := fun m s => ⟨m, rfl, s⟩
theorem YA.v (a : YM p h x d p1 h1) (b : YA p1 h1 ma as p' h') : YA p h (maV x ma) (.val d :: as) p' h' := fun m s => by
  obtain ⟨m1, e1, s1⟩ := a m s
  obtain ⟨m2, e2, s2⟩ := b m1 s1
  refine ⟨m2, ?_, s2⟩
  unfold maV
  rw [e1, Res.bind_ok, e2]
  rfl
theorem YA.n (g0 : p[i]? = some (some d)) (n0 : d.defd = true) (b : YA p h ma as p' h') : YA p h (maN i ma) (.nam i :: as) p' h' := fun m s => by
  obtain ⟨m2, e2, s2⟩ := b m s
  refine ⟨m2, ?_, s2⟩
  unfold maN
  rw [YT.var g0 n0 m s, Res.bind_ok, e2]
  rfl
theorem YA.qq {l : MQ (List D)} (a : YL p h l ds) : YA p h (maQ l) (ds.map .bor) p h := fun m s => ⟨m, by
  unfold maQ
  rw [a m s]
  rfl, s⟩
theorem YM.tup (a : YA p h ma as p' h') (v : vals as = .ok ds) (l : ds.length ≤ 16777216) : YM p h (mTup ma) (.tup ds) p' h' := fun m s => by
  obtain ⟨m1, e1, s1⟩ := a m s
  refine ⟨m1, ?_, s1⟩
  unfold mTup
  rw [e1, Res.bind_ok, v, Res.bind_ok, decide_eq_true (show ds.length ≤ sizeLine by rw [sizeLine_eq]; exact l)]
  rfl
theorem YM.lst (a : YA p h ma as p' h') (v : vals as = .ok ds) (l : ds.length ≤ 16777216) : YM p h (mLst ma) (.lst true ds) p' h' := fun m s => by
  obtain ⟨m1, e1, s1⟩ := a m s
  refine ⟨m1, ?_, s1⟩
  unfold mLst
  rw [e1, Res.bind_ok, v, Res.bind_ok, decide_eq_true (show ds.length ≤ sizeLine by rw [sizeLine_eq]; exact l)]
  rfl
/-- what the arguments are -/
inductive Ct : Pt → List E.Arg → List D → Prop
  | nil {p : Pt} : Ct p [] []
  | val {p : Pt} {d : D} {as : List E.Arg} {ds : List D} : Ct p as ds → Ct p (.val d :: as) (d :: ds)
  | bor {p : Pt} {d : D} {as : List E.Arg} {ds : List D} : Ct p as ds → Ct p (.bor d :: as) (d :: ds)
  | nam {p : Pt} {i : Nat} {d : D} {as : List E.Arg} {ds : List D} : p[i]? = some (some d) → d.defd = true → Ct p as ds → Ct p (.nam i :: as) (d :: ds)
theorem conts_nam (i : Nat) (as : List E.Arg) (e : List D) (g : e[i]? = some d) (n : d.defd = true) : conts e (.nam i :: as) = (conts e as).bind fun ds => .ok (d :: ds) := by
  rw [conts, g]
  cases d <;> first | rfl | cases n
theorem Ct.eq {P : Pt} {es : List E.Arg} {fs : List D} (c : Ct P es fs) {e : List D} (k : Mt P e) : conts e es = .ok fs := by
  induction c with
  | nil => rfl
  | val _ ih => unfold conts; rw [ih]; rfl
  | bor _ ih => unfold conts; rw [ih]; rfl
  | nam g n _ ih => rw [conts_nam _ _ e (k.get g) n, ih]; rfl
theorem YM.cb {g : List D → Res D} (a : YA p h ma as p' h') (c : Ct p' as ds) (e : g ds = .ok d) : YM p h (mCB g ma) d p' h' := fun m s => by
  obtain ⟨m1, e1, s1⟩ := a m s
  refine ⟨m1, ?_, s1⟩
  unfold mCB
  rw [e1, Res.bind_ok]
  dsimp only
  rw [c.eq s1.e, Res.bind_ok, e]
  rfl
/-- arguments of a call: names that own are taken, and given back -/
inductive Gr : List E.Arg → Pt → List D → List (Option Nat) → Pt → Prop
  | nil {p : Pt} : Gr [] p [] [] p
  | val {d : D} {as : List E.Arg} {p : Pt} {ds : List D} {is : List (Option Nat)} {q : Pt} : Gr as p ds is q → Gr (.val d :: as) p (d :: ds) (none :: is) q
  | bor {d : D} {as : List E.Arg} {p : Pt} {ds : List D} {is : List (Option Nat)} {q : Pt} : d.pure = true → Gr as p ds is q → Gr (.bor d :: as) p (d :: ds) (none :: is) q
  | namP {i : Nat} {d : D} {as : List E.Arg} {p : Pt} {ds : List D} {is : List (Option Nat)} {q : Pt} : p[i]? = some (some d) → d.defd = true → d.pure = true → Gr as p ds is q → Gr (.nam i :: as) p (d :: ds) (none :: is) q
  | namM {i : Nat} {d : D} {as : List E.Arg} {p : Pt} {ds : List D} {is : List (Option Nat)} {q : Pt} : p[i]? = some (some d) → d.defd = true → d.pure = false → Gr as (p.set i (some .und)) ds is q → Gr (.nam i :: as) p (d :: ds) (some i :: is) q
theorem grabV_M {i : Nat} {as : List E.Arg} {e : List D} (n : d.defd = true) (u : d.pure = false) : grabV i as e (some d) = ((grab as (e.set i .und)).bind fun r => .ok (d :: r.1, some i :: r.2.1, r.2.2)) := by
  have u' : ¬ d.pure = true := by rw [u]; decide
  cases d <;> first | (cases n; done) | exact if_neg u'
theorem Gr.eq {as : List E.Arg} {p q : Pt} {ds : List D} {is : List (Option Nat)} (c : Gr as p ds is q) : ∀ {e : List D}, Mt p e → ∃ e', grab as e = .ok (ds, is, e') ∧ Mt q e' := by
  induction c with
  | nil => intro e k; exact ⟨e, grab_nil e, k⟩
  | val _ ih =>
    intro e k
    obtain ⟨e', h1, h2⟩ := ih k
    exact ⟨e', by rw [grab_val, h1]; rfl, h2⟩
  | bor u _ ih =>
    intro e k
    obtain ⟨e', h1, h2⟩ := ih k
    exact ⟨e', by rw [grab_bor, h1, u]; rfl, h2⟩
  | @namP i d as p ds is q g n u _ ih =>
    intro e k
    obtain ⟨e', h1, h2⟩ := ih k
    refine ⟨e', ?_, h2⟩
    rw [grab_nam, k.get g, grabV_pure i as e u, h1]
    rfl
  | @namM i d as p ds is q g n u _ ih =>
    intro e k
    obtain ⟨e', h1, h2⟩ := ih (k.set i .und)
    refine ⟨e', ?_, h2⟩
    rw [grab_nam, k.get g]
    rw [grabV_M n u, h1]
    rfl
def gbk : List (Option Nat) → List D → Pt → Pt
  | some i :: is, d :: ds, p => gbk is ds (p.set i (some d))
  | none :: is, _ :: ds, p => gbk is ds p
  | _, _, p => p
theorem gbk_mt : ∀ (is : List (Option Nat)) (ds : List D) {p : Pt} {e : List D}, Mt p e → Mt (gbk is ds p) (giveBack is ds e)
  | [], _, _, _, k => by unfold gbk giveBack; exact k
  | some i :: is, [], _, _, k => by unfold gbk giveBack; exact k
  | none :: is, [], _, _, k => by unfold gbk giveBack; exact k
  | some i :: is, d :: ds, _, _, k => by unfold gbk giveBack; exact gbk_mt is ds (k.set i d)
  | none :: is, d :: ds, _, _, k => by unfold gbk giveBack; exact gbk_mt is ds k
theorem YM.call {f : CallM} {dd : List D} {is : List (Option Nat)} {q : Pt} {ds' : List D} (a : YA p h ma as p1 h1) (c : Gr as p1 ds is q) (e : f (ds ++ dd) h1 = .ok (d, ds', h')) (k : gbk is ds' q = p') : YM p h (mCall f dd ma) d p' h' := fun m s => by
  obtain ⟨m1, e1, s1⟩ := a m s
  obtain ⟨e', g1, g2⟩ := c.eq s1.e
  refine ⟨⟨giveBack is ds' e', h'⟩, ?_, ?_, rfl⟩
  · unfold mCall
    rw [e1, Res.bind_ok]
    dsimp only
    rw [g1, Res.bind_ok]
    dsimp only
    rw [s1.h, e]
    rfl
  · rw [← k]
    exact gbk_mt is ds' g2
/-! tests -/
variable {t t1 t2 : M Bool} {b b1 b2 : Bool}
theorem YB.bb (a : YM p h x (.bl b) p' h') : YB p h (mtB x) b p' h' := fun m s => by
  obtain ⟨m1, e1, s1⟩ := a m s
  refine ⟨m1, ?_, s1⟩
  unfold mtB
  rw [e1, Res.bind_ok]
  rfl
theorem YB.v (a : YM p h x d p' h') (e : d.tru = .ok b) : YB p h (mtV x) b p' h' := fun m s => by
  obtain ⟨m1, e1, s1⟩ := a m s
  refine ⟨m1, ?_, s1⟩
  unfold mtV
  rw [e1, Res.bind_ok]
  dsimp only
  rw [e]
  rfl
theorem YB.and {y : Bool} (a : YB p h t1 b p1 h1) (k : b = true → YB p1 h1 t2 y p' h') (k2 : b = false → y = false ∧ h' = h1 ∧ Wk p' p1) : YB p h (mtAnd t1 t2) y p' h' := fun m s => by
  obtain ⟨m1, e1, s1⟩ := a m s
  unfold mtAnd
  rw [e1, Res.bind_ok]
  cases b with
  | true => exact k rfl m1 s1
  | false =>
    obtain ⟨rfl, rfl, w⟩ := k2 rfl
    exact ⟨m1, rfl, s1.wk w⟩
theorem YB.or {y : Bool} (a : YB p h t1 b p1 h1) (k : b = false → YB p1 h1 t2 y p' h') (k2 : b = true → y = true ∧ h' = h1 ∧ Wk p' p1) : YB p h (mtOr t1 t2) y p' h' := fun m s => by
  obtain ⟨m1, e1, s1⟩ := a m s
  unfold mtOr
  rw [e1, Res.bind_ok]
  cases b with
  | false => exact k rfl m1 s1
  | true =>
    obtain ⟨rfl, rfl, w⟩ := k2 rfl
    exact ⟨m1, rfl, s1.wk w⟩
theorem YB.andT (a : YB p h t1 b1 p1 h1) (k : YB p1 h1 t2 b2 p1 h1) : YB p h (mtAnd t1 t2) (b1 && b2) p1 h1 :=
  YB.and a (fun hb => by subst hb; exact k) (fun hb => by subst hb; exact ⟨rfl, rfl, Wk.rfl _⟩)
theorem YB.orT (a : YB p h t1 b1 p1 h1) (k : YB p1 h1 t2 b2 p1 h1) : YB p h (mtOr t1 t2) (b1 || b2) p1 h1 :=
  YB.or a (fun hb => by subst hb; exact k) (fun hb => by subst hb; exact ⟨rfl, rfl, Wk.rfl _⟩)
theorem YB.not (a : YB p h t b p' h') : YB p h (mtNot t) (!b) p' h' := fun m s => by
  obtain ⟨m1, e1, s1⟩ := a m s
  refine ⟨m1, ?_, s1⟩
  unfold mtNot
  rw [e1, Res.bind_ok]
theorem YB.yes : YB p h mtYes true p h := fun m s => ⟨m, rfl, s⟩
theorem YB.wk (a : YB p h t b p1 h') (w : Wk p' p1) : YB p h t b p' h' := fun m s => by
  obtain ⟨m1, e1, s1⟩ := a m s
  exact ⟨m1, e1, s1.wk w⟩
theorem YB.cast (a : YB p h t b p' h') (e : b = b1) : YB p h t b1 p' h' := e ▸ a
/-! targets -/
theorem YG.name (l : Nat.blt i p.length = true) : YG p h (bName i d) (p.set i (some d)) h := fun m s => ⟨⟨m.env.set i d, m.hs⟩, by
  unfold bName
  rw [decide_eq_true (by rw [s.e.len]; exact Nat.le_of_ble_eq_true l)]
  rfl, s.e.set i d, s.h⟩
theorem YG.nil : YG p h (bNil []) p h := fun m s => ⟨m, rfl, s⟩
theorem YG.cons {bb : D → Mem → Res Mem} {bs : List D → Mem → Res Mem} (a : YG p h (bb d) p1 h1) (k : YG p1 h1 (bs ds) p' h') : YG p h (bCons bb bs (d :: ds)) p' h' := fun m s => by
  obtain ⟨m1, e1, s1⟩ := a m s
  obtain ⟨m2, e2, s2⟩ := k m1 s1
  refine ⟨m2, ?_, s2⟩
  show ((bb d m).bind (bs ds)) = _
  rw [e1, Res.bind_ok, e2]
theorem YG.tlT {n : Nat} {bs : List D → Mem → Res Mem} (l : ds.length = n) (k : YG p h (bs ds) p' h') : YG p h (bTL n bs (.tup ds)) p' h' := fun m s => by
  obtain ⟨m2, e2, s2⟩ := k m s
  refine ⟨m2, ?_, s2⟩
  show Res.when (decide (ds.length = n)) (bs ds m) = _
  rw [decide_eq_true l, e2]
  rfl
theorem YG.tlL {n : Nat} {o : Bool} {bs : List D → Mem → Res Mem} (l : ds.length = n) (u : pureL ds = true) (k : YG p h (bs ds) p' h') : YG p h (bTL n bs (.lst o ds)) p' h' := fun m s => by
  obtain ⟨m2, e2, s2⟩ := k m s
  refine ⟨m2, ?_, s2⟩
  show Res.when (decide (ds.length = n) && pureL ds) (bs ds m) = _
  rw [decide_eq_true l, u, e2]
  rfl
theorem YG.sub {k : Int} {ds : List D} (a : YT p h q (.int k)) (g0 : p[i]? = some (some (.lst true ds))) (e : ixN ds.length k = some j) (u : ds.set j d = ds') : YG p h (bSub i q d) (p.set i (some (.lst true ds'))) h := fun m s => by
  refine ⟨⟨m.env.set i (.lst true (ds.set j d)), m.hs⟩, ?_, ?_, s.h⟩
  · unfold bSub
    rw [a m s, Res.bind_ok, YT.var g0 rfl m s, Res.bind_ok]
    dsimp only
    rw [e]
    rfl
  · rw [← u]; exact s.e.set i _
theorem YM.app {xs : List D} (g0 : p[i]? = some (some d1)) (n0 : d1.isL = true) (a : YM p h x d p' h') (g1 : p'[i]? = some (some (.lst true xs))) (l : xs.length < 16777216) : YM p h (mAppN i x) .non (p'.set i (some (.lst true (xs ++ [d])))) h' := fun m s => by
  obtain ⟨m2, e2, s2⟩ := a m s
  refine ⟨⟨m2.env.set i (.lst true (xs ++ [d])), m2.hs⟩, ?_, s2.e.set i _, s2.h⟩
  unfold mAppN
  rw [YT.var g0 (by cases d1 <;> first | rfl | cases n0) m s, Res.bind_ok, n0]
  show ((x m).bind _) = _
  rw [e2, Res.bind_ok, YT.var g1 rfl m2 s2, Res.bind_ok]
  dsimp only
  rw [decide_eq_true (show xs.length < sizeLine by rw [sizeLine_eq]; exact l)]
  rfl
end
end Y
/-! YB: statements, loops, comprehensions, defs -/
namespace Y
open PySem E
open L2 (ixN atI)

theorem bnd {α β : Type} {o : Option α} {f : α → Option β} {r : β} (h : o.bind f = some r) : ∃ a, o = some a ∧ f a = some r := Option.bind_eq_some_iff.mp h
noncomputable def gd {α : Type} (p : Prop) (o : Option α) : Option α := @ite _ p (Classical.propDecidable p) o none
theorem gd_of {α : Type} {p : Prop} {o : Option α} (h : p) : gd p o = o := by unfold gd; exact if_pos h
theorem gd_some {α : Type} {p : Prop} {o : Option α} {a : α} (h : gd p o = some a) : p ∧ o = some a := by
  unfold gd at h
  split at h
  · rename_i hp; exact ⟨hp, h⟩
  · cases h
theorem gd_iff {α : Type} {p : Prop} {o : Option α} {a : α} : gd p o = some a ↔ p ∧ o = some a := ⟨gd_some, fun ⟨h, k⟩ => (gd_of h).trans k⟩
def Run (s : MS) (m : Mem) (Q : Fl → Mem → Prop) : Prop := ∃ o, s m = .ok o ∧ Q o.1 o.2
section
variable {p p' p1 p2 : Pt} {h h' h1 h2 : List Ob} {m : Mem} {s s1 s2 s3 rest : MS} {Q Q1 : Fl → Mem → Prop} {e : M D} {d : D} {b : D → Mem → Res Mem} {i j : Nat}
theorem seq_eq {m1 : Mem} (e1 : s1 m = .ok (.nx, m1)) : sSeq s1 s2 m = s2 m1 := by
  unfold sSeq
  rw [e1]
  rfl
theorem run_last (r : Run (sSeq s sPass) m Q) : Run s m Q := by
  obtain ⟨o, e, q⟩ := r
  unfold sSeq at e
  cases k : s m with
  | ok r =>
    rw [k] at e
    rcases r with ⟨f, m1⟩
    cases f <;> (cases e; exact ⟨_, k, q⟩)
  | exc x m1 => rw [k] at e; cases e
  | fail => rw [k] at e; cases e
theorem run_assoc (r : Run (sSeq s1 (sSeq s2 s3)) m Q) : Run (sSeq (sSeq s1 s2) s3) m Q := by
  obtain ⟨o, e, q⟩ := r
  refine ⟨o, ?_, q⟩
  rw [← e]
  unfold sSeq
  cases s1 m with
  | ok r => rcases r with ⟨f, m1⟩; cases f <;> rfl
  | exc x m1 => rfl
  | fail => rfl
theorem run_pass (r : Run rest m Q) : Run (sSeq sPass rest) m Q := r
theorem run_end (q : Q .nx m) : Run sPass m Q := ⟨_, rfl, q⟩
theorem run_asg (hm : Sx p h m) (x : YM p h e d p1 h1) (t : YG p1 h1 (b d) p2 h2) (k : ∀ m, Sx p2 h2 m → Run rest m Q) : Run (sSeq (sAsg e b) rest) m Q := by
  obtain ⟨m1, e1, q1⟩ := x m hm
  obtain ⟨m2, e2, q2⟩ := t m1 q1
  obtain ⟨o, e3, q3⟩ := k m2 q2
  refine ⟨o, ?_, q3⟩
  rw [seq_eq (m1 := m2), e3]
  unfold sAsg
  rw [e1, Res.bind_ok, e2]
  rfl
theorem run_ex (hm : Sx p h m) (x : YM p h e d p1 h1) (k : ∀ m, Sx p1 h1 m → Run rest m Q) : Run (sSeq (sEx e) rest) m Q := by
  obtain ⟨m1, e1, q1⟩ := x m hm
  obtain ⟨o, e3, q3⟩ := k m1 q1
  refine ⟨o, ?_, q3⟩
  rw [seq_eq (m1 := m1), e3]
  unfold sEx
  rw [e1]
  rfl
theorem run_rt (hm : Sx p h m) (x : YM p h e d p1 h1) (k : ∀ m, Sx p1 h1 m → Q (.rt d) m) : Run (sSeq (sRt e) rest) m Q := by
  obtain ⟨m1, e1, q1⟩ := x m hm
  refine ⟨(.rt d, m1), ?_, k m1 q1⟩
  unfold sSeq sRt
  rw [e1]
  rfl
theorem run_rtN (hm : Sx p h m) (k : Q (.rt .non) m) : Run (sSeq sRtN rest) m Q := ⟨(.rt .non, m), rfl, k⟩
theorem run_bk (k : Q .bk m) : Run (sSeq sBk rest) m Q := ⟨(.bk, m), rfl, k⟩
theorem run_ct (k : Q .ct m) : Run (sSeq sCt rest) m Q := ⟨(.ct, m), rfl, k⟩
theorem run_if {t : M Bool} {c : Bool} (hm : Sx p h m) (x : YB p h t c p1 h1) (k1 : c = true → ∀ m, Sx p1 h1 m → Run (sSeq s1 rest) m Q) (k2 : c = false → ∀ m, Sx p1 h1 m → Run (sSeq s2 rest) m Q) : Run (sSeq (sIf t s1 s2) rest) m Q := by
  obtain ⟨m1, e1, q1⟩ := x m hm
  have : sSeq (sIf t s1 s2) rest m = if c = true then sSeq s1 rest m1 else sSeq s2 rest m1 := by
    unfold sSeq sIf
    rw [e1, Res.bind_ok]
    dsimp only
    split <;> rfl
  cases c with
  | true =>
    obtain ⟨o, e3, q3⟩ := k1 rfl m1 q1
    exact ⟨o, this.trans e3, q3⟩
  | false =>
    obtain ⟨o, e3, q3⟩ := k2 rfl m1 q1
    exact ⟨o, this.trans e3, q3⟩
/-- behind s the state is known -/
theorem run_join (r : Run s m (fun f m' => f = .nx ∧ Sx p1 h1 m')) (k : ∀ m, Sx p1 h1 m → Run rest m Q) : Run (sSeq s rest) m Q := by
  obtain ⟨⟨f, m1⟩, e1, q1, q2⟩ := r
  dsimp only at q1 q2
  subst q1
  obtain ⟨o, e3, q3⟩ := k m1 q2
  exact ⟨o, (seq_eq e1).trans e3, q3⟩
theorem run_ifj {t : M Bool} {c : Bool} (hm : Sx p h m) (x : YB p h t c p2 h2) (k1 : c = true → ∀ m, Sx p2 h2 m → Run (sSeq s1 sPass) m (fun f m' => f = .nx ∧ Sx p1 h1 m')) (k2 : c = false → ∀ m, Sx p2 h2 m → Run (sSeq s2 sPass) m (fun f m' => f = .nx ∧ Sx p1 h1 m')) (k : ∀ m, Sx p1 h1 m → Run rest m Q) : Run (sSeq (sIf t s1 s2) rest) m Q :=
  run_join (run_last (run_if hm x k1 k2)) k
theorem run_aug {g : D → D → Res D} {d1 d2 : D} (hm : Sx p h m) (g0 : p[i]? = some (some d1)) (n0 : d1.defd = true) (u0 : d1.pure = true) (x : YM p h e d2 p1 h1) (a : g d1 d2 = .ok d) (u : d.pure = true) (l : Nat.blt i p1.length = true) (k : ∀ m, Sx (p1.set i (some d)) h1 m → Run rest m Q) : Run (sSeq (sAug i g e) rest) m Q := by
  obtain ⟨m1, e1, q1⟩ := x m hm
  obtain ⟨o, e3, q3⟩ := k ⟨m1.env.set i d, m1.hs⟩ ⟨q1.e.set i d, q1.h⟩
  refine ⟨o, ?_, q3⟩
  rw [seq_eq (m1 := ⟨m1.env.set i d, m1.hs⟩), e3]
  unfold sAug
  rw [YT.var g0 n0 m hm, Res.bind_ok, u0]
  show ((e m).bind _) = _
  rw [e1, Res.bind_ok, a, Res.bind_ok, u, decide_eq_true (by rw [q1.e.len]; exact Nat.le_of_ble_eq_true l)]
  rfl
theorem run_par {ma : M (List E.Arg)} {as : List E.Arg} {d1 d2 : D} (hm : Sx p h m) (x : YA p h ma as p1 h1) (v : vals as = .ok [d1, d2]) (li : Nat.blt i p1.length = true) (lj : Nat.blt j p1.length = true) (k : ∀ m, Sx ((p1.set i (some d1)).set j (some d2)) h1 m → Run rest m Q) : Run (sSeq (sPar i j ma) rest) m Q := by
  obtain ⟨m1, e1, q1⟩ := x m hm
  obtain ⟨m2, e2, q2⟩ := YG.name (d := d1) li m1 q1
  obtain ⟨m3, e3, q3⟩ := YG.name (d := d2) (p := p1.set i (some d1)) (by rw [List.length_set]; exact lj) m2 q2
  obtain ⟨o, e4, q4⟩ := k m3 q3
  refine ⟨o, ?_, q4⟩
  rw [seq_eq (m1 := m3), e4]
  unfold sPar
  rw [e1, Res.bind_ok, v, Res.bind_ok]
  dsimp only
  rw [e2, Res.bind_ok, e3]
  rfl
end

/-! ### loops -/
inductive Ex (R S : Type) where
  | go (s : S)
  | bk (s : S)
  | rt (r : R)
inductive Rs (R S : Type) where
  | go (s : S)
  | rt (r : R)
@[simp] def Rs.elim {R S T : Type} (g : S → Option T) (f : R → Option T) : Rs R S → Option T
  | .go s => g s
  | .rt r => f r
def forS {α S : Type} (tb : S → α → Option S) : List α → S → Option S
  | [], s => some s
  | x :: xs, s => (tb s x).bind (forS tb xs)
def forB {α S : Type} (tb : S → α → Option (Bool × S)) : List α → S → Option S
  | [], s => some s
  | x :: xs, s => (tb s x).bind fun r => if r.1 = true then forB tb xs r.2 else some r.2
def forE {α R S : Type} (tb : S → α → Option (Ex R S)) : List α → S → Option (Rs R S)
  | [], s => some (.go s)
  | x :: xs, s => (tb s x).bind fun
    | .go s => forE tb xs s
    | .bk s => some (.go s)
    | .rt r => some (.rt r)
def whS {S : Type} (c : S → Option (Bool × S)) (tb : S → Option S) : Nat → S → Option S
  | 0, _ => none
  | n + 1, s => (c s).bind fun r => if r.1 = true then (tb r.2).bind (whS c tb n) else some r.2
def whE {R S : Type} (c : S → Option (Bool × S)) (tb : S → Option (Ex R S)) : Nat → S → Option (Rs R S)
  | 0, _ => none
  | n + 1, s => (c s).bind fun r => if r.1 = true then (tb r.2).bind fun
      | .go s => whE c tb n s
      | .bk s => some (.go s)
      | .rt r => some (.rt r)
    else some (.go r.2)
/-- behind the body of a loop that may be left -/
def BP : Bool → Fl → Prop
  | true, f => f = .nx ∨ f = .ct
  | false, f => f = .bk
theorem BP.nx : BP true .nx := .inl rfl
theorem BP.ct : BP true .ct := .inr rfl
theorem BP.bk : BP false .bk := rfl
theorem ne_t {b : Bool} (h : b = false) : ¬ b = true := by rw [h]; decide
/-- behind a loop's body -/
def EP {R S : Type} (P : S → Pt) (H : S → List Ob) (PR : R → Fl → Mem → Prop) : Ex R S → Fl → Mem → Prop
  | .go s, f, m => (f = .nx ∨ f = .ct) ∧ Sx (P s) (H s) m
  | .bk s, f, m => f = .bk ∧ Sx (P s) (H s) m
  | .rt r, f, m => (∃ d, f = .rt d) ∧ PR r f m
def RP {R S : Type} (P : S → Pt) (H : S → List Ob) (PR : R → Fl → Mem → Prop) : Rs R S → Fl → Mem → Prop
  | .go s, f, m => f = .nx ∧ Sx (P s) (H s) m
  | .rt r, f, m => (∃ d, f = .rt d) ∧ PR r f m
section
variable {α R S : Type} {enc : α → D} {ok : Mem → Prop} {b : D → Mem → Res Mem} {body : MS} {P : S → Pt} {H : S → List Ob} {PR : R → Fl → Mem → Prop}
theorem forM_eq {x : D} {xs : List D} {m : Mem} : E.forM ok b body (x :: xs) m = Res.ifP (ok m) ((b x m).bind fun m1 => (body m1).bind fun o => match o.1 with
      | .nx => E.forM ok b body xs o.2
      | .ct => E.forM ok b body xs o.2
      | .bk => .ok (.nx, o.2)
      | .rt d => .ok (.rt d, o.2)) := rfl
theorem whileM_eq {t : M Bool} {n : Nat} {m : Mem} : whileM t body (n + 1) m = ((t m).bind fun r => if r.1 = true then (body r.2).bind fun o => match o.1 with
      | .nx => whileM t body n o.2
      | .ct => whileM t body n o.2
      | .bk => .ok (.nx, o.2)
      | .rt d => .ok (.rt d, o.2)
    else .ok (.nx, r.2)) := rfl
theorem forM_step {x : D} {xs : List D} {m m1 m2 : Mem} {f : Fl} (o : ok m) (e1 : b x m = .ok m1) (e2 : body m1 = .ok (f, m2)) (hf : f = .nx ∨ f = .ct) : E.forM ok b body (x :: xs) m = E.forM ok b body xs m2 := by
  rw [forM_eq, Res.ifP_true o, e1, Res.bind_ok, e2, Res.bind_ok]
  rcases hf with rfl | rfl <;> rfl
theorem st_tg {p p1 : Pt} {h h1 : List Ob} {d : D} {bb : D → Mem → Res Mem} {m : Mem} {Q : Fl → Mem → Prop} (g : YG p h (bb d) p1 h1) (hm : Sx p h m) (k : ∀ m, Sx p1 h1 m → Run body m Q) : ∃ m1, bb d m = .ok m1 ∧ Run body m1 Q := by
  obtain ⟨m1, e1, s1⟩ := g m hm
  exact ⟨m1, e1, k m1 s1⟩
theorem run_forE {tb : S → α → Option (Ex R S)} (hok : ∀ s m, Sx (P s) (H s) m → ok m)
    (step : ∀ s a e, tb s a = some e → ∀ m, Sx (P s) (H s) m → ∃ m1, b (enc a) m = .ok m1 ∧ Run body m1 (EP P H PR e)) :
    ∀ (xs : List α) (s : S) (e : Rs R S), forE tb xs s = some e → ∀ m, Sx (P s) (H s) m → ∃ o, E.forM ok b body (xs.map enc) m = .ok o ∧ RP P H PR e o.1 o.2
  | [], s, e, h, m, hm => by
    cases h
    exact ⟨(.nx, m), Res.ifP_true (hok s m hm), rfl, hm⟩
  | x :: xs, s, e, h, m, hm => by
    obtain ⟨r, hr, h⟩ := bnd h
    obtain ⟨m1, e1, ⟨f, m2⟩, e2, q⟩ := step s x r hr m hm
    cases r with
    | go s1 =>
      obtain ⟨o, e3, q3⟩ := run_forE hok step xs s1 e h m2 q.2
      exact ⟨o, (forM_step (hok s m hm) e1 e2 q.1).trans e3, q3⟩
    | bk s1 =>
      cases h
      obtain ⟨q1, q2⟩ := q
      dsimp only at q1
      subst q1
      refine ⟨(.nx, m2), ?_, rfl, q2⟩
      rw [List.map_cons, forM_eq, Res.ifP_true (hok s m hm), e1, Res.bind_ok, e2, Res.bind_ok]
    | rt r1 =>
      cases h
      obtain ⟨⟨d, q1⟩, q2⟩ := q
      dsimp only at q1 q2
      subst q1
      refine ⟨(.rt d, m2), ?_, ⟨d, rfl⟩, q2⟩
      rw [List.map_cons, forM_eq, Res.ifP_true (hok s m hm), e1, Res.bind_ok, e2, Res.bind_ok]
theorem run_forS {tb : S → α → Option S} (hok : ∀ s m, Sx (P s) (H s) m → ok m)
    (step : ∀ s a s1, tb s a = some s1 → ∀ m, Sx (P s) (H s) m → ∃ m1, b (enc a) m = .ok m1 ∧ Run body m1 (fun f m => (f = .nx ∨ f = .ct) ∧ Sx (P s1) (H s1) m)) :
    ∀ (xs : List α) (s s' : S), forS tb xs s = some s' → ∀ m, Sx (P s) (H s) m → ∃ m', E.forM ok b body (xs.map enc) m = .ok (.nx, m') ∧ Sx (P s') (H s') m'
  | [], s, s', h, m, hm => by
    cases h
    exact ⟨m, Res.ifP_true (hok s m hm), hm⟩
  | x :: xs, s, s', h, m, hm => by
    obtain ⟨s1, hr, h⟩ := bnd h
    obtain ⟨m1, e1, ⟨f, m2⟩, e2, q1, q2⟩ := step s x s1 hr m hm
    obtain ⟨m', e3, q3⟩ := run_forS hok step xs s1 s' h m2 q2
    exact ⟨m', (forM_step (hok s m hm) e1 e2 q1).trans e3, q3⟩
theorem run_forB {tb : S → α → Option (Bool × S)} (hok : ∀ s m, Sx (P s) (H s) m → ok m)
    (step : ∀ s a r, tb s a = some r → ∀ m, Sx (P s) (H s) m → ∃ m1, b (enc a) m = .ok m1 ∧ Run body m1 (fun f m => BP r.1 f ∧ Sx (P r.2) (H r.2) m)) :
    ∀ (xs : List α) (s s' : S), forB tb xs s = some s' → ∀ m, Sx (P s) (H s) m → ∃ m', E.forM ok b body (xs.map enc) m = .ok (.nx, m') ∧ Sx (P s') (H s') m'
  | [], s, s', h, m, hm => by
    cases h
    exact ⟨m, Res.ifP_true (hok s m hm), hm⟩
  | x :: xs, s, s', h, m, hm => by
    obtain ⟨⟨c, s1⟩, hr, h⟩ := bnd h
    obtain ⟨m1, e1, ⟨f, m2⟩, e2, q1, q2⟩ := step s x _ hr m hm
    cases c with
    | true =>
      obtain ⟨m', e3, q3⟩ := run_forB hok step xs s1 s' h m2 q2
      exact ⟨m', (forM_step (hok s m hm) e1 e2 q1).trans e3, q3⟩
    | false =>
      cases h
      replace q1 : f = .bk := q1
      subst q1
      refine ⟨m2, ?_, q2⟩
      rw [List.map_cons, forM_eq, Res.ifP_true (hok s m hm), e1, Res.bind_ok, e2, Res.bind_ok]
variable {t : M Bool}
theorem st_ts {p p1 p2 : Pt} {h h1 : List Ob} {c : Bool} {m : Mem} (x : YB p h t c p1 h1) (hm : Sx p h m) (w : Wk p2 p1) : ∃ m1, t m = .ok (c, m1) ∧ Sx p2 h1 m1 := by
  obtain ⟨m1, e1, s1⟩ := x m hm
  exact ⟨m1, e1, s1.wk w⟩
theorem run_whS {c : S → Option (Bool × S)} {tb : S → Option S} {P2 : S → Pt} {H2 : S → List Ob} (test : ∀ s r, c s = some r → ∀ m, Sx (P s) (H s) m → ∃ m1, t m = .ok (r.1, m1) ∧ Sx (P2 r.2) (H2 r.2) m1)
    (step : ∀ s s1, tb s = some s1 → ∀ m, Sx (P2 s) (H2 s) m → Run body m (fun f m => (f = .nx ∨ f = .ct) ∧ Sx (P s1) (H s1) m)) :
    ∀ (n : Nat) (s s' : S), whS c tb n s = some s' → ∀ m, Sx (P s) (H s) m → ∃ m', whileM t body n m = .ok (.nx, m') ∧ Sx (P2 s') (H2 s') m'
  | 0, s, s', h, m, hm => by cases h
  | n + 1, s, s', h, m, hm => by
    obtain ⟨⟨x, s1⟩, hc, h⟩ := bnd h
    obtain ⟨m1, e1, q1⟩ := test s _ hc m hm
    cases x with
    | false =>
      cases h
      refine ⟨m1, ?_, q1⟩
      rw [whileM_eq, e1]
      rfl
    | true =>
      obtain ⟨s2, hb, h⟩ := bnd h
      obtain ⟨⟨f, m2⟩, e2, q2, q3⟩ := step s1 s2 hb m1 q1
      obtain ⟨m', e3, q4⟩ := run_whS test step n s2 s' h m2 q3
      refine ⟨m', ?_, q4⟩
      rw [whileM_eq, e1, Res.bind_ok]
      show ((body m1).bind _) = _
      rw [e2, Res.bind_ok]
      dsimp only at q2
      rcases q2 with rfl | rfl <;> exact e3
theorem run_whE {c : S → Option (Bool × S)} {tb : S → Option (Ex R S)} (test : ∀ s r, c s = some r → ∀ m, Sx (P s) (H s) m → ∃ m1, t m = .ok (r.1, m1) ∧ Sx (P r.2) (H r.2) m1)
    (step : ∀ s e, tb s = some e → ∀ m, Sx (P s) (H s) m → Run body m (EP P H PR e)) :
    ∀ (n : Nat) (s : S) (e : Rs R S), whE c tb n s = some e → ∀ m, Sx (P s) (H s) m → ∃ o, whileM t body n m = .ok o ∧ RP P H PR e o.1 o.2
  | 0, s, e, h, m, hm => by cases h
  | n + 1, s, e, h, m, hm => by
    obtain ⟨⟨x, s1⟩, hc, h⟩ := bnd h
    obtain ⟨m1, e1, q1⟩ := test s _ hc m hm
    cases x with
    | false =>
      cases h
      refine ⟨(.nx, m1), ?_, rfl, q1⟩
      rw [whileM_eq, e1]
      rfl
    | true =>
      obtain ⟨r, hb, h⟩ := bnd h
      obtain ⟨⟨f, m2⟩, e2, q⟩ := step s1 r hb m1 q1
      have e0 : whileM t body (n + 1) m = (Res.ok (f, m2)).bind fun o => match o.1 with
        | .nx => whileM t body n o.2
        | .ct => whileM t body n o.2
        | .bk => .ok (.nx, o.2)
        | .rt d => .ok (.rt d, o.2) := by
        rw [whileM_eq, e1, Res.bind_ok]
        show ((body m1).bind _) = _
        rw [e2]
      cases r with
      | go s2 =>
        obtain ⟨q2, q3⟩ := q
        obtain ⟨o, e3, q4⟩ := run_whE test step n s2 e h m2 q3
        refine ⟨o, e0.trans ?_, q4⟩
        dsimp only at q2
        rcases q2 with rfl | rfl <;> exact e3
      | bk s2 =>
        cases h
        obtain ⟨q2, q3⟩ := q
        dsimp only at q2
        subst q2
        exact ⟨_, e0, rfl, q3⟩
      | rt r1 =>
        cases h
        obtain ⟨⟨d, q2⟩, q3⟩ := q
        dsimp only at q2 q3
        subst q2
        exact ⟨_, e0, ⟨d, rfl⟩, q3⟩
end
section
variable {p p' p1 p2 : Pt} {h h' h1 h2 : List Ob} {m : Mem} {rest : MS} {Q : Fl → Mem → Prop} {it : M E.It} {xs : List D} {ok : Mem → Prop} {b : D → Mem → Res Mem} {body : MS}
theorem run_for (hm : Sx p h m) (x : YI p h it xs ok p1 h1) (f : ∀ m, Sx p1 h1 m → ∃ m', E.forM ok b body xs m = .ok (.nx, m') ∧ Sx p2 h2 m') (k : ∀ m, Sx p2 h2 m → Run rest m Q) : Run (sSeq (sFor it b body) rest) m Q := by
  obtain ⟨m1, e1, q1⟩ := x m hm
  obtain ⟨m2, e2, q2⟩ := f m1 q1
  obtain ⟨o, e3, q3⟩ := k m2 q2
  refine ⟨o, ?_, q3⟩
  rw [seq_eq (m1 := m2), e3]
  unfold sFor
  rw [e1, Res.bind_ok, e2]
theorem run_forX {R S : Type} {P : S → Pt} {H : S → List Ob} {PR : R → Fl → Mem → Prop} {e : Rs R S} (hm : Sx p h m) (x : YI p h it xs ok p1 h1) (f : ∀ m, Sx p1 h1 m → ∃ o, E.forM ok b body xs m = .ok o ∧ RP P H PR e o.1 o.2)
    (k : ∀ s, e = .go s → ∀ m, Sx (P s) (H s) m → Run rest m Q) (k2 : ∀ r, e = .rt r → ∀ d m, PR r (.rt d) m → Q (.rt d) m) : Run (sSeq (sFor it b body) rest) m Q := by
  obtain ⟨m1, e1, q1⟩ := x m hm
  obtain ⟨⟨f, m2⟩, e2, q2⟩ := f m1 q1
  have e0 : sFor it b body m = .ok (f, m2) := by
    unfold sFor
    rw [e1, Res.bind_ok, e2]
  cases e with
  | go s =>
    obtain ⟨q3, q4⟩ := q2
    dsimp only at q3
    subst q3
    obtain ⟨o, e3, q3⟩ := k s rfl m2 q4
    exact ⟨o, (seq_eq e0).trans e3, q3⟩
  | rt r =>
    obtain ⟨⟨d, q3⟩, q4⟩ := q2
    dsimp only at q3 q4
    subst q3
    refine ⟨(.rt d, m2), ?_, k2 r rfl d m2 q4⟩
    unfold sSeq
    rw [e0]
    rfl
theorem run_wh {t : M Bool} {n : Nat} (hm : Sx p h m) (f : ∀ m, Sx p h m → ∃ m', whileM t body n m = .ok (.nx, m') ∧ Sx p2 h2 m') (k : ∀ m, Sx p2 h2 m → Run rest m Q) : Run (sSeq (whileM t body n) rest) m Q := by
  obtain ⟨m2, e2, q2⟩ := f m hm
  obtain ⟨o, e3, q3⟩ := k m2 q2
  exact ⟨o, (seq_eq e2).trans e3, q3⟩
theorem run_whX {R S : Type} {P : S → Pt} {H : S → List Ob} {PR : R → Fl → Mem → Prop} {e : Rs R S} {t : M Bool} {n : Nat} (hm : Sx p h m) (f : ∀ m, Sx p h m → ∃ o, whileM t body n m = .ok o ∧ RP P H PR e o.1 o.2)
    (k : ∀ s, e = .go s → ∀ m, Sx (P s) (H s) m → Run rest m Q) (k2 : ∀ r, e = .rt r → ∀ d m, PR r (.rt d) m → Q (.rt d) m) : Run (sSeq (whileM t body n) rest) m Q := by
  obtain ⟨⟨f, m2⟩, e0, q2⟩ := f m hm
  cases e with
  | go s =>
    obtain ⟨q3, q4⟩ := q2
    dsimp only at q3
    subst q3
    obtain ⟨o, e3, q3⟩ := k s rfl m2 q4
    exact ⟨o, (seq_eq e0).trans e3, q3⟩
  | rt r =>
    obtain ⟨⟨d, q3⟩, q4⟩ := q2
    dsimp only at q3 q4
    subst q3
    refine ⟨(.rt d, m2), ?_, k2 r rfl d m2 q4⟩
    unfold sSeq
    rw [e0]
    rfl
/-! what is walked -/
variable {e : M D} {d : D} {i : Nat}
def okT : Mem → Prop := fun _ => True
theorem YI.vL {o : Bool} (a : YM p h e (.lst o xs) p' h') (u : pureL xs = true) : YI p h (miV e) xs (fun _ => True) p' h' := fun m s => by
  obtain ⟨m1, e1, s1⟩ := a m s
  refine ⟨m1, ?_, s1⟩
  unfold miV
  rw [e1, Res.bind_ok]
  show ((Res.when (pureL xs) _).bind _) = _
  rw [u]
  rfl
theorem YI.vT (a : YM p h e (.tup xs) p' h') (u : pureL xs = true) : YI p h (miV e) xs (fun _ => True) p' h' := fun m s => by
  obtain ⟨m1, e1, s1⟩ := a m s
  refine ⟨m1, ?_, s1⟩
  unfold miV
  rw [e1, Res.bind_ok]
  show ((Res.when (pureL xs) _).bind _) = _
  rw [u]
  rfl
theorem YI.nL {o : Bool} (g : p[i]? = some (some (.lst o xs))) (u : pureL xs = true) : YI p h (miN i) xs (fun m' => m'.env[i]? = some (.lst o xs)) p h := fun m s => by
  refine ⟨m, ?_, s⟩
  unfold miN
  rw [YT.var g rfl m s, Res.bind_ok]
  show ((Res.when (pureL xs) _).bind _) = _
  rw [u]
  rfl
theorem YI.nT (g : p[i]? = some (some (.tup xs))) (u : pureL xs = true) : YI p h (miN i) xs (fun _ => True) p h := fun m s => by
  refine ⟨m, ?_, s⟩
  unfold miN
  rw [YT.var g rfl m s, Res.bind_ok]
  show ((Res.when (pureL xs) _).bind _) = _
  rw [u]
  rfl
/-- the whole numbers from lo on, below hi -/
def rangeI (lo hi : Int) : List Int := (List.range (hi - lo).toNat).map fun (k : Nat) => lo + (k : Int)
theorem rangeD_I (lo hi : Int) : rangeD lo (hi - lo).toNat = (rangeI lo hi).map D.int := by
  unfold rangeD rangeI
  rw [List.map_map]
  rfl
theorem b62_ok {i : Int} (h : -4611686018427387904 ≤ i ∧ i < 4611686018427387904) : b62 i = true := cdec_of h
variable {ma : M (List E.Arg)} {as : List E.Arg} {j k : Int}
theorem YI.r1 (a : YA p h ma as p' h') (c : Ct p' as [.int j]) (l : -4611686018427387904 ≤ j ∧ j < 4611686018427387904) : YI p h (miR1 ma) ((rangeI 0 j).map D.int) (fun _ => True) p' h' := fun m s => by
  obtain ⟨m1, e1, s1⟩ := a m s
  refine ⟨m1, ?_, s1⟩
  unfold miR1
  rw [e1, Res.bind_ok]
  dsimp only
  rw [c.eq s1.e, Res.bind_ok, ← rangeD_I]
  dsimp only
  rw [b62_ok l, Int.sub_zero]
  rfl
theorem YI.r2 (a : YA p h ma as p' h') (c : Ct p' as [.int j, .int k]) (l : -4611686018427387904 ≤ j ∧ j < 4611686018427387904) (l2 : -4611686018427387904 ≤ k ∧ k < 4611686018427387904) : YI p h (miR2 ma) ((rangeI j k).map D.int) (fun _ => True) p' h' := fun m s => by
  obtain ⟨m1, e1, s1⟩ := a m s
  refine ⟨m1, ?_, s1⟩
  unfold miR2
  rw [e1, Res.bind_ok]
  dsimp only
  rw [c.eq s1.e, Res.bind_ok, ← rangeD_I]
  dsimp only
  rw [b62_ok l, b62_ok l2]
  rfl
theorem YI.revV (a : YI p h (miV e) xs ok p' h') : YI p h (miRevV e) xs.reverse ok p' h' := fun m s => by
  obtain ⟨m1, e1, s1⟩ := a m s
  refine ⟨m1, ?_, s1⟩
  unfold miRevV
  rw [e1]
  rfl
theorem YI.revN (a : YI p h (miN i) xs ok p' h') : YI p h (miRevN i) xs.reverse ok p' h' := fun m s => by
  obtain ⟨m1, e1, s1⟩ := a m s
  refine ⟨m1, ?_, s1⟩
  unfold miRevN
  rw [e1]
  rfl
theorem YI.enV {o : Bool} (a : YM p h e (.lst o xs) p' h') (u : pureL xs = true) : YI p h (miEnV e) (enumD xs) (fun _ => True) p' h' := fun m s => by
  obtain ⟨m1, e1, s1⟩ := a m s
  refine ⟨m1, ?_, s1⟩
  unfold miEnV
  rw [e1, Res.bind_ok]
  show (Res.when (pureL xs) _) = _
  rw [u]
  rfl
theorem YI.enN {o : Bool} (g : p[i]? = some (some (.lst o xs))) (u : pureL xs = true) : YI p h (miEnN i) (enumD xs) (fun m' => m'.env[i]? = some (.lst o xs)) p h := fun m s => by
  refine ⟨m, ?_, s⟩
  unfold miEnN
  rw [YT.var g rfl m s, Res.bind_ok]
  show (Res.when (pureL xs) _) = _
  rw [u]
  rfl
theorem YI.cast {ys : List D} (a : YI p h it xs ok p' h') (e : xs = ys) : YI p h it ys ok p' h' := e ▸ a
end

/-! ### comprehensions -/
def undP : List Nat → Pt → Pt
  | [], p => p
  | v :: vs, p => (undP vs p).set v (some .und)
theorem undP_mt : ∀ (vs : List Nat) {p : Pt} {e : List D}, Mt p e → Mt (undP vs p) (undL vs e)
  | [], _, _, k => k
  | v :: vs, _, _, k => (undP_mt vs k).set v .und
def backP (p0 : Pt) : List Nat → Pt → Pt
  | [], p => p
  | v :: vs, p => backP p0 vs (p.set v ((p0.getD v none).map hidV))
theorem back_mt {p0 : Pt} {e0 : List D} (k0 : Mt p0 e0) : ∀ (vs : List Nat) {p : Pt} {e : List D}, Mt p e → Mt (backP p0 vs p) (restore e0 vs e)
  | [], _, _, k => k
  | v :: vs, p, e, k => by
    unfold backP restore
    refine back_mt k0 vs ?_
    cases h1 : p0.getD v none with
    | none => exact k.setn v _
    | some d =>
      have : e0.getD v .und = d := by
        rw [List.getD_eq_getElem?_getD] at h1
        cases h2 : p0[v]? with
        | none => rw [h2] at h1; cases h1
        | some x =>
          rw [h2] at h1
          cases h1
          rw [List.getD_eq_getElem?_getD, k0.get h2]
          rfl
      rw [this]
      exact k.set v _
def lcS {α β S : Type} (tb : S → α → Option (Option β × S)) : List α → S → Option (List β × S)
  | [], s => some ([], s)
  | x :: xs, s => (tb s x).bind fun r => (lcS tb xs r.2).bind fun q => some (match r.1 with
    | some y => (y :: q.1, q.2)
    | none => q)
noncomputable def lcSg {α β S : Type} (tb : S → α → Option (Option β × S)) (xs : List α) (s : S) : Option (List β × S) := gd (xs.length ≤ 16777216) (lcS tb xs s)
section
variable {α β S : Type} {enc : α → D} {eb : β → D} {ok : Mem → Prop} {vs : List Nat} {b : D → Mem → Res Mem} {tt : M Bool} {el : M D} {P : S → Pt} {H : S → List Ob}
/-- one turn -/
def LcStep (enc : α → D) (eb : β → D) (vs : List Nat) (b : D → Mem → Res Mem) (tt : M Bool) (el : M D) (P : S → Pt) (H : S → List Ob) (tb : S → α → Option (Option β × S)) : Prop :=
  ∀ s a r, tb s a = some r → ∀ m, Sx (P s) (H s) m → ∃ m1 c m2, b (enc a) m = .ok m1 ∧ tt m1 = .ok (c, m2) ∧ match r.1 with
    | none => c = false ∧ Sx (P r.2) (H r.2) ⟨undL vs m2.env, m2.hs⟩
    | some y => c = true ∧ ∃ m3, el m2 = .ok (eb y, m3) ∧ Sx (P r.2) (H r.2) ⟨undL vs m3.env, m3.hs⟩
theorem lcM_nil {acc : List D} {m : Mem} : lcM ok vs b tt el [] acc m = Res.ifP (ok m) (.ok (acc, m)) := rfl
theorem lcM_eq {x : D} {xs acc : List D} {m : Mem} : lcM ok vs b tt el (x :: xs) acc m = Res.ifP (ok m) ((b x m).bind fun m1 => (tt m1).bind fun c => if c.1 = true then
      (el c.2).bind fun r => Res.when (decide (acc.length < sizeLine)) (lcM ok vs b tt el xs (acc ++ [r.1]) ⟨undL vs r.2.env, r.2.hs⟩)
      else lcM ok vs b tt el xs acc ⟨undL vs c.2.env, c.2.hs⟩) := rfl
theorem lc_run {tb : S → α → Option (Option β × S)} (hok : ∀ s m, Sx (P s) (H s) m → ok m) (step : LcStep enc eb vs b tt el P H tb) :
    ∀ (xs : List α) (s : S) (ys : List β) (s' : S) (acc : List D), lcS tb xs s = some (ys, s') → acc.length + xs.length ≤ sizeLine → ∀ m, Sx (P s) (H s) m → ∃ m', lcM ok vs b tt el (xs.map enc) acc m = .ok (acc ++ ys.map eb, m') ∧ Sx (P s') (H s') m'
  | [], s, ys, s', acc, h, _, m, hm => by
    cases h
    exact ⟨m, by rw [List.map_nil, lcM_nil, Res.ifP_true (hok s m hm), List.map_nil, List.append_nil], hm⟩
  | x :: xs, s, ys, s', acc, h, l, m, hm => by
    obtain ⟨⟨y, s1⟩, hr, h⟩ := bnd h
    obtain ⟨⟨zs, s2⟩, hq, h⟩ := bnd h
    obtain ⟨m1, c, m2, e1, e2, k⟩ := step s x _ hr m hm
    rw [List.length_cons] at l
    rw [List.map_cons, lcM_eq, Res.ifP_true (hok s m hm), e1, Res.bind_ok, e2, Res.bind_ok]
    cases y with
    | none =>
      cases h
      obtain ⟨rfl, k⟩ := k
      exact lc_run hok step xs s1 _ _ acc hq (by omega) _ k
    | some y =>
      cases h
      obtain ⟨rfl, m3, e3, k⟩ := k
      obtain ⟨m', e4, q4⟩ := lc_run hok step xs s1 zs _ (acc ++ [eb y]) hq (by rw [List.length_append, List.length_singleton]; omega) _ k
      refine ⟨m', ?_, q4⟩
      show ((el m2).bind _) = _
      rw [e3, Res.bind_ok, decide_eq_true (by omega), List.map_cons]
      show lcM ok vs b tt el (xs.map enc) (acc ++ [eb y]) _ = _
      rw [e4, List.append_assoc]
      rfl
variable {p p' p1 : Pt} {h h' h1 : List Ob} {it : M E.It}
theorem lc_st {p p1 p2 : Pt} {h h1 h2 : List Ob} {d : D} {bb : D → Mem → Res Mem} {c : Bool} {m : Mem} {K : Bool → Mem → Prop} (g : YG p h (bb d) p1 h1) (t : YB p1 h1 tt c p2 h2) (hm : Sx p h m) (k : ∀ m, Sx p2 h2 m → K c m) :
    ∃ m1 c m2, bb d m = .ok m1 ∧ tt m1 = .ok (c, m2) ∧ K c m2 := by
  obtain ⟨m1, e1, s1⟩ := g m hm
  obtain ⟨m2, e2, s2⟩ := t m1 s1
  exact ⟨m1, c, m2, e1, e2, k m2 s2⟩
theorem lc_el {p p1 p2 : Pt} {h h1 h2 : List Ob} {d : D} {c : Bool} {m : Mem} (hm : Sx p h m) (hc : c = true) (e : YM p h el d p1 h1) (w : Wk p2 (undP vs p1)) (hh : h2 = h1) : c = true ∧ ∃ m3, el m = .ok (d, m3) ∧ Sx p2 h2 ⟨undL vs m3.env, m3.hs⟩ := by
  obtain ⟨m1, e1, s1⟩ := e m hm
  exact ⟨hc, m1, e1, (Sx.mk (undP_mt vs s1.e) (hh ▸ s1.h)).wk w⟩
theorem lc_no {p p2 : Pt} {h h2 : List Ob} {c : Bool} {m : Mem} (hm : Sx p h m) (hc : c = false) (w : Wk p2 (undP vs p)) (hh : h2 = h) : c = false ∧ Sx p2 h2 ⟨undL vs m.env, m.hs⟩ :=
  ⟨hc, (Sx.mk (undP_mt vs hm.e) (hh ▸ hm.h)).wk w⟩
theorem YM.lc {xs : List α} {ys : List β} {s s' : S} {tb : S → α → Option (Option β × S)} (x : YI p h it (xs.map enc) ok p1 h1) (hv : (vs.all fun v => decide (v < p1.length)) = true) (hu : undP vs p1 = P s ∧ h1 = H s)
    (hok : ∀ s m, Sx (P s) (H s) m → ok m) (step : LcStep enc eb vs b tt el P H tb) (hr0 : lcSg tb xs s = some (ys, s')) :
    YM p h (mLc it vs b tt el) (.lst true (ys.map eb)) (backP p1 vs (P s')) (H s') := fun m hm => by
  obtain ⟨m1, e1, s1⟩ := x m hm
  obtain ⟨hu, rfl⟩ := hu
  obtain ⟨l, hr⟩ := gd_some hr0
  have k : Sx (P s) (H s) ⟨undL vs m1.env, m1.hs⟩ := ⟨hu ▸ undP_mt vs s1.e, s1.h⟩
  obtain ⟨m2, e2, s2⟩ := lc_run hok step xs s ys s' [] hr (by rw [sizeLine_eq]; simpa using l) _ k
  refine ⟨⟨restore m1.env vs m2.env, m2.hs⟩, ?_, ?_, s2.h⟩
  · unfold mLc
    rw [e1, Res.bind_ok]
    dsimp only
    have : (vs.all fun v => decide (v < m1.env.length)) = true := by rw [s1.e.len]; exact hv
    rw [this, e2]
    rfl
  · exact back_mt s1.e vs s2.e
end
def lcO {α β : Type} (tb : α → Option (Option β)) : List α → Option (List β)
  | [] => some []
  | x :: xs => (tb x).bind fun r => (lcO tb xs).bind fun q => some (match r with
    | some y => y :: q
    | none => q)
noncomputable def lcOg {α β : Type} (tb : α → Option (Option β)) (xs : List α) : Option (List β) := gd (xs.length ≤ 16777216) (lcO tb xs)
noncomputable def lcT {α β : Type} (t : α → Bool) (f : α → β) (xs : List α) : Option (List β) := gd (xs.length ≤ 16777216) (some ((xs.filter t).map f))
theorem lcO_S (tb : α → Option (Option β)) : ∀ (xs : List α) (ys : List β), lcO tb xs = some ys → lcS (fun (_ : Unit) a => (tb a).map fun r => (r, ())) xs () = some (ys, ())
  | [], ys, e => by cases e; rfl
  | x :: xs, ys, e => by
    obtain ⟨r, e1, e⟩ := bnd e
    obtain ⟨q, e2, e⟩ := bnd e
    cases e
    rw [lcS, e1]
    show ((lcS _ xs ()).bind _) = _
    rw [lcO_S tb xs q e2]
    cases r <;> rfl
section
variable {α β S : Type} {enc : α → D} {eb : β → D} {ok : Mem → Prop} {vs : List Nat} {b : D → Mem → Res Mem} {tt : M Bool} {el : M D} {P : S → Pt} {H : S → List Ob} {p p' p1 : Pt} {h h' h1 : List Ob} {it : M E.It}
theorem YM.lcO {xs : List α} {ys : List β} {pL : Pt} {tb : α → Option (Option β)} (x : YI p h it (xs.map enc) ok p1 h1) (hv : (vs.all fun v => decide (v < p1.length)) = true) (hu : undP vs p1 = pL)
    (hok : ∀ m, Sx pL h1 m → ok m)
    (step : ∀ a r, tb a = some r → ∀ m, Sx pL h1 m → ∃ m1 c m2, b (enc a) m = .ok m1 ∧ tt m1 = .ok (c, m2) ∧ match r with
      | none => c = false ∧ Sx pL h1 ⟨undL vs m2.env, m2.hs⟩
      | some y => c = true ∧ ∃ m3, el m2 = .ok (eb y, m3) ∧ Sx pL h1 ⟨undL vs m3.env, m3.hs⟩) (hr : lcOg tb xs = some ys) :
    YM p h (mLc it vs b tt el) (.lst true (ys.map eb)) (backP p1 vs pL) h1 :=
  YM.lc (S := Unit) (P := fun _ => pL) (H := fun _ => h1) x hv ⟨hu, rfl⟩ (fun _ => hok) (fun s a r e m hm => by
    obtain ⟨r1, e1, e⟩ := Option.map_eq_some_iff.mp e
    cases e
    exact step a r1 e1 m hm) ((gd_of (gd_some hr).1).trans (lcO_S tb xs ys (gd_some hr).2))
theorem lcO_T (t : α → Bool) (f : α → β) : ∀ xs : List α, lcO (fun a => some (if t a = true then some (f a) else none)) xs = some ((xs.filter t).map f)
  | [] => rfl
  | x :: xs => by
    rw [lcO, Option.bind_some, lcO_T t f xs, List.filter_cons]
    cases h : t x <;> simp
theorem YM.lcT {xs : List α} {pL : Pt} {pG pC pE : α → Pt} {t : α → Bool} {f : α → β} (x : YI p h it (xs.map enc) ok p1 h1) (hv : (vs.all fun v => decide (v < p1.length)) = true) (hu : undP vs p1 = pL)
    (hok : ∀ m, Sx pL h1 m → ok m) (g : ∀ a, YG pL h1 (b (enc a)) (pG a) h1) (c : ∀ a, YB (pG a) h1 tt (t a) (pC a) h1) (e : ∀ a, t a = true → YM (pC a) h1 el (eb (f a)) (pE a) h1)
    (w1 : ∀ a, undP vs (pC a) = pL) (w2 : ∀ a, undP vs (pE a) = pL) {ys : List β} (hr : Y.lcT t f xs = some ys) :
    YM p h (mLc it vs b tt el) (.lst true (ys.map eb)) (backP p1 vs pL) h1 :=
  YM.lcO (tb := fun a => some (if t a = true then some (f a) else none)) x hv hu hok (fun a r er m hm => by
    obtain ⟨m1, e1, s1⟩ := g a m hm
    obtain ⟨m2, e2, s2⟩ := c a m1 s1
    refine ⟨m1, t a, m2, e1, e2, ?_⟩
    cases er
    by_cases ht : t a = true
    · rw [if_pos ht]
      obtain ⟨m3, e3, s3⟩ := e a ht m2 s2
      exact ⟨ht, m3, e3, w2 a ▸ undP_mt vs s3.e, s3.h⟩
    · rw [if_neg ht]
      exact ⟨Bool.eq_false_iff.mpr ht, w1 a ▸ undP_mt vs s2.e, s2.h⟩) ((gd_of (gd_some hr).1).trans ((lcO_T t f xs).trans (gd_some hr).2))
end

/-! ### defs -/
structure FP (d : D) (pin : List Nat) (ds ds' : List D) (h' : List Ob) (f : Fl) (m : Mem) : Prop where
  r : D.rtv f = .ok d
  o : outs pin 0 ds m.env = .ok ds'
  h : m.hs = h'
inductive Out (pin : List Nat) : Nat → List D → Pt → List D → Prop
  | nil {j : Nat} {p : Pt} : Out pin j [] p []
  | pin {j : Nat} {d d' : D} {ds ds' : List D} {p : Pt} : pin.contains j = true → d'.defd = true → Out pin (j + 1) ds p ds' → Out pin j (d :: ds) (some d' :: p) (d' :: ds')
  | keep {j : Nat} {d : D} {x : Option D} {ds ds' : List D} {p : Pt} : pin.contains j = false → d.pure = true → Out pin (j + 1) ds p ds' → Out pin j (d :: ds) (x :: p) (d :: ds')
theorem Out.eq {pin : List Nat} {j : Nat} {ds ds' : List D} {p : Pt} (o : Out pin j ds p ds') : ∀ {e : List D}, Mt p e → outs pin j ds e = .ok ds' := by
  induction o with
  | nil => intro e _; unfold outs; rfl
  | pin c n _ ih =>
    intro e k
    cases k with
    | one k =>
      unfold outs
      rw [if_pos c, n, ih k]
      rfl
  | keep c n _ ih =>
    intro e k
    cases k with
    | any k =>
      unfold outs
      rw [c, n, ih k]
      rfl
    | one k =>
      unfold outs
      rw [c, n, ih k]
      rfl
theorem run_def {n N : Nat} {pin : List Nat} {body : MS} {ds ds' : List D} {h h' : List Ob} {d : D} {p : Pt} (hl : ds.length = n) (hp : (ds ++ List.replicate (N - n) D.und).map some = p) (r : ∀ m, Sx p h m → Run body m (FP d pin ds ds' h')) : mDef n N pin body ds h = .ok (d, ds', h') := by
  obtain ⟨⟨f, m⟩, e, q⟩ := r ⟨ds ++ List.replicate (N - n) .und, h⟩ ⟨hp ▸ Mt.refl _, rfl⟩
  unfold mDef
  rw [decide_eq_true hl]
  show ((body _).bind _) = _
  have q1 := q.r
  have q2 := q.o
  have q3 := q.h
  dsimp only at q1 q2 q3
  rw [e, Res.bind_ok]
  dsimp only
  rw [q1, Res.bind_ok, q2, Res.bind_ok, q3]
end Y
/-! YC: typed data and operators -/
namespace Y
open PySem E
open L2 (ixN atI)
variable {α β γ δ ε ζ : Type}
/-! embeddings -/
abbrev eN : Unit → D := fun _ => .non
abbrev eL (o : Bool) (e : α → D) : List α → D := fun xs => .lst o (xs.map e)
abbrev eQ (e : α → D) : List α → D := fun xs => .tup (xs.map e)
def eO (e : α → D) : Option α → D
  | none => .non
  | some a => e a
@[simp] theorem eO_none (e : α → D) : eO e none = .non := rfl
@[simp] theorem eO_some (e : α → D) (a : α) : eO e (some a) = e a := rfl
/-! purity -/
theorem pun : pureL [] = true := rfl
theorem puc {d : D} {ds : List D} (a : d.pure = true) (b : pureL ds = true) : pureL (d :: ds) = true := by rw [pureL, a, b]; rfl
theorem puT {ds : List D} (a : pureL ds = true) : (D.tup ds).pure = true := by unfold D.pure; exact a
theorem puM {e : α → D} (a : ∀ x, (e x).pure = true) (xs : List α) : pureL (xs.map e) = true := by
  induction xs with
  | nil => rfl
  | cons x xs ih => exact puc (a x) ih
theorem puF {ds : List D} (a : pureL ds = true) : (D.lst false ds).pure = true := by unfold D.pure; rw [a]; rfl
theorem npO {ds : List D} : (D.lst true ds).pure = false := by unfold D.pure; rfl
theorem puO {e : α → D} (a : ∀ x, (e x).pure = true) : ∀ x, (eO e x).pure = true
  | none => rfl
  | some x => a x
theorem fzO {ds : List D} (a : pureL ds = true) : (D.lst true ds).fz = .lst false ds := by unfold D.fz; rw [fzL_pure _ a]
theorem deP {d : D} (a : d.pure = true) : d.defd = true := defd_pure a
theorem fz1 {d d' : D} {ds ds' : List D} (a : d.fz = d') (b : fzL ds = ds') : fzL (d :: ds) = d' :: ds' := by rw [fzL, a, b]
/-! equality -/
structure Fa (n : Nat) (e : α → D) : Prop where
  ex : ∃ py : α → PyData, (∀ a, (e a).toPy = some (py a)) ∧ (∀ a, (py a).plain = true) ∧ (∀ a, (py a).depth ≤ n) ∧ ∀ a b, PyData.eqv (py a) (py b) = true ↔ a = b
theorem Fa.int : Fa 0 D.int := ⟨PyData.int, fun _ => by rw [D.toPy], fun _ => by simp [PyData.plain], fun _ => by simp [PyData.depth], fun a b => by simp [PyData.eqv]⟩
theorem Fa.bl : Fa 0 D.bl := ⟨PyData.bool, fun _ => by rw [D.toPy], fun _ => by simp [PyData.plain], fun _ => by simp [PyData.depth], fun a b => by simp [PyData.eqv]⟩
theorem Fa.str : Fa 0 D.str := ⟨PyData.str, fun _ => by rw [D.toPy], fun _ => by simp [PyData.plain], fun _ => by simp [PyData.depth], fun a b => by simp [PyData.eqv]⟩
theorem Fa.non : Fa 0 eN := ⟨fun _ => PyData.none, fun _ => by rw [D.toPy], fun _ => by simp [PyData.plain], fun _ => by simp [PyData.depth], fun a b => by simp [PyData.eqv]⟩
theorem Fa.mono {n m : Nat} {e : α → D} (h : Fa n e) (l : n ≤ m) : Fa m e := by
  obtain ⟨py, h1, h2, h3, h4⟩ := h.ex
  exact ⟨py, h1, h2, fun a => Nat.le_trans (h3 a) l, h4⟩
theorem toPyL_map {e : α → D} {py : α → PyData} (h : ∀ a, (e a).toPy = some (py a)) (xs : List α) : toPyL (xs.map e) = some (xs.map py) := by
  induction xs with
  | nil => rfl
  | cons x xs ih => rw [List.map_cons, toPyL, h x, ih]; rfl
theorem plainAll_map {py : α → PyData} (h : ∀ a, (py a).plain = true) (xs : List α) : PyData.plainAll (xs.map py) = true := by
  induction xs with
  | nil => rfl
  | cons x xs ih => rw [List.map_cons, PyData.plainAll, h x, ih]; rfl
theorem depthAll_map {n : Nat} {py : α → PyData} (h : ∀ a, (py a).depth ≤ n) (xs : List α) : PyData.depthAll (xs.map py) ≤ n := by
  induction xs with
  | nil => simp [PyData.depthAll]
  | cons x xs ih => rw [List.map_cons, PyData.depthAll]; exact Nat.max_le.mpr ⟨h x, ih⟩
theorem eqvAll_map {py : α → PyData} (h : ∀ a b, PyData.eqv (py a) (py b) = true ↔ a = b) : ∀ (xs ys : List α), PyData.eqvAll (xs.map py) (ys.map py) = true ↔ xs = ys
  | [], [] => by simp [PyData.eqvAll]
  | x :: xs, [] => by simp [PyData.eqvAll]
  | [], y :: ys => by simp [PyData.eqvAll]
  | x :: xs, y :: ys => by rw [List.map_cons, List.map_cons, PyData.eqvAll, Bool.and_eq_true, h, eqvAll_map h xs ys, List.cons.injEq]
theorem Fa.lst {n : Nat} {e : α → D} (o : Bool) (h : Fa n e) : Fa (n + 1) (eL o e) := by
  obtain ⟨py, h1, h2, h3, h4⟩ := h.ex
  refine ⟨fun xs => .list (xs.map py), fun xs => by rw [D.toPy, toPyL_map h1]; rfl, fun xs => by rw [PyData.plain, plainAll_map h2], fun xs => by rw [PyData.depth]; exact Nat.succ_le_succ (depthAll_map h3 xs), fun a b => by rw [PyData.eqv, eqvAll_map h4]⟩
theorem Fa.tup {n : Nat} {e : α → D} (h : Fa n e) : Fa (n + 1) (eQ e) := by
  obtain ⟨py, h1, h2, h3, h4⟩ := h.ex
  refine ⟨fun xs => .tuple (xs.map py), fun xs => by rw [D.toPy, toPyL_map h1]; rfl, fun xs => by rw [PyData.plain, plainAll_map h2], fun xs => by rw [PyData.depth]; exact Nat.succ_le_succ (depthAll_map h3 xs), fun a b => by rw [PyData.eqv, eqvAll_map h4]⟩
/-- written tuples: lists of data that stand for an α -/
structure Fas (n : Nat) (e : α → List D) : Prop where
  ex : ∃ py : α → List PyData, (∀ a, toPyL (e a) = some (py a)) ∧ (∀ a, PyData.plainAll (py a) = true) ∧ (∀ a, PyData.depthAll (py a) ≤ n) ∧ ∀ a b, PyData.eqvAll (py a) (py b) = true ↔ a = b
theorem Fas.nil : Fas (α := Unit) 0 (fun _ => []) := ⟨fun _ => [], fun _ => by rw [toPyL], fun _ => by simp [PyData.plainAll], fun _ => by simp [PyData.depthAll], fun a b => by simp [PyData.eqvAll]⟩
theorem Fas.one {n : Nat} {e : α → D} (h : Fa n e) : Fas n (fun x => [e x]) := by
  obtain ⟨py, h1, h2, h3, h4⟩ := h.ex
  exact ⟨fun x => [py x], fun x => by rw [toPyL, h1, toPyL], fun x => by simp [PyData.plainAll, h2], fun x => by simp [PyData.depthAll, h3], fun a b => by simp [PyData.eqvAll, h4]⟩
theorem Fas.cons {n m : Nat} {e : α → D} {f : β → List D} (h : Fa n e) (k : Fas m f) : Fas (max n m) (fun x : α × β => e x.1 :: f x.2) := by
  obtain ⟨py, h1, h2, h3, h4⟩ := h.ex
  obtain ⟨pz, k1, k2, k3, k4⟩ := k.ex
  refine ⟨fun x => py x.1 :: pz x.2, fun x => by rw [toPyL, h1, k1], fun x => by rw [PyData.plainAll, h2, k2]; rfl, fun x => ?_, fun a b => by rw [PyData.eqvAll, Bool.and_eq_true, h4, k4, Prod.ext_iff]⟩
  rw [PyData.depthAll]
  exact Nat.max_le.mpr ⟨Nat.le_trans (h3 _) (Nat.le_max_left ..), Nat.le_trans (k3 _) (Nat.le_max_right ..)⟩
theorem Fas.fa {n : Nat} {e : α → List D} (h : Fas n e) : Fa (n + 1) (fun x => .tup (e x)) := by
  obtain ⟨py, h1, h2, h3, h4⟩ := h.ex
  exact ⟨fun x => .tuple (py x), fun x => by rw [D.toPy, h1]; rfl, fun x => by rw [PyData.plain, h2], fun x => by rw [PyData.depth]; exact Nat.succ_le_succ (h3 x), fun a b => by rw [PyData.eqv, h4]⟩
theorem toPy_none {d : D} (h : d.toPy = some .none) : d = .non := by
  cases d <;> first | rfl | simp [D.toPy] at h
theorem eqv_nl {p : PyData} (h : p ≠ .none) : PyData.eqv .none p = false := by
  cases p <;> first | exact absurd rfl h | rw [PyData.eqv]
theorem eqv_nr {p : PyData} (h : p ≠ .none) : PyData.eqv p .none = false := by
  cases p <;> first | exact absurd rfl h | rw [PyData.eqv]
theorem Fa.opt {n : Nat} {e : α → D} (h : Fa n e) (nn : ∀ a, e a ≠ .non) : Fa n (eO e) := by
  obtain ⟨py, h1, h2, h3, h4⟩ := h.ex
  have hn : ∀ a, py a ≠ .none := fun a z => by
    have := h1 a
    rw [z] at this
    exact nn a (toPy_none this)
  refine ⟨fun x => match x with
    | none => .none
    | some a => py a, fun x => by cases x with
    | none => rw [eO_none, D.toPy]
    | some a => rw [eO_some, h1], fun x => by cases x with
    | none => simp [PyData.plain]
    | some a => exact h2 a, fun x => by cases x with
    | none => simp [PyData.depth]
    | some a => exact h3 a, fun a b => ?_⟩
  cases a with
  | none => cases b with
    | none => simp [PyData.eqv]
    | some b =>
      show PyData.eqv .none (py b) = true ↔ _
      rw [eqv_nl (hn b)]
      simp
  | some a => cases b with
    | none =>
      show PyData.eqv (py a) .none = true ↔ _
      rw [eqv_nr (hn a)]
      simp
    | some b => simp [h4]
theorem shp_ok {p : PyData} (h : p.plain = true) (d : p.depth ≤ 64) : shp p = true := by
  unfold shp
  rw [h, decide_eq_true d]
  rfl
variable [DecidableEq α]
theorem eq_fa {n : Nat} {e : α → D} (h : Fa n e) (l : n ≤ 64) (a b : α) : dEq (e a) (e b) = .ok (.bl (decide (a = b))) := by
  obtain ⟨py, h1, h2, h3, h4⟩ := h.ex
  unfold dEq
  rw [h1, h1]
  dsimp only
  rw [shp_ok (h2 a) (Nat.le_trans (h3 a) l), shp_ok (h2 b) (Nat.le_trans (h3 b) l)]
  have : PyData.eqv (py a) (py b) = decide (a = b) := by
    rw [Bool.eq_iff_iff, h4, decide_eq_true_eq]
  rw [this]
  rfl
theorem ne_fa {n : Nat} {e : α → D} (h : Fa n e) (l : n ≤ 64) (a b : α) : dNe (e a) (e b) = .ok (.bl (!decide (a = b))) := by
  obtain ⟨py, h1, h2, h3, h4⟩ := h.ex
  unfold dNe
  rw [h1, h1]
  dsimp only
  rw [shp_ok (h2 a) (Nat.le_trans (h3 a) l), shp_ok (h2 b) (Nat.le_trans (h3 b) l)]
  have : PyData.eqv (py a) (py b) = decide (a = b) := by
    rw [Bool.eq_iff_iff, h4, decide_eq_true_eq]
  rw [this]
  rfl
/-- a is among xs -/
def memB (a : α) (xs : List α) : Bool := decide (a ∈ xs)
@[simp] theorem memB_iff {a : α} {xs : List α} : memB a xs = true ↔ a ∈ xs := decide_eq_true_iff
theorem inOk_fa {n : Nat} {e : α → D} (h : Fa n e) (l : n ≤ 64) (a : α) (xs : List α) : inOk (e a) (xs.map e) = true ∧ memD (e a) (xs.map e) = decide (a ∈ xs) := by
  obtain ⟨py, h1, h2, h3, h4⟩ := h.ex
  constructor
  · unfold inOk
    rw [h1, toPyL_map h1]
    dsimp only
    rw [shp_ok (h2 a) (Nat.le_trans (h3 a) l), plainAll_map h2]
    rfl
  · unfold memD
    induction xs with
    | nil => rfl
    | cons x xs ih =>
      rw [List.map_cons, List.any_cons, ih]
      have : eqP (e x) (e a) = decide (a = x) := by
        unfold eqP
        rw [h1, h1]
        dsimp only
        rw [Bool.eq_iff_iff, h4, decide_eq_true_eq]
        exact eq_comm
      rw [this, Bool.eq_iff_iff, Bool.or_eq_true, decide_eq_true_eq, decide_eq_true_eq, decide_eq_true_eq, List.mem_cons]
theorem in_faL {n : Nat} {e : α → D} {o : Bool} (h : Fa n e) (l : n ≤ 64) (a : α) (xs : List α) : dIn (e a) (.lst o (xs.map e)) = .ok (.bl (memB a xs)) := by
  obtain ⟨h1, h2⟩ := inOk_fa h l a xs
  show Res.when _ _ = _
  rw [h1, h2]
  rfl
theorem in_faQ {n : Nat} {e : α → D} (h : Fa n e) (l : n ≤ 64) (a : α) (xs : List α) : dIn (e a) (.tup (xs.map e)) = .ok (.bl (memB a xs)) := by
  obtain ⟨h1, h2⟩ := inOk_fa h l a xs
  show Res.when _ _ = _
  rw [h1, h2]
  rfl
theorem notin_faL {n : Nat} {e : α → D} {o : Bool} (h : Fa n e) (l : n ≤ 64) (a : α) (xs : List α) : dNotIn (e a) (.lst o (xs.map e)) = .ok (.bl (!memB a xs)) := by
  obtain ⟨h1, h2⟩ := inOk_fa h l a xs
  show Res.when _ _ = _
  rw [h1, h2]
  rfl
theorem notin_faQ {n : Nat} {e : α → D} (h : Fa n e) (l : n ≤ 64) (a : α) (xs : List α) : dNotIn (e a) (.tup (xs.map e)) = .ok (.bl (!memB a xs)) := by
  obtain ⟨h1, h2⟩ := inOk_fa h l a xs
  show Res.when _ _ = _
  rw [h1, h2]
  rfl
omit [DecidableEq α]
/-! guards -/
abbrev Sm (i : Int) : Prop := -18446744073709551616 < i ∧ i < 18446744073709551616
noncomputable def mulO (i j : Int) : Option Int := gd (Sm i ∨ Sm j) (some (i * j))
theorem mul_O {i j k : Int} (h : mulO i j = some k) : dMul (.int i) (.int j) = .ok (.int k) := by
  obtain ⟨h1, h2⟩ := gd_some h
  cases h2
  show Res.when (small i || small j) _ = _
  rcases h1 with h1 | h1
  · rw [show small i = true from cdec_of h1]; rfl
  · rw [show small j = true from cdec_of h1, Bool.or_true]; rfl
theorem mul_l {i j : Int} (h : Sm i) : dMul (.int i) (.int j) = .ok (.int (i * j)) := by
  show Res.when (small i || small j) _ = _
  rw [show small i = true from cdec_of h]; rfl
theorem mul_r {i j : Int} (h : Sm j) : dMul (.int i) (.int j) = .ok (.int (i * j)) := by
  show Res.when (small i || small j) _ = _
  rw [show small j = true from cdec_of h, Bool.or_true]; rfl
theorem wide_of {j : Int} (h : j < 18446744073709551616) : wide j = true := cdec_of (by
  have : 18446744073709551616 ≤ 2 ^ 8000 := by decide +kernel
  generalize 2 ^ 8000 = N at this ⊢
  omega)
noncomputable def fdivO (i j : Int) : Option Int := gd (0 < j ∧ j < 18446744073709551616) (some (i / j))
theorem fdiv_k {i j : Int} (h : 0 < j ∧ j < 18446744073709551616) : dFdiv (.int i) (.int j) = .ok (.int (i / j)) := by
  show Res.when (decide (0 < j) && wide j) _ = _
  rw [decide_eq_true h.1, wide_of h.2]; rfl
theorem fdiv_O {i j k : Int} (h : fdivO i j = some k) : dFdiv (.int i) (.int j) = .ok (.int k) := by
  obtain ⟨h1, h2⟩ := gd_some h
  cases h2
  exact fdiv_k h1
def modO (i j : Int) : Option Int := if 0 < j then some (i % j) else none
theorem mod_k {i j : Int} (h : 0 < j) : dMod (.int i) (.int j) = .ok (.int (i % j)) := by
  show Res.when (decide (0 < j)) _ = _
  rw [decide_eq_true h]; rfl
theorem mod_O {i j k : Int} (h : modO i j = some k) : dMod (.int i) (.int j) = .ok (.int k) := by
  unfold modO at h
  split at h
  · rename_i h1; cases h; exact mod_k h1
  · cases h
theorem pow_k {i : Int} {j : Nat} (k : Int) (h : decide (j ≤ 1000000 ∧ i.natAbs < 2 ^ 64) = true) (e : i ^ j = k) : dPow (.int i) (.int (j : Int)) = .ok (.int k) := by
  have h := of_decide_eq_true h
  show Res.when (decide (0 ≤ (j : Int) ∧ (j : Int) ≤ 1000000 ∧ i.natAbs < 2 ^ 64)) (Res.ok (D.int (i ^ (j : Int).toNat))) = _
  rw [decide_eq_true ⟨by omega, by omega, h.2⟩, Int.toNat_natCast, e]
  rfl
/-! lists -/
theorem atI_map {e : α → D} (xs : List α) (k : Int) : atI (xs.map e) k = (atI xs k).map e := by
  unfold atI
  rw [List.length_map]
  cases ixN xs.length k <;> simp
theorem ix_L {e : α → D} {o : Bool} {xs : List α} {k : Int} {a : α} (h : atI xs k = some a) : dIx (.lst o (xs.map e)) (.int k) = .ok (e a) := by
  show Res.of (atI _ _) = _
  rw [atI_map, h]
  rfl
theorem ix_Q {e : α → D} {xs : List α} {k : Int} {a : α} (h : atI xs k = some a) : dIx (.tup (xs.map e)) (.int k) = .ok (e a) := by
  show Res.of (atI _ _) = _
  rw [atI_map, h]
  rfl
/-- xs[k] = a -/
def setI (xs : List α) (k : Int) (a : α) : Option (List α) := (ixN xs.length k).map fun j => xs.set j a
theorem setI_some {xs ys : List α} {k : Int} {a : α} (h : setI xs k a = some ys) : ∃ j, ixN xs.length k = some j ∧ xs.set j a = ys := Option.map_eq_some_iff.mp h
theorem YG.subL {p : Pt} {h : List Ob} {q : MQ D} {i : Nat} {k : Int} {a : α} {xs ys : List α} {e : α → D} (x : YT p h q (.int k)) (g0 : p[i]? = some (some (.lst true (xs.map e)))) (hs : setI xs k a = some ys) : YG p h (bSub i q (e a)) (p.set i (some (.lst true (ys.map e)))) h := by
  obtain ⟨j, h1, h2⟩ := setI_some hs
  exact YG.sub x g0 (by rw [List.length_map]; exact h1) (by rw [← h2, List.map_set])
noncomputable def appO (xs : List α) (a : α) : Option (List α) := gd (xs.length < 16777216) (some (xs ++ [a]))
theorem YM.appL {p p' : Pt} {h h' : List Ob} {i : Nat} {x : M D} {d1 : D} {e : α → D} {xs ys : List α} {a : α} (g0 : p[i]? = some (some d1)) (n0 : d1.isL = true) (b : YM p h x (e a) p' h') (g1 : p'[i]? = some (some (.lst true (xs.map e)))) (hs : appO xs a = some ys) :
    YM p h (mAppN i x) .non (p'.set i (some (.lst true (ys.map e)))) h' := by
  obtain ⟨h1, h2⟩ := gd_some hs
  cases h2
  have := YM.app g0 n0 b g1 (by rw [List.length_map]; exact h1)
  rw [List.map_append]
  exact this
noncomputable def catO (xs ys : List α) : Option (List α) := gd (xs.length + ys.length ≤ 16777216) (some (xs ++ ys))
theorem cat_L {e : α → D} (pu : ∀ x, (e x).pure = true) {o o' : Bool} {xs ys zs : List α} (h : catO xs ys = some zs) : dAdd (.lst o (xs.map e)) (.lst o' (ys.map e)) = .ok (.lst true (zs.map e)) := by
  obtain ⟨h1, h2⟩ := gd_some h
  cases h2
  show Res.when _ _ = _
  rw [puM pu, puM pu, List.length_map, List.length_map, decide_eq_true (show xs.length + ys.length ≤ sizeLine by rw [sizeLine_eq]; exact h1), List.map_append]
  rfl
def cutL (xs : List α) (lo hi : Option Int) : List α := (xs.drop (HT.sIx xs.length 0 lo)).take (HT.sIx xs.length xs.length hi - HT.sIx xs.length 0 lo)
theorem cut_map {e : α → D} (xs : List α) (lo hi : Option Int) : cutD (xs.map e) lo hi = (cutL xs lo hi).map e := by
  unfold cutD cutL
  rw [List.length_map, List.map_take, List.map_drop]
theorem sl_L {e : α → D} (pu : ∀ x, (e x).pure = true) {o : Bool} {xs : List α} {lo hi : Option Int} : dSl (.lst o (xs.map e)) lo hi = .ok (.lst true ((cutL xs lo hi).map e)) := by
  show Res.when _ _ = _
  rw [puM pu, cut_map]
  rfl
theorem len_L {e : α → D} {o : Bool} {xs : List α} : dLen [.lst o (xs.map e)] = .ok (.int xs.length) := by
  show Res.ok (D.int ((xs.map e).length : Int)) = _
  rw [List.length_map]
theorem len_Q {e : α → D} {xs : List α} : dLen [.tup (xs.map e)] = .ok (.int xs.length) := by
  show Res.ok (D.int ((xs.map e).length : Int)) = _
  rw [List.length_map]
noncomputable def lenS (x : Str) : Option Int := gd (x.length ≤ 16777216) (some x.length)
theorem len_S {x : Str} {k : Int} (h : lenS x = some k) : dLen [.str x] = .ok (.int k) := by
  obtain ⟨h1, h2⟩ := gd_some h
  cases h2
  show Res.when _ _ = _
  rw [decide_eq_true (show x.length ≤ sizeLine by rw [sizeLine_eq]; exact h1)]
  rfl
theorem list_L {e : α → D} (pu : ∀ x, (e x).pure = true) {o : Bool} {xs : List α} : dList [.lst o (xs.map e)] = .ok (.lst true (xs.map e)) := by
  show Res.when _ _ = _
  rw [puM pu]
  rfl
theorem list_Q {e : α → D} (pu : ∀ x, (e x).pure = true) {xs : List α} : dList [.tup (xs.map e)] = .ok (.lst true (xs.map e)) := by
  show Res.when _ _ = _
  rw [puM pu]
  rfl
theorem tuple_L {e : α → D} (pu : ∀ x, (e x).pure = true) {o : Bool} {xs : List α} : dTuple [.lst o (xs.map e)] = .ok (.tup (xs.map e)) := by
  show Res.when _ _ = _
  rw [puM pu]
  rfl
theorem tuple_Q {e : α → D} (pu : ∀ x, (e x).pure = true) {xs : List α} : dTuple [.tup (xs.map e)] = .ok (.tup (xs.map e)) := by
  show Res.when _ _ = _
  rw [puM pu]
  rfl
theorem toInts_map (xs : List Int) : toInts (xs.map D.int) = some xs := by
  induction xs with
  | nil => rfl
  | cons x xs ih => rw [List.map_cons, toInts, ih]; rfl
theorem sort_I {o : Bool} {xs : List Int} : dSortI [.lst o (xs.map D.int)] = .ok (.lst true ((sortI xs).map D.int)) := by
  show (Res.of _).bind _ = _
  rw [toInts_map]
  rfl
theorem tru_L {e : α → D} {o : Bool} {xs : List α} : (D.lst o (xs.map e)).tru = .ok (!xs.isEmpty) := by
  show Res.ok _ = _
  cases xs <;> rfl
theorem tru_Q {e : α → D} {xs : List α} : (D.tup (xs.map e)).tru = .ok (!xs.isEmpty) := by
  show Res.ok _ = _
  cases xs <;> rfl
theorem unp_map {e : α → D} {xs : List α} {ys : List α} (h : xs = ys) : xs.map e = ys.map e := by rw [h]
def unp1 : List α → Option α
  | [a] => some a
  | _ => none
def unp2 : List α → Option (α × α)
  | [a, b] => some (a, b)
  | _ => none
def unp3 : List α → Option (α × α × α)
  | [a, b, c] => some (a, b, c)
  | _ => none
def unp4 : List α → Option (α × α × α × α)
  | [a, b, c, d] => some (a, b, c, d)
  | _ => none
def unp5 : List α → Option (α × α × α × α × α)
  | [a, b, c, d, e] => some (a, b, c, d, e)
  | _ => none
def unp6 : List α → Option (α × α × α × α × α × α)
  | [a, b, c, d, e, f] => some (a, b, c, d, e, f)
  | _ => none
theorem unp1_eq {e : α → D} {xs : List α} {v : α} (h : unp1 xs = some v) : xs.map e = [e v] := by
  unfold unp1 at h
  split at h
  · cases h; rfl
  · cases h
theorem unp2_eq {e : α → D} {xs : List α} {v : α × α} (h : unp2 xs = some v) : xs.map e = [e v.1, e v.2] := by
  unfold unp2 at h
  split at h
  · cases h; rfl
  · cases h
theorem unp3_eq {e : α → D} {xs : List α} {v : α × α × α} (h : unp3 xs = some v) : xs.map e = [e v.1, e v.2.1, e v.2.2] := by
  unfold unp3 at h
  split at h
  · cases h; rfl
  · cases h
theorem unp4_eq {e : α → D} {xs : List α} {v : α × α × α × α} (h : unp4 xs = some v) : xs.map e = [e v.1, e v.2.1, e v.2.2.1, e v.2.2.2] := by
  unfold unp4 at h
  split at h
  · cases h; rfl
  · cases h
theorem unp5_eq {e : α → D} {xs : List α} {v : α × α × α × α × α} (h : unp5 xs = some v) : xs.map e = [e v.1, e v.2.1, e v.2.2.1, e v.2.2.2.1, e v.2.2.2.2] := by
  unfold unp5 at h
  split at h
  · cases h; rfl
  · cases h
theorem unp6_eq {e : α → D} {xs : List α} {v : α × α × α × α × α × α} (h : unp6 xs = some v) : xs.map e = [e v.1, e v.2.1, e v.2.2.1, e v.2.2.2.1, e v.2.2.2.2.1, e v.2.2.2.2.2] := by
  unfold unp6 at h
  split at h
  · cases h; rfl
  · cases h
def enumI (xs : List α) : List (Int × α) := (List.range xs.length).zip xs |>.map fun p => ((p.1 : Int), p.2)
theorem enum_map {e : α → D} (xs : List α) : enumD (xs.map e) = (enumI xs).map fun p => D.tup [.int p.1, e p.2] := by
  unfold enumD enumI
  apply List.ext_getElem?
  intro i
  simp only [List.getElem?_map, List.length_map, List.map_map]
  by_cases h : i < xs.length
  · simp [h, List.getElem?_zip_eq_some, List.zip]
  · simp [h]
theorem isi_k {d : D} {k n : String} {b : Bool} (h : kindOf d = some k) (h2 : kindIs k n = some b) : dIsi [d, .ty n] = .ok (.bl b) := by
  show (Res.of ((kindOf d).bind fun k => kindIs k n)).bind _ = _
  rw [h, Option.bind_some, h2]
  rfl
theorem isi_O {e : α → D} {x : Option α} {n : String} {b c : Bool} (h : ∀ a, dIsi [e a, .ty n] = .ok (.bl b)) (h2 : dIsi [.non, .ty n] = .ok (.bl c)) : dIsi [eO e x, .ty n] = .ok (.bl (match x with
    | none => c
    | some _ => b)) := by
  cases x with
  | none => exact h2
  | some a => exact h a
theorem isn_O {e : α → D} {x : Option α} (h : ∀ a, isNone (e a) = false) : isNone (eO e x) = x.isNone := by
  cases x with
  | none => rfl
  | some a => exact h a
theorem is_n {d : D} {b : Bool} (h : isNone d = b) : dIs d .non = .ok (.bl b) := by
  cases d <;> exact congrArg (fun b => Res.ok (D.bl b)) h
theorem isnot_n {d : D} {b : Bool} (h : isNone d = b) : dIsNot d .non = .ok (.bl (!b)) := by
  cases d <;> exact congrArg (fun b => Res.ok (D.bl (!b))) h
theorem cmap_L {e : α → D} {f : β → D} {g : α → β} {o : Bool} (h : ∀ a, e a = f (g a)) (xs : List α) : D.lst o (xs.map e) = .lst o ((xs.map g).map f) := by
  rw [List.map_map]
  congr 1
  exact List.map_congr_left fun a _ => h a
theorem cmap_Q {e : α → D} {f : β → D} {g : α → β} (h : ∀ a, e a = f (g a)) (xs : List α) : D.tup (xs.map e) = .tup ((xs.map g).map f) := by
  rw [List.map_map]
  congr 1
  exact List.map_congr_left fun a _ => h a
theorem cmap_O {e : α → D} {f : β → D} {g : α → β} (h : ∀ a, e a = f (g a)) (x : Option α) : eO e x = eO f (x.map g) := by
  cases x with
  | none => rfl
  | some a => exact h a
theorem congr2 {d d' : D} {ds ds' : List D} (a : d = d') (b : ds = ds') : d :: ds = d' :: ds' := by rw [a, b]
theorem toPairs_map : ∀ ys : List (Int × Int), toPairs (ys.map pD) = some ys
  | [] => rfl
  | y :: ys => by rw [List.map_cons, toPairs, toPairs_map ys]; rfl
noncomputable def srtO (ys : List (Int × Int)) : Option (List (Int × Int)) := gd (ys.length < 63 ∧ ∀ p ∈ ys, pOk p = true) (some (sortP ys))
theorem YM.srt {p p' : Pt} {h h' : List Ob} {it : M E.It} {vs : List Nat} {b : D → Mem → Res Mem} {tt : M Bool} {el : M D} {ys zs : List (Int × Int)} (a : YM p h (mLc it vs b tt el) (.lst true (ys.map pD)) p' h') (hs : srtO ys = some zs) :
    YM p h (mSortSet it vs b tt el) (.lst true (zs.map pD)) p' h' := fun m s => by
  obtain ⟨m', e, s'⟩ := a m s
  obtain ⟨⟨h1, h2⟩, h3⟩ := gd_some hs
  cases h3
  refine ⟨m', ?_, s'⟩
  obtain ⟨r, e1, e⟩ := Res.bind_eq e
  obtain ⟨hv, e⟩ := Res.when_eq e
  obtain ⟨⟨o, mo⟩, e2, e⟩ := Res.bind_eq e
  unfold mSortSet
  rw [e1, Res.bind_ok, hv]
  show ((lcM _ _ _ _ _ _ _ _).bind _) = _
  rw [e2, Res.bind_ok]
  injection e with e
  injection e with e3 e4
  injection e3 with _ e3
  dsimp only at e3 e4
  rw [e3, toPairs_map, ← e4]
  show Res.when (decide (ys.length < 63) && ys.all pOk) _ = _
  rw [decide_eq_true h1, List.all_eq_true.mpr h2]
  rfl
def maxIO : List Int → Option Int
  | [] => none
  | x :: r => some (maxI x r)
def maxPO : List (Int × Int) → Option (Int × Int)
  | [] => none
  | x :: r => some (maxP x r)
theorem max_I {o : Bool} {xs : List Int} {k : Int} (h : maxIO xs = some k) : dMaxL [.lst o (xs.map D.int)] = .ok (.int k) := by
  cases xs with
  | nil => cases h
  | cons x r =>
    cases h
    unfold dMaxL
    dsimp only
    rw [toInts_map]
theorem max_P {o : Bool} {xs : List (Int × Int)} {k : Int × Int} (h : maxPO xs = some k) : dMaxL [.lst o (xs.map pD)] = .ok (pD k) := by
  cases xs with
  | nil => cases h
  | cons x r =>
    cases h
    unfold dMaxL
    dsimp only
    have : toInts ((x :: r).map pD) = none := rfl
    rw [this, toPairs_map]
end Y
/-! YD: data of any kind (None, ints, texts, tuples) -/
namespace Y
open PySem E
open L2 (ixN atI)
inductive Dat where
  | non
  | int (i : Int)
  | str (s : Str)
  | tup (xs : List Dat)
mutual
def Dat.toD : Dat → D
  | .non => .non
  | .int i => .int i
  | .str s => .str s
  | .tup xs => .tup (toDs xs)
def toDs : List Dat → List D
  | [] => []
  | x :: xs => x.toD :: toDs xs
end
mutual
def Dat.dep : Dat → Nat
  | .non => 0
  | .int _ => 0
  | .str _ => 0
  | .tup xs => deps xs + 1
def deps : List Dat → Nat
  | [] => 0
  | x :: xs => max x.dep (deps xs)
end
mutual
def Dat.py : Dat → PyData
  | .non => .none
  | .int i => .int i
  | .str s => .str s
  | .tup xs => .tuple (pys xs)
def pys : List Dat → List PyData
  | [] => []
  | x :: xs => x.py :: pys xs
end
theorem toDs_map : ∀ xs : List Dat, toDs xs = xs.map Dat.toD
  | [] => rfl
  | x :: xs => by rw [toDs, List.map_cons, toDs_map xs]
mutual
theorem Dat.pu : ∀ d : Dat, d.toD.pure = true
  | .non => rfl
  | .int _ => rfl
  | .str _ => rfl
  | .tup xs => by rw [Dat.toD, D.pure]; exact pus xs
theorem pus : ∀ xs : List Dat, pureL (toDs xs) = true
  | [] => rfl
  | x :: xs => by rw [toDs, pureL, x.pu, pus xs]; rfl
end
mutual
theorem Dat.toPy : ∀ d : Dat, d.toD.toPy = some d.py
  | .non => by rw [Dat.toD, D.toPy, Dat.py]
  | .int _ => by rw [Dat.toD, D.toPy, Dat.py]
  | .str _ => by rw [Dat.toD, D.toPy, Dat.py]
  | .tup xs => by rw [Dat.toD, D.toPy, toPys xs, Dat.py]; rfl
theorem toPys : ∀ xs : List Dat, toPyL (toDs xs) = some (pys xs)
  | [] => by rw [toDs, toPyL, pys]
  | x :: xs => by rw [toDs, toPyL, x.toPy, toPys xs, pys]
end
mutual
theorem Dat.plain : ∀ d : Dat, d.py.plain = true
  | .non => by rw [Dat.py, PyData.plain]
  | .int _ => by rw [Dat.py, PyData.plain]
  | .str _ => by rw [Dat.py, PyData.plain]
  | .tup xs => by rw [Dat.py, PyData.plain, plains xs]
theorem plains : ∀ xs : List Dat, PyData.plainAll (pys xs) = true
  | [] => by rw [pys, PyData.plainAll]
  | x :: xs => by rw [pys, PyData.plainAll, x.plain, plains xs]; rfl
end
mutual
theorem Dat.pyDep : ∀ d : Dat, d.py.depth = d.dep
  | .non => by rw [Dat.py, PyData.depth, Dat.dep]
  | .int _ => by rw [Dat.py, PyData.depth, Dat.dep]
  | .str _ => by rw [Dat.py, PyData.depth, Dat.dep]
  | .tup xs => by rw [Dat.py, PyData.depth, Dat.dep, pyDeps xs]
theorem pyDeps : ∀ xs : List Dat, PyData.depthAll (pys xs) = deps xs
  | [] => by rw [pys, PyData.depthAll, deps]
  | x :: xs => by rw [pys, PyData.depthAll, deps, x.pyDep, pyDeps xs]
end
mutual
theorem Dat.eqv : ∀ a b : Dat, PyData.eqv a.py b.py = true ↔ a = b
  | .non, b => by cases b <;> simp [Dat.py, PyData.eqv]
  | .int _, b => by cases b <;> simp [Dat.py, PyData.eqv]
  | .str _, b => by cases b <;> simp [Dat.py, PyData.eqv]
  | .tup xs, .tup ys => by
    rw [Dat.py, Dat.py, PyData.eqv, eqvs xs ys, Dat.tup.injEq]
  | .tup xs, .non => by simp [Dat.py, PyData.eqv]
  | .tup xs, .int _ => by simp [Dat.py, PyData.eqv]
  | .tup xs, .str _ => by simp [Dat.py, PyData.eqv]
theorem eqvs : ∀ a b : List Dat, PyData.eqvAll (pys a) (pys b) = true ↔ a = b
  | [], [] => by simp [pys, PyData.eqvAll]
  | [], _ :: _ => by simp [pys, PyData.eqvAll]
  | _ :: _, [] => by simp [pys, PyData.eqvAll]
  | x :: xs, y :: ys => by rw [pys, pys, PyData.eqvAll, Bool.and_eq_true, x.eqv y, eqvs xs ys, List.cons.injEq]
end
/-- data that are not too deep -/
structure V where
  d : Dat
  h : d.dep ≤ 32
theorem V.ext' {a b : V} (h : a.d = b.d) : a = b := by
  cases a
  cases b
  cases h
  rfl
noncomputable instance : DecidableEq V := fun a b => Classical.propDecidable (a = b)
def e_V (v : V) : D := v.d.toD
theorem pu_V (v : V) : (e_V v).pure = true := v.d.pu
theorem Fa.V : Fa 32 e_V := ⟨fun v => v.d.py, fun v => v.d.toPy, fun v => v.d.plain, fun v => by rw [Dat.pyDep]; exact v.h, fun a b => by rw [Dat.eqv]; exact ⟨V.ext', fun h => by rw [h]⟩⟩
def Dat.isNon : Dat → Bool
  | .non => true
  | _ => false
def V.isNone (v : V) : Bool := v.d.isNon
theorem isn_V (v : V) : E.isNone (e_V v) = v.isNone := by
  unfold e_V V.isNone
  cases v.d <;> (rw [Dat.toD]; rfl)
end Y
/-! YE: to reckon with typed programs -/
namespace Y
open PySem E
open L2 (ixN atI)
variable {α β γ R S : Type}
theorem atI_nn {xs : List α} {k : Int} (h0 : 0 ≤ k) (h1 : k < xs.length) : atI xs k = some (xs[k.toNat]'(by omega)) := by
  unfold atI ixN
  rw [if_pos h0, if_pos h1, Option.bind_some, List.getElem?_eq_getElem (by omega)]
theorem atI_nat {xs : List α} {k : Nat} (h1 : k < xs.length) : atI xs (k : Int) = some xs[k] := by
  rw [atI_nn (by omega) (by omega)]
  rfl
theorem atI_ng {xs : List α} {k : Int} (h0 : k < 0) (h1 : -(xs.length : Int) ≤ k) : atI xs k = some (xs[(k + xs.length).toNat]'(by omega)) := by
  unfold atI ixN
  rw [if_neg (by omega), if_pos h1, Option.bind_some, List.getElem?_eq_getElem (by omega)]
theorem atI_zero {x : α} {xs : List α} : atI (x :: xs) 0 = some x := atI_nat (k := 0) (by simp)
@[simp] theorem atI_0 {x : α} {xs : List α} : atI (x :: xs) 0 = some x := atI_zero
@[simp] theorem atI_1 {x y : α} {xs : List α} : atI (x :: y :: xs) 1 = some y := atI_nat (k := 1) (by simp)
theorem atI_nil {k : Int} : atI ([] : List α) k = none := by
  unfold atI
  cases ixN ([] : List α).length k <;> simp
theorem atI_mem {xs : List α} {k : Int} {x : α} (h : atI xs k = some x) : x ∈ xs := by
  unfold atI at h
  cases e : ixN xs.length k with
  | none => rw [e] at h; cases h
  | some j => rw [e] at h; exact List.mem_of_getElem? h
theorem setI_nn {xs : List α} {k : Int} {a : α} (h0 : 0 ≤ k) (h1 : k < xs.length) : setI xs k a = some (xs.set k.toNat a) := by
  unfold setI ixN
  rw [if_pos h0, if_pos h1]
  rfl
@[simp] theorem setI_0 {x a : α} {xs : List α} : setI (x :: xs) 0 a = some (a :: xs) := setI_nn (by omega) (by simp)
@[simp] theorem modO_eq {i j : Int} (h : 0 < j) : modO i j = some (i % j) := if_pos h
theorem fdivO_eq {i j : Int} (h : 0 < j) (h2 : j < 18446744073709551616) : fdivO i j = some (i / j) := gd_of ⟨h, h2⟩
theorem mulO_l {i j : Int} (h0 : -1000000000000000000 ≤ i) (h1 : i ≤ 1000000000000000000) : mulO i j = some (i * j) := gd_of (.inl ⟨by omega, by omega⟩)
theorem mulO_r {i j : Int} (h0 : -1000000000000000000 ≤ j) (h1 : j ≤ 1000000000000000000) : mulO i j = some (i * j) := gd_of (.inr ⟨by omega, by omega⟩)
theorem appO_eq {xs : List α} {a : α} (h : xs.length < 16777216) : appO xs a = some (xs ++ [a]) := gd_of h
theorem catO_eq {xs ys : List α} (h : xs.length + ys.length ≤ 16777216) : catO xs ys = some (xs ++ ys) := gd_of h
theorem lcT_eq {t : α → Bool} {f : α → β} {xs : List α} (h : xs.length ≤ 16777216) : lcT t f xs = some ((xs.filter t).map f) := gd_of h
theorem lcOg_eq {tb : α → Option (Option β)} {xs : List α} (h : xs.length ≤ 16777216) : lcOg tb xs = lcO tb xs := gd_of h
theorem lcSg_eq {tb : S → α → Option (Option β × S)} {xs : List α} {s : S} (h : xs.length ≤ 16777216) : lcSg tb xs s = lcS tb xs s := gd_of h
theorem srtO_eq {ys : List (Int × Int)} (h : ys.length < 63) (h2 : ∀ p ∈ ys, 0 ≤ p.1 ∧ p.1 < 1000000 ∧ 0 ≤ p.2 ∧ p.2 < 1000000) : srtO ys = some (sortP ys) := gd_of ⟨h, fun p m => decide_eq_true (h2 p m)⟩
/-- comprehensions -/
theorem lcO_map {f : α → β} {tb : α → Option (Option β)} : ∀ {xs : List α}, (∀ x ∈ xs, tb x = some (some (f x))) → lcO tb xs = some (xs.map f)
  | [], _ => rfl
  | x :: xs, h => by
    rw [lcO, h x (List.mem_cons_self ..), Option.bind_some, lcO_map fun y m => h y (List.mem_cons_of_mem _ m)]
    rfl
theorem lcO_fm {f : α → Option β} {tb : α → Option (Option β)} : ∀ {xs : List α}, (∀ x ∈ xs, tb x = some (f x)) → lcO tb xs = some (xs.filterMap f)
  | [], _ => rfl
  | x :: xs, h => by
    rw [lcO, h x (List.mem_cons_self ..), Option.bind_some, lcO_fm fun y m => h y (List.mem_cons_of_mem _ m), List.filterMap_cons]
    cases f x <;> rfl
/-- with a state: an invariant of the state, and what holds of each item made -/
theorem lcS_inv {tb : S → α → Option (Option β × S)} (I : S → Prop) (P : α → β → Prop) : ∀ {xs : List α} {s : S}, I s → (∀ s x, x ∈ xs → I s → ∃ y s', tb s x = some (y, s') ∧ I s' ∧ ∀ z, y = some z → P x z) →
    ∃ ys s', lcS tb xs s = some (ys, s') ∧ I s' ∧ ys.length ≤ xs.length ∧ ∀ z ∈ ys, ∃ x ∈ xs, P x z
  | [], s, h, _ => ⟨[], s, rfl, h, Nat.le_refl _, fun z m => by cases m⟩
  | x :: xs, s, h, k => by
    obtain ⟨y, s1, e1, h1, p1⟩ := k s x (List.mem_cons_self ..) h
    obtain ⟨ys, s2, e2, h2, l, p2⟩ := lcS_inv I P h1 fun s z m => k s z (List.mem_cons_of_mem _ m)
    rw [lcS, e1, Option.bind_some, e2, Option.bind_some]
    have p2' : ∀ z ∈ ys, ∃ w ∈ x :: xs, P w z := fun z m => by
      obtain ⟨w, m1, m2⟩ := p2 z m
      exact ⟨w, List.mem_cons_of_mem _ m1, m2⟩
    cases y with
    | none => exact ⟨ys, s2, rfl, h2, by rw [List.length_cons]; omega, p2'⟩
    | some y =>
      refine ⟨y :: ys, s2, rfl, h2, by rw [List.length_cons, List.length_cons]; omega, fun z m => ?_⟩
      rcases List.mem_cons.mp m with rfl | m
      · exact ⟨x, List.mem_cons_self .., p1 _ rfl⟩
      · exact p2' z m
/-- loops -/
theorem forS_fold {tb : S → α → Option S} {f : S → α → S} : ∀ {xs : List α} {s : S}, (∀ s x, x ∈ xs → tb s x = some (f s x)) → forS tb xs s = some (xs.foldl f s)
  | [], s, _ => rfl
  | x :: xs, s, h => by
    rw [forS, h s x (List.mem_cons_self ..), Option.bind_some, forS_fold fun s y m => h s y (List.mem_cons_of_mem _ m)]
    rfl
theorem forS_inv {tb : S → α → Option S} (I : S → Prop) : ∀ {xs : List α} {s : S}, I s → (∀ s x, x ∈ xs → I s → ∃ s', tb s x = some s' ∧ I s') → ∃ s', forS tb xs s = some s' ∧ I s'
  | [], s, h, _ => ⟨s, rfl, h⟩
  | x :: xs, s, h, k => by
    obtain ⟨s1, e1, h1⟩ := k s x (List.mem_cons_self ..) h
    obtain ⟨s2, e2, h2⟩ := forS_inv I h1 fun s y m => k s y (List.mem_cons_of_mem _ m)
    exact ⟨s2, by rw [forS, e1, Option.bind_some, e2], h2⟩
/-- an invariant that knows what was walked -/
theorem forS_ipre {tb : S → α → Option S} (I : List α → S → Prop) (xs : List α) : ∀ (q p : List α) {s : S}, xs = p ++ q → I p s → (∀ p x q s, xs = p ++ x :: q → I p s → ∃ s', tb s x = some s' ∧ I (p ++ [x]) s') → ∃ s', forS tb q s = some s' ∧ I xs s'
  | [], p, s, e, h, _ => ⟨s, rfl, by rw [e, List.append_nil]; exact h⟩
  | x :: q, p, s, e, h, k => by
    obtain ⟨s1, e1, h1⟩ := k p x q s e h
    obtain ⟨s2, e2, h2⟩ := forS_ipre I xs q (p ++ [x]) (by rw [e, List.append_assoc]; rfl) h1 k
    exact ⟨s2, by rw [forS, e1, Option.bind_some, e2], h2⟩
theorem forE_inv {tb : S → α → Option (Ex R S)} (I : S → Prop) : ∀ {xs : List α} {s : S}, I s → (∀ s x, x ∈ xs → I s → ∃ s', tb s x = some (.go s') ∧ I s') → ∃ s', forE tb xs s = some (.go s') ∧ I s'
  | [], s, h, _ => ⟨s, rfl, h⟩
  | x :: xs, s, h, k => by
    obtain ⟨s1, e1, h1⟩ := k s x (List.mem_cons_self ..) h
    obtain ⟨s2, e2, h2⟩ := forE_inv I h1 fun s y m => k s y (List.mem_cons_of_mem _ m)
    exact ⟨s2, by rw [forE, e1, Option.bind_some]; exact e2, h2⟩
theorem forE_ipre {tb : S → α → Option (Ex R S)} (I : List α → S → Prop) (xs : List α) : ∀ (q p : List α) {s : S}, xs = p ++ q → I p s → (∀ p x q s, xs = p ++ x :: q → I p s → ∃ s', tb s x = some (.go s') ∧ I (p ++ [x]) s') → ∃ s', forE tb q s = some (.go s') ∧ I xs s'
  | [], p, s, e, h, _ => ⟨s, rfl, by rw [e, List.append_nil]; exact h⟩
  | x :: q, p, s, e, h, k => by
    obtain ⟨s1, e1, h1⟩ := k p x q s e h
    obtain ⟨s2, e2, h2⟩ := forE_ipre I xs q (p ++ [x]) (by rw [e, List.append_assoc]; rfl) h1 k
    exact ⟨s2, by rw [forE, e1, Option.bind_some]; exact e2, h2⟩
/-- a loop without a state that looks for something -/
def Rs.ofO : Option R → Rs R Unit
  | some r => .rt r
  | none => .go ()
def Ex.ofO : Option R → Ex R Unit
  | some r => .rt r
  | none => .go ()
theorem forE_find {tb : Unit → α → Option (Ex R Unit)} {g : α → Option R} : ∀ {xs : List α}, (∀ x ∈ xs, tb () x = some (Ex.ofO (g x))) → forE tb xs () = some (Rs.ofO (xs.findSome? g))
  | [], _ => rfl
  | x :: xs, h => by
    rw [forE, h x (List.mem_cons_self ..), Option.bind_some, List.findSome?_cons]
    cases g x with
    | some r => rfl
    | none => exact forE_find fun y m => h y (List.mem_cons_of_mem _ m)
theorem mem_rangeI {lo hi k : Int} : k ∈ rangeI lo hi ↔ lo ≤ k ∧ k < hi := by
  unfold rangeI
  rw [List.mem_map]
  constructor
  · rintro ⟨j, m, rfl⟩
    rw [List.mem_range] at m
    omega
  · intro ⟨h1, h2⟩
    exact ⟨(k - lo).toNat, by rw [List.mem_range]; omega, by omega⟩
@[simp] theorem length_rangeI (lo hi : Int) : (rangeI lo hi).length = (hi - lo).toNat := by
  unfold rangeI
  rw [List.length_map, List.length_range]
theorem cutL_pre (xs : List α) {k : Int} (h : 0 ≤ k) : cutL xs none (some k) = xs.take k.toNat := by
  unfold cutL
  have e1 : HT.sIx xs.length 0 none = 0 := rfl
  have e2 : HT.sIx xs.length xs.length (some k) = min k.toNat xs.length := by
    show (if k < 0 then _ else min k.toNat xs.length) = _
    rw [if_neg (by omega)]
  rw [e1, e2, List.drop_zero, Nat.sub_zero]
  by_cases h : k.toNat ≤ xs.length
  · rw [Nat.min_eq_left h]
  · rw [Nat.min_eq_right (by omega), List.take_length, List.take_of_length_le (by omega)]
theorem cutL_suf (xs : List α) {k : Int} (h : 0 ≤ k) : cutL xs (some k) none = xs.drop k.toNat := by
  unfold cutL
  have e1 : HT.sIx xs.length xs.length none = xs.length := rfl
  have e2 : HT.sIx xs.length 0 (some k) = min k.toNat xs.length := by
    show (if k < 0 then _ else min k.toNat xs.length) = _
    rw [if_neg (by omega)]
  rw [e1, e2]
  by_cases h : k.toNat ≤ xs.length
  · rw [Nat.min_eq_left h, List.take_of_length_le (by rw [List.length_drop]; omega)]
  · rw [Nat.min_eq_right (by omega), List.drop_of_length_le (by omega), List.drop_of_length_le (by omega)]
    simp
theorem cutL_mid (xs : List α) {j k : Int} (h : 0 ≤ j) (h2 : 0 ≤ k) : cutL xs (some j) (some k) = (xs.drop j.toNat).take (k.toNat - j.toNat) := by
  unfold cutL
  have e1 : HT.sIx xs.length 0 (some j) = min j.toNat xs.length := by
    show (if j < 0 then _ else min j.toNat xs.length) = _
    rw [if_neg (by omega)]
  have e2 : HT.sIx xs.length xs.length (some k) = min k.toNat xs.length := by
    show (if k < 0 then _ else min k.toNat xs.length) = _
    rw [if_neg (by omega)]
  rw [e1, e2]
  by_cases a : j.toNat ≤ xs.length
  · rw [Nat.min_eq_left a]
    by_cases b : k.toNat ≤ xs.length
    · rw [Nat.min_eq_left b]
    · rw [Nat.min_eq_right (by omega), List.take_of_length_le (by rw [List.length_drop]; omega), List.take_of_length_le (by rw [List.length_drop]; omega)]
  · rw [Nat.min_eq_right (a := j.toNat) (b := xs.length) (by omega), List.drop_length, List.drop_of_length_le (i := j.toNat) (by omega)]
    simp
theorem maxP_mem (b : Int × Int) (l : List (Int × Int)) : maxP b l = b ∨ maxP b l ∈ l := by
  induction l generalizing b with
  | nil => exact .inl rfl
  | cons x l ih =>
    rw [maxP]
    rcases ih (if ltP b x then x else b) with h | h
    · rw [h]
      split
      · exact .inr (List.mem_cons_self ..)
      · exact .inl rfl
    · exact .inr (List.mem_cons_of_mem _ h)
theorem ltP_trans {a b c : Int × Int} (h : ltP a b) (k : ltP b c) : ltP a c := by unfold ltP at *; omega
theorem ltP_irr {a : Int × Int} : ¬ ltP a a := by unfold ltP; omega
theorem ltP_tri (a b : Int × Int) : ltP a b ∨ a = b ∨ ltP b a := by
  by_cases h : a.1 = b.1
  · by_cases h2 : a.2 = b.2
    · exact .inr (.inl (Prod.ext h h2))
    · unfold ltP; omega
  · unfold ltP; omega
theorem maxP_ge (b : Int × Int) (l : List (Int × Int)) : ¬ ltP (maxP b l) b ∧ ∀ y ∈ l, ¬ ltP (maxP b l) y := by
  induction l generalizing b with
  | nil => exact ⟨ltP_irr, fun y m => by cases m⟩
  | cons x l ih =>
    rw [maxP]
    obtain ⟨h1, h2⟩ := ih (if ltP b x then x else b)
    have h3 : ¬ ltP (maxP (if ltP b x then x else b) l) b ∧ ¬ ltP (maxP (if ltP b x then x else b) l) x := by
      split at h1
      · rename_i c
        rw [if_pos c]
        exact ⟨fun z => h1 (ltP_trans z c), h1⟩
      · rename_i c
        rw [if_neg c]
        refine ⟨h1, fun z => ?_⟩
        rcases ltP_tri b x with k | k | k
        · exact c k
        · subst k; exact h1 z
        · exact h1 (ltP_trans z k)
    refine ⟨h3.1, fun y m => ?_⟩
    rcases List.mem_cons.mp m with rfl | m
    · exact h3.2
    · exact h2 y m
theorem tupLt_pair (a b c d : Int) : tupLt [a, b] [c, d] = decide (ltP (a, b) (c, d)) := by
  unfold tupLt ltP
  simp only [lexB]
  unfold ltI
  by_cases h : a = c
  · by_cases h2 : b = d
    · simp [h, h2]
    · simp [h, h2]
  · simp [h]
theorem rangeI_nil {lo hi : Int} (h : hi ≤ lo) : rangeI lo hi = [] := by
  unfold rangeI
  rw [show (hi - lo).toNat = 0 by omega]
  rfl
theorem rangeI_cons {lo hi : Int} (h : lo < hi) : rangeI lo hi = lo :: rangeI (lo + 1) hi := by
  unfold rangeI
  obtain ⟨n, hn⟩ : ∃ n, (hi - lo).toNat = n + 1 := ⟨(hi - lo).toNat - 1, by omega⟩
  rw [hn, show (hi - (lo + 1)).toNat = n by omega, List.range_succ_eq_map, List.map_cons, List.map_map]
  congr 1
  · simp
  · apply List.map_congr_left
    intro k _
    simp
    omega
theorem rangeI_split (n : Nat) : ∀ {lo k hi : Int}, (k - lo).toNat = n → lo ≤ k → k < hi → rangeI lo hi = rangeI lo k ++ k :: rangeI (k + 1) hi := by
  induction n with
  | zero =>
    intro lo k hi h h1 h2
    obtain rfl : lo = k := by omega
    rw [rangeI_nil (Int.le_refl _), rangeI_cons h2]
    rfl
  | succ n ih =>
    intro lo k hi h h1 h2
    rw [rangeI_cons (lo := lo) (hi := hi) (by omega), rangeI_cons (lo := lo) (hi := k) (by omega), ih (by omega) (by omega) h2]
    rfl
theorem forE_app {tb : S → α → Option (Ex R S)} : ∀ {p q : List α} {s s' : S}, forE tb p s = some (.go s') → (∀ s x e, x ∈ p → tb s x = some e → ∀ z, e ≠ .bk z) → forE tb (p ++ q) s = forE tb q s'
  | [], q, s, s', h, _ => by cases h; rfl
  | x :: p, q, s, s', h, nb => by
    rw [forE] at h
    obtain ⟨e, e1, h⟩ := bnd h
    rw [List.cons_append, forE, e1, Option.bind_some]
    cases e with
    | go s1 => exact forE_app h fun s y e m => nb s y e (List.mem_cons_of_mem _ m)
    | bk s1 => exact absurd rfl (nb s x _ (List.mem_cons_self ..) e1 s1)
    | rt r => cases h
theorem forE_all {tb : Unit → α → Option (Ex R Unit)} : ∀ {xs : List α}, (∀ x ∈ xs, tb () x = some (.go ())) → forE tb xs () = some (.go ())
  | [], _ => rfl
  | x :: xs, h => by
    rw [forE, h x (List.mem_cons_self ..), Option.bind_some]
    exact forE_all fun y m => h y (List.mem_cons_of_mem _ m)
theorem forE_hit {tb : Unit → α → Option (Ex R Unit)} {r : R} {x : α} {q : List α} : ∀ {p : List α}, (∀ x ∈ p, tb () x = some (.go ())) → tb () x = some (.rt r) → forE tb (p ++ x :: q) () = some (.rt r)
  | [], _, h => by rw [List.nil_append, forE, h]; rfl
  | y :: p, h, k => by
    rw [List.cons_append, forE, h y (List.mem_cons_self ..), Option.bind_some]
    exact forE_hit (fun z m => h z (List.mem_cons_of_mem _ m)) k
end Y
/-! YF: insert, sorted(set(t)) -/
namespace Y
open PySem E
open L2 (ixN atI)
variable {α β γ R S : Type}
noncomputable def insO (xs : List α) (k : Int) (a : α) : Option (List α) := gd (xs.length < 16777216 ∧ 0 ≤ k ∧ k ≤ (xs.length : Int)) (some (insL k.toNat a xs))
theorem insL_map (e : α → β) (n : Nat) (a : α) (xs : List α) : (insL n a xs).map e = insL n (e a) (xs.map e) := by
  unfold insL
  rw [List.map_append, List.map_append, List.map_take, List.map_drop]
  rfl
theorem YM.insN {p p1 p' : Pt} {h h1 h' : List Ob} {i : Nat} {mk x : M D} {d1 : D} {e : α → D} {xs ys : List α} {a : α} {k : Int} (g0 : p[i]? = some (some d1)) (n0 : d1.isL = true) (bk : YM p h mk (.int k) p1 h1) (b : YM p1 h1 x (e a) p' h') (g1 : p'[i]? = some (some (.lst true (xs.map e)))) (hs : insO xs k a = some ys) :
    YM p h (mInsN i mk x) .non (p'.set i (some (.lst true (ys.map e)))) h' := fun m s => by
  obtain ⟨c, hs⟩ := gd_some hs
  cases hs
  obtain ⟨m1, e1, s1⟩ := bk m s
  obtain ⟨m2, e2, s2⟩ := b m1 s1
  refine ⟨⟨m2.env.set i (.lst true ((insL k.toNat a xs).map e)), m2.hs⟩, ?_, s2.e.set i _, s2.h⟩
  unfold mInsN
  rw [YT.var g0 (by cases d1 <;> first | rfl | cases n0) m s, Res.bind_ok, n0]
  show ((mk m).bind _) = _
  rw [e1, Res.bind_ok]
  show ((x m1).bind _) = _
  rw [e2, Res.bind_ok]
  unfold insAt
  rw [YT.var g1 rfl m2 s2, Res.bind_ok]
  dsimp only
  rw [List.length_map, decide_eq_true (show xs.length < sizeLine by rw [sizeLine_eq]; exact c.1), decide_eq_true c.2, insL_map]
  rfl
noncomputable def srtTO (ys : List Int) : Option (List Int) := gd (ys.length < 64) (some (sortU ys))
theorem YM.srtT {p : Pt} {h : List Ob} {q : MQ D} {ys zs : List Int} (a : YT p h q (.tup (ys.map D.int))) (hs : srtTO ys = some zs) : YM p h (mSortSetT q) (.lst true (zs.map D.int)) p h := fun m s => by
  obtain ⟨c, hs⟩ := gd_some hs
  cases hs
  refine ⟨m, ?_, s⟩
  unfold mSortSetT
  rw [a m s, Res.bind_ok]
  dsimp only
  rw [toInts_map]
  show Res.when (decide (ys.length < 64)) _ = _
  rw [decide_eq_true c]
  rfl
theorem insO_eq {xs : List α} {k : Int} {a : α} (h : xs.length < 16777216) (h0 : 0 ≤ k) (h1 : k ≤ (xs.length : Int)) : insO xs k a = some (insL k.toNat a xs) := gd_of ⟨h, h0, h1⟩
theorem mem_insL {n : Nat} {a b : α} {xs : List α} : b ∈ insL n a xs ↔ b = a ∨ b ∈ xs := by
  unfold insL
  rw [List.mem_append, List.mem_append, List.mem_singleton]
  conv => rhs; rw [← List.take_append_drop n xs, List.mem_append]
  constructor
  · rintro ((h | h) | h)
    · exact .inr (.inl h)
    · exact .inl h
    · exact .inr (.inr h)
  · rintro (h | h | h)
    · exact .inl (.inr h)
    · exact .inl (.inl h)
    · exact .inr h
theorem len_insL {n : Nat} {a : α} {xs : List α} (h : n ≤ xs.length) : (insL n a xs).length = xs.length + 1 := by
  unfold insL
  rw [List.length_append, List.length_append, List.length_take, List.length_drop, List.length_singleton]
  omega
end Y
/-! YG: objects; text * int -/
namespace Y
open PySem E
open L2 (ixN atI)
variable {α β γ R S : Type}
def fldD (cs : List Nat) (f : String) (h : List Ob) (n : Nat) : Option D := match h[n]? with
  | some ob => if cs.contains ob.cls = true then lookF f ob.fs else none
  | none => none
open Classical in
noncomputable def invO (e : α → D) (d : D) : Option α := if x : ∃ a, e a = d then some x.choose else none
theorem invO_some {e : α → D} {d : D} {a : α} (h : invO e d = some a) : e a = d := by
  unfold invO at h
  split at h
  · rename_i x
    cases h
    exact x.choose_spec
  · cases h
theorem invO_eq {e : α → D} (inj : ∀ a b, e a = e b → a = b) (a : α) : invO e (e a) = some a := by
  unfold invO
  rw [dif_pos ⟨a, rfl⟩]
  have x : ∃ b, e b = e a := ⟨a, rfl⟩
  exact congrArg some (inj _ _ x.choose_spec)
noncomputable def fldO (e : α → D) (cs : List Nat) (f : String) (h : List Ob) (n : Nat) : Option α := (fldD cs f h n).bind (invO e)
theorem fldO_some {e : α → D} {cs : List Nat} {f : String} {h : List Ob} {n : Nat} {a : α} (k : fldO e cs f h n = some a) : fldD cs f h n = some (e a) := by
  obtain ⟨d, h1, h2⟩ := Option.bind_eq_some_iff.mp k
  rw [h1, invO_some h2]
theorem fldO_eq {e : α → D} (inj : ∀ a b, e a = e b → a = b) {cs : List Nat} {f : String} {h : List Ob} {n : Nat} {ob : Ob} {a : α} (g : h[n]? = some ob) (c : cs.contains ob.cls = true) (l : lookF f ob.fs = some (e a)) : fldO e cs f h n = some a := by
  unfold fldO fldD
  rw [g]
  dsimp only
  rw [if_pos c, l]
  exact invO_eq inj a
theorem mqAttr_of {cs : List Nat} {f : String} {q : MQ D} {m : Mem} {n : Nat} {d : D} (a : q m = .ok (.loc n)) (k : fldD cs f m.hs n = some d) : mqAttr cs f q m = .ok d := by
  unfold mqAttr
  rw [a, Res.bind_ok]
  unfold fldD at k
  dsimp only
  split at k
  · rename_i ob g
    try rw [g]
    split at k
    · rename_i c
      try dsimp only
      rw [c, k]
      rfl
    · cases k
  · cases k
theorem YT.attr {p : Pt} {h : List Ob} {q : MQ D} {e : α → D} {cs : List Nat} {f : String} {n : Nat} {v : α} (a : YT p h q (.loc n)) (k : fldO e cs f h n = some v) : YT p h (mqAttr cs f q) (e v) := fun m s => by
  refine mqAttr_of (a m s) ?_
  rw [s.h]
  exact fldO_some k
def setD (cs : List Nat) (f : String) (d : D) (h : List Ob) (n : Nat) : Option (List Ob) := match h[n]? with
  | some ob => if (cs.contains ob.cls && decide (ob.fs.length < 1000)) = true then some (h.set n ⟨ob.cls, setF f d ob.fs⟩) else none
  | none => none
theorem setD_some {cs : List Nat} {f : String} {d : D} {h h2 : List Ob} {n : Nat} (k : setD cs f d h n = some h2) : ∃ ob, h[n]? = some ob ∧ (cs.contains ob.cls && decide (ob.fs.length < 1000)) = true ∧ h2 = h.set n ⟨ob.cls, setF f d ob.fs⟩ := by
  unfold setD at k
  split at k
  · rename_i ob g
    split at k
    · rename_i c
      exact ⟨ob, g, c, (Option.some.inj k).symm⟩
    · cases k
  · cases k
theorem setD_eq {cs : List Nat} {f : String} {d : D} {h : List Ob} {n : Nat} {ob : Ob} (g : h[n]? = some ob) (c : (cs.contains ob.cls && decide (ob.fs.length < 1000)) = true) : setD cs f d h n = some (h.set n ⟨ob.cls, setF f d ob.fs⟩) := by
  unfold setD
  rw [g]
  dsimp only
  rw [if_pos c]
theorem run_setA {p p1 : Pt} {h h1 h2 : List Ob} {m : Mem} {rest : MS} {Q : Fl → Mem → Prop} {cs : List Nat} {f : String} {e : M D} {q : MQ D} {d : D} {n : Nat} (hm : Sx p h m) (x : YM p h e d p1 h1) (a : YT p1 h1 q (.loc n)) (k : setD cs f d h1 n = some h2) (r : ∀ m, Sx p1 h2 m → Run rest m Q) : Run (sSeq (sSetA cs f e q) rest) m Q := by
  obtain ⟨m1, e1, q1⟩ := x m hm
  obtain ⟨ob, g, c, rfl⟩ := setD_some k
  obtain ⟨o, e3, q3⟩ := r ⟨m1.env, h1.set n ⟨ob.cls, setF f d ob.fs⟩⟩ ⟨q1.e, rfl⟩
  refine ⟨o, ?_, q3⟩
  rw [seq_eq (m1 := ⟨m1.env, h1.set n ⟨ob.cls, setF f d ob.fs⟩⟩), e3]
  unfold sSetA
  rw [e1, Res.bind_ok, a m1 q1, Res.bind_ok]
  dsimp only
  rw [q1.h, g]
  dsimp only
  rw [c]
  rfl
noncomputable def appAO (e : α → D) (cs : List Nat) (f : String) (h : List Ob) (n : Nat) (a : α) : Option (List Ob) := (fldO (eL true e) cs f h n).bind fun xs => gd (xs.length < 16777216) (setD cs f (eL true e (xs ++ [a])) h n)
theorem YM.appA {p : Pt} {h h2 : List Ob} {q x : MQ D} {e : α → D} {cs : List Nat} {f : String} {n : Nat} {v : α} (a : YT p h q (.loc n)) (b : YT p h x (e v)) (pu : (e v).pure = true) (k : appAO e cs f h n v = some h2) : YM p h (mAppA cs f q (mnP x)) .non p h2 := fun m s => by
  obtain ⟨xs, k1, k⟩ := Option.bind_eq_some_iff.mp k
  obtain ⟨k2, k⟩ := gd_some k
  obtain ⟨ob, g, c, rfl⟩ := setD_some k
  have k1 := fldO_some k1
  rw [Bool.and_eq_true] at c
  unfold fldD at k1
  rw [g] at k1
  dsimp only at k1
  rw [if_pos c.1] at k1
  refine ⟨⟨m.env, h.set n ⟨ob.cls, setF f (eL true e (xs ++ [v])) ob.fs⟩⟩, ?_, ⟨s.e, rfl⟩⟩
  unfold mAppA
  rw [a m s, Res.bind_ok]
  dsimp only
  rw [s.h, g]
  dsimp only
  rw [c.1, k1]
  show (((mnP x) m).bind _) = _
  unfold mnP
  rw [b m s, Res.bind_ok, pu]
  show appAt _ _ _ _ _ _ = _
  unfold appAt
  rw [List.length_map, decide_eq_true (show xs.length < sizeLine by rw [sizeLine_eq]; exact k2), s.h]
  show Res.ok _ = Res.ok _
  unfold eL
  rw [List.map_append]
  rfl
theorem YM.make {p p1 q p' : Pt} {h h1 h' : List Ob} {f : CallM} {dd : List D} {c : Nat} {ma : M (List E.Arg)} {as : List E.Arg} {ds ds' : List D} {is : List (Option Nat)} (a : YA p h ma as p1 h1) (g : Gr (.val (.loc h1.length) :: as) p1 ds is q) (e : f (ds ++ dd) (h1 ++ [⟨c, []⟩]) = .ok (.non, ds', h')) (k : gbk is ds' q = p') : YM p h (mMake c f dd ma) (.loc h1.length) p' h' := fun m s => by
  obtain ⟨m1, e1, s1⟩ := a m s
  obtain ⟨e', g1, g2⟩ := g.eq s1.e
  refine ⟨⟨giveBack is ds' e', h'⟩, ?_, ?_, rfl⟩
  · unfold mMake
    rw [e1, Res.bind_ok]
    dsimp only
    rw [s1.h]
    unfold callTail
    rw [g1, Res.bind_ok]
    dsimp only
    rw [e]
    rfl
  · rw [← k]
    exact gbk_mt is ds' g2
def isO (c : Nat) (mn : String) (h : List Ob) (n : Nat) : Bool := match h[n]? with
  | some ob => ob.cls == c && (lookF mn ob.fs).isNone
  | none => false
theorem YM.meth {p p1 q p' : Pt} {h h1 h' : List Ob} {f : CallM} {dd : List D} {c n : Nat} {mn : String} {qq : MQ D} {ma : M (List E.Arg)} {as : List E.Arg} {d : D} {ds ds' : List D} {is : List (Option Nat)} (b : YT p h qq (.loc n)) (o : isO c mn h n = true) (a : YA p h ma as p1 h1) (g : Gr (.val (.loc n) :: as) p1 ds is q) (e : f (ds ++ dd) h1 = .ok (d, ds', h')) (k : gbk is ds' q = p') : YM p h (mMeth c mn f dd qq ma) d p' h' := fun m s => by
  obtain ⟨m1, e1, s1⟩ := a m s
  obtain ⟨e', g1, g2⟩ := g.eq s1.e
  refine ⟨⟨giveBack is ds' e', h'⟩, ?_, ?_, rfl⟩
  · unfold mMeth
    rw [b m s, Res.bind_ok]
    have o2 : isOf c mn m (.loc n) = true := by
      unfold isOf
      unfold isO at o
      dsimp only
      rw [s.h]
      exact o
    rw [o2]
    show ((ma m).bind _) = _
    rw [e1, Res.bind_ok]
    unfold callTail
    dsimp only
    rw [g1, Res.bind_ok]
    dsimp only
    rw [s1.h, e]
    rfl
  · rw [← k]
    exact gbk_mt is ds' g2
noncomputable def repO (x : Str) (n : Int) : Option Str := gd (mulSok x n) (some (repS x n))
theorem mulS_O {x y : Str} {n : Int} (h : repO x n = some y) : dMulS (.str x) (.int n) = .ok (.str y) := by
  obtain ⟨c, h⟩ := gd_some h
  cases h
  show Res.when (decide (mulSok x n)) _ = _
  rw [decide_eq_true c]
  rfl
end Y
/-! YH: append to an item, methods of reckoned things, properties -/
namespace Y
open PySem E
open L2 (ixN atI)
variable {α β γ R S : Type}
theorem rs_go {g : S → Option β} {f : R → Option β} {s : S} : Rs.elim g f (.go s) = g s := rfl
theorem YT.mnp {p : Pt} {h : List Ob} {q : MQ D} {d : D} (a : YT p h q d) (pu : d.pure = true) : YT p h (mnP q) d := fun m s => by
  unfold mnP
  rw [a m s, Res.bind_ok, pu]
  rfl
theorem YL.mnil {p : Pt} {h : List Ob} : YL p h mnNil [] := fun _ _ => rfl
theorem YL.mcons {p : Pt} {h : List Ob} {x : MQ D} {r : MQ (List D)} {d : D} {ds : List D} (a : YT p h x d) (b : YL p h r ds) : YL p h (mnCons x r) (d :: ds) := fun m s => by
  unfold mnCons
  rw [a m s, Res.bind_ok, b m s]
  rfl
theorem YT.mnlst {p : Pt} {h : List Ob} {xa : MQ (List D)} {ds : List D} (a : YL p h xa ds) (l : ds.length ≤ 100) (pu : pureL ds = true) : YT p h (mnLstF xa) (.lst false ds) := fun m s => by
  unfold mnLstF
  rw [a m s, Res.bind_ok, pu, decide_eq_true (show ds.length ≤ sizeLine by rw [sizeLine_eq]; omega)]
  rfl
theorem YM.appX {p : Pt} {h h2 : List Ob} {q x : MQ D} {e : α → D} {cs : List Nat} {f : String} {n : Nat} {v : α} (a : YT p h q (.loc n)) (b : YT p h x (e v)) (k : appAO e cs f h n v = some h2) : YM p h (mAppA cs f q x) .non p h2 := fun m s => by
  obtain ⟨xs, k1, k⟩ := Option.bind_eq_some_iff.mp k
  obtain ⟨k2, k⟩ := gd_some k
  obtain ⟨ob, g, c, rfl⟩ := setD_some k
  have k1 := fldO_some k1
  rw [Bool.and_eq_true] at c
  unfold fldD at k1
  rw [g] at k1
  dsimp only at k1
  rw [if_pos c.1] at k1
  refine ⟨⟨m.env, h.set n ⟨ob.cls, setF f (eL true e (xs ++ [v])) ob.fs⟩⟩, ?_, ⟨s.e, rfl⟩⟩
  unfold mAppA
  rw [a m s, Res.bind_ok]
  dsimp only
  rw [s.h, g]
  dsimp only
  rw [c.1, k1]
  show ((x m).bind _) = _
  rw [b m s, Res.bind_ok]
  show appAt _ _ _ _ _ _ = _
  unfold appAt
  rw [List.length_map, decide_eq_true (show xs.length < sizeLine by rw [sizeLine_eq]; exact k2), s.h]
  show Res.ok _ = Res.ok _
  unfold eL
  rw [List.map_append]
  rfl
theorem YM.appP {p : Pt} {h : List Ob} {i j : Nat} {q x : MQ D} {e : α → D} {ds ds' : List D} {xs ys : List α} {k : Int} {v : α} (g0 : p[i]? = some (some (.tup ds))) (a : YT p h q (.int k)) (ej : L2.ixN ds.length k = some j) (ed : ds[j]? = some (.lst true (xs.map e))) (b : YT p h x (e v)) (l : appO xs v = some ys) (eq : ds.set j (.lst true (ys.map e)) = ds') :
    YM p h (mAppP i q x) .non (p.set i (some (.tup ds'))) h := fun m s => by
  obtain ⟨l1, l2⟩ := gd_some l
  cases l2
  refine ⟨⟨m.env.set i (.tup ds'), m.hs⟩, ?_, s.e.set i _, s.h⟩
  unfold mAppP
  rw [YT.var g0 rfl m s, Res.bind_ok, a m s, Res.bind_ok]
  show (match L2.ixN ds.length k with | some j => _ | none => _) = _
  rw [ej]
  dsimp only
  rw [ed]
  show ((x m).bind _) = _
  rw [b m s, Res.bind_ok]
  unfold E.appP
  rw [List.length_map, decide_eq_true (show xs.length < sizeLine by rw [sizeLine_eq]; exact l1)]
  show Res.ok _ = Res.ok _
  rw [← eq, List.map_append]
  rfl
theorem YM.methE {p p0 p1 q p' : Pt} {h h0 h1 h' : List Ob} {f : CallM} {dd : List D} {c n : Nat} {mn : String} {x : M D} {ma : M (List E.Arg)} {as : List E.Arg} {d : D} {ds ds' : List D} {is : List (Option Nat)} (b : YM p h x (.loc n) p0 h0) (o : isO c mn h0 n = true) (a : YA p0 h0 ma as p1 h1) (g : Gr (.val (.loc n) :: as) p1 ds is q) (e : f (ds ++ dd) h1 = .ok (d, ds', h')) (k : gbk is ds' q = p') : YM p h (mMethE c mn f dd x ma) d p' h' := fun m s => by
  obtain ⟨m0, e0, s0⟩ := b m s
  obtain ⟨m1, e1, s1⟩ := a m0 s0
  obtain ⟨e', g1, g2⟩ := g.eq s1.e
  refine ⟨⟨giveBack is ds' e', h'⟩, ?_, ?_, rfl⟩
  · unfold mMethE
    rw [e0, Res.bind_ok]
    have o2 : isOf c mn m0 (.loc n) = true := by
      unfold isOf
      unfold isO at o
      dsimp only
      rw [s0.h]
      exact o
    dsimp only
    rw [o2]
    show ((ma m0).bind _) = _
    rw [e1, Res.bind_ok]
    unfold callTail
    dsimp only
    rw [g1, Res.bind_ok]
    dsimp only
    rw [s1.h, e]
    rfl
  · rw [← k]
    exact gbk_mt is ds' g2
def isC (c : Nat) (h : List Ob) (n : Nat) : Bool := match h[n]? with
  | some ob => ob.cls == c
  | none => false
theorem YM.prop {p p0 q p' : Pt} {h h0 h' : List Ob} {f : CallM} {dd : List D} {c n : Nat} {x : M D} {d : D} {ds ds' : List D} {is : List (Option Nat)} (b : YM p h x (.loc n) p0 h0) (o : isC c h0 n = true) (g : Gr [.val (.loc n)] p0 ds is q) (e : f (ds ++ dd) h0 = .ok (d, ds', h')) (k : gbk is ds' q = p') : YM p h (mProp c f dd x) d p' h' := fun m s => by
  obtain ⟨m0, e0, s0⟩ := b m s
  obtain ⟨e', g1, g2⟩ := g.eq s0.e
  refine ⟨⟨giveBack is ds' e', h'⟩, ?_, ?_, rfl⟩
  · unfold mProp
    rw [e0, Res.bind_ok]
    have o2 : isCl c m0 (.loc n) = true := by
      unfold isCl
      unfold isC at o
      dsimp only
      rw [s0.h]
      exact o
    dsimp only
    rw [o2]
    rw [Res.when_true]
    unfold callTail
    rw [g1, Res.bind_ok]
    dsimp only
    rw [s0.h, e]
    rfl
  · rw [← k]
    exact gbk_mt is ds' g2
theorem YT.mncb {p : Pt} {h : List Ob} {g : List D → Res D} {ql : MQ (List D)} {ds : List D} {d d' : D} (a : YL p h ql ds) (b : g ds = .ok d) (c : d.fz = d') : YT p h (mnCB g ql) d' := fun m s => by
  unfold mnCB
  rw [a m s, Res.bind_ok, b, ← c]
  rfl
theorem YM.extL {p p' : Pt} {h h' : List Ob} {i : Nat} {x : M D} {d1 : D} {e : α → D} (pu : ∀ a, (e a).pure = true) {xs ys zs : List α} (g0 : p[i]? = some (some d1)) (n0 : d1.isL = true) (b : YM p h x (.lst true (ys.map e)) p' h') (g1 : p'[i]? = some (some (.lst true (xs.map e)))) (hs : catO xs ys = some zs) :
    YM p h (mExtN i x) .non (p'.set i (some (.lst true (zs.map e)))) h' := fun m s => by
  obtain ⟨c, hs⟩ := gd_some hs
  cases hs
  obtain ⟨m2, e2, s2⟩ := b m s
  refine ⟨⟨m2.env.set i (.lst true ((xs ++ ys).map e)), m2.hs⟩, ?_, s2.e.set i _, s2.h⟩
  unfold mExtN
  rw [YT.var g0 (by cases d1 <;> first | rfl | cases n0) m s, Res.bind_ok, n0]
  show ((x m).bind _) = _
  rw [e2, Res.bind_ok]
  unfold extAt
  rw [YT.var g1 rfl m2 s2, Res.bind_ok]
  dsimp only
  rw [List.length_map, List.length_map, decide_eq_true (show xs.length + ys.length ≤ sizeLine by rw [sizeLine_eq]; exact c), puM pu, List.map_append]
  rfl
theorem sum_L {o : Bool} (xs : List Int) : dSum [.lst o (xs.map D.int)] = .ok (.int xs.sum) := by
  show ((Res.of (toInts (xs.map D.int))).bind _) = _
  rw [toInts_map]
  rfl
theorem YM.slN {p p' : Pt} {h h' : List Ob} {i : Nat} {ql : MQ (Option Int)} {mb : M D} {d0 d d' : D} {lo : Option Int} {k : Int} (g0 : p[i]? = some (some d0)) (n0 : d0.defd = true) (l : YO p h ql lo) (b : YM p h mb (.int k) p' h') (g1 : p'[i]? = some (some d)) (n1 : d.defd = true) (s : dSl d lo (some k) = .ok d') : YM p h (mSlN i ql mb) d' p' h' := fun m sx => by
  obtain ⟨m2, e2, s2⟩ := b m sx
  refine ⟨m2, ?_, s2⟩
  unfold mSlN
  rw [YT.var g0 n0 m sx, Res.bind_ok, l m sx, Res.bind_ok, e2, Res.bind_ok]
  unfold slAt
  dsimp only
  rw [YT.var g1 n1 m2 s2, Res.bind_ok, s]
  rfl
end Y
/-! YI: boxes, places, texts -/
namespace Y
open PySem E
open L2 (ixN atI)
variable {α β γ R S : Type}

/-! ### boxes -/
noncomputable def boxO (e : α → D) (h : List Ob) (k : Nat) : Option α := (boxIn h[k]?).bind (invO e)
theorem boxO_some {e : α → D} {h : List Ob} {k : Nat} {x : α} (b : boxO e h k = some x) : boxIn h[k]? = some (e x) := by
  obtain ⟨d, h1, h2⟩ := Option.bind_eq_some_iff.mp b
  rw [h1, invO_some h2]
theorem boxO_eq {e : α → D} (inj : ∀ a b, e a = e b → a = b) {h : List Ob} {k : Nat} {x : α} (g : h[k]? = some ⟨BOXC, [("", e x)]⟩) : boxO e h k = some x := by
  unfold boxO
  rw [g, boxIn_box]
  exact invO_eq inj x
def setB (h : List Ob) (k : Nat) (d : D) : List Ob := h.set k ⟨BOXC, [("", d)]⟩
theorem YT.un {p : Pt} {h : List Ob} {q : MQ D} {e : α → D} {k : Nat} {x : α} (a : YT p h q (.loc k)) (b : boxO e h k = some x) : YT p h (mqUn q) (e x) := fun m s => by
  unfold mqUn
  rw [a m s, Res.bind_ok]
  unfold unB
  dsimp only
  rw [s.h, boxO_some b]
theorem YT.unP {p : Pt} {h : List Ob} {q : MQ D} {d : D} (a : YT p h q d) (b : ∀ m, unB m d = d) : YT p h (mqUn q) d := fun m s => by
  unfold mqUn
  rw [a m s, Res.bind_ok, b]
theorem YM.box {p p' : Pt} {h h' : List Ob} {x : M D} {d : D} (a : YM p h x d p' h') (o : d.owned = true) : YM p h (mBox x) (.loc h'.length) p' (h' ++ [⟨BOXC, [("", d)]⟩]) := fun m s => by
  obtain ⟨m1, e1, s1⟩ := a m s
  refine ⟨⟨m1.env, h' ++ [⟨BOXC, [("", d)]⟩]⟩, ?_, s1.e, rfl⟩
  unfold mBox
  rw [e1, Res.bind_ok]
  dsimp only
  rw [o, s1.h]
  rfl
/-! ### places -/
def YP (p : Pt) (h : List Ob) (rs : MQ Pl) (pl : Pl) : Prop := ∀ m, Sx p h m → rs m = .ok pl
def YGet (p : Pt) (h : List Ob) (pl : Pl) (d : D) : Prop := ∀ m, Sx p h m → pl.get m = some d
def YPut (p : Pt) (h : List Ob) (pl : Pl) (d : D) (p2 : Pt) (h2 : List Ob) : Prop := ∀ m, Sx p h m → Sx p2 h2 (pl.put d m)
theorem YP.nBx {p : Pt} {h : List Ob} {i k : Nat} (g : p[i]? = some (some (.loc k))) : YP p h (rsN i) (.bx k) := fun m s => by
  unfold rsN
  rw [YT.var g rfl m s, Res.bind_ok]
theorem YP.nNm {p : Pt} {h : List Ob} {i : Nat} {d : D} (g : p[i]? = some (some d)) (o : d.owned = true) : YP p h (rsN i) (.nm i) := fun m s => by
  unfold rsN
  rw [YT.var g (by cases d <;> first | rfl | cases o) m s, Res.bind_ok]
  cases d <;> first | rfl | cases o
theorem YP.aBx {p : Pt} {h : List Ob} {cs : List Nat} {f : String} {q : MQ D} {n k : Nat} (a : YT p h q (.loc n)) (b : fldO D.loc cs f h n = some k) : YP p h (rsA cs f q) (.bx k) := fun m s => by
  have b := fldO_some b
  unfold rsA
  rw [a m s, Res.bind_ok]
  unfold fldD at b
  dsimp only
  split at b
  · rename_i ob g
    rw [s.h, g]
    split at b
    · rename_i c
      dsimp only
      rw [c, b]
      rfl
    · cases b
  · cases b
theorem YP.aAt {p : Pt} {h : List Ob} {cs : List Nat} {f : String} {q : MQ D} {n : Nat} {e : α → D} {x : α} (a : YT p h q (.loc n)) (b : fldO e cs f h n = some x) (o : (e x).owned = true) : YP p h (rsA cs f q) (.at n f) := fun m s => by
  have b := fldO_some b
  unfold rsA
  rw [a m s, Res.bind_ok]
  unfold fldD at b
  dsimp only
  split at b
  · rename_i ob g
    rw [s.h, g]
    split at b
    · rename_i c
      dsimp only
      rw [c, b]
      show (match e x with | .loc k => Res.ok (Pl.bx k) | _ => Res.ok (Pl.at n f)) = _
      generalize e x = z at o
      cases z <;> first | rfl | cases o
    · cases b
  · cases b
theorem YGet.bx {p : Pt} {h : List Ob} {k : Nat} {e : α → D} {x : α} (b : boxO e h k = some x) : YGet p h (.bx k) (e x) := fun m s => by
  show boxIn m.hs[k]? = _
  rw [s.h]
  exact boxO_some b
theorem YGet.nm {p : Pt} {h : List Ob} {i : Nat} {d : D} (g : p[i]? = some (some d)) : YGet p h (.nm i) d := fun m s => s.e.get g
theorem YPut.bx {p : Pt} {h : List Ob} {k : Nat} {d : D} : YPut p h (.bx k) d p (setB h k d) := fun m s => ⟨s.e, by
  show m.hs.set k _ = _
  rw [s.h]
  rfl⟩
theorem YPut.nm {p : Pt} {h : List Ob} {i : Nat} {d : D} : YPut p h (.nm i) d (p.set i (some d)) h := fun m s => ⟨s.e.set i d, s.h⟩
section
variable {T : String} {g : D → List D → Res (D × D)} {rs : MQ Pl} {pl : Pl} {p p1 p2 : Pt} {h h1 h2 : List Ob} {ml : M (List E.Arg)} {as : List E.Arg} {ds : List D} {d0 d res d' : D}
theorem YM.opL (a : YP p h rs pl) (lt : pl.late = true) (g0 : YGet p h pl d0) (t0 : tyD T d0 = true) (b : YA p h ml as p1 h1) (v : vals as = .ok ds) (g1 : YGet p1 h1 pl d) (t1 : tyD T d = true) (e : g d ds = .ok (res, d')) (put : YPut p1 h1 pl d' p2 h2) : YM p h (mOpL T g rs ml) res p2 h2 := fun m s => by
  obtain ⟨m1, e1, s1⟩ := b m s
  refine ⟨pl.put d' m1, ?_, put m1 s1⟩
  unfold mOpL
  rw [a m s, Res.bind_ok, lt, Res.when_true, g0 m s]
  show Res.when (tyD T d0) _ = _
  rw [t0, Res.when_true, e1, Res.bind_ok]
  dsimp only
  rw [v, Res.bind_ok, g1 m1 s1]
  show Res.when (tyD T d) _ = _
  rw [t1, Res.when_true, e]
  rfl
theorem YM.opW {al : MQ (List D)} (a : YP p h rs pl) (g0 : YGet p h pl d) (t0 : tyD T d = true) (b : YL p h al ds) (e : g d ds = .ok (res, d')) (put : YPut p h pl d' p2 h2) : YM p h (mOpW T g rs al) res p2 h2 := fun m s => by
  refine ⟨pl.put d' m, ?_, put m s⟩
  unfold mOpW
  rw [a m s, Res.bind_ok, g0 m s]
  show Res.when (tyD T d) _ = _
  rw [t0, Res.when_true, b m s, Res.bind_ok, e]
  rfl
theorem YM.op0 (a : YP p h rs pl) (g0 : YGet p h pl d) (t0 : tyD T d = true) (e : g d [] = .ok (res, d')) (put : YPut p h pl d' p2 h2) : YM p h (mOp0 T g rs) res p2 h2 := fun m s => by
  refine ⟨pl.put d' m, ?_, put m s⟩
  unfold mOp0
  rw [a m s, Res.bind_ok, g0 m s]
  show Res.when (tyD T d) _ = _
  rw [t0, Res.when_true, e]
  rfl
theorem YG.subP {q : MQ D} {kd y : D} (a : YP p h rs pl) (b : YT p h q kd) (pk : kd.pure = true) (g0 : YGet p h pl d) (df : d.defd = true) (e : g d [kd, y] = .ok (res, d')) (put : YPut p h pl d' p2 h2) : YG p h (bSubP g rs q y) p2 h2 := fun m s => by
  refine ⟨pl.put d' m, ?_, put m s⟩
  unfold bSubP
  rw [a m s, Res.bind_ok, b m s, Res.bind_ok, pk, Res.when_true, g0 m s]
  show Res.when d.defd _ = _
  rw [df, Res.when_true, e]
  rfl
end
theorem gapp_L {e : α → D} {xs ys : List α} {a : α} (h : appO xs a = some ys) : gAppend (.lst true (xs.map e)) [e a] = .ok (.non, .lst true (ys.map e)) := by
  obtain ⟨c, h⟩ := gd_some h
  cases h
  show Res.when _ _ = _
  rw [List.length_map, decide_eq_true (show xs.length < sizeLine by rw [sizeLine_eq]; exact c), List.map_append]
  rfl
theorem gins_L {e : α → D} {xs ys : List α} {k : Int} {a : α} (h : insO xs k a = some ys) : gInsert (.lst true (xs.map e)) [.int k, e a] = .ok (.non, .lst true (ys.map e)) := by
  obtain ⟨c, h⟩ := gd_some h
  cases h
  show Res.when _ _ = _
  rw [List.length_map, decide_eq_true (show xs.length < sizeLine by rw [sizeLine_eq]; exact c.1), decide_eq_true c.2, insL_map]
  rfl
theorem gext_L {e : α → D} {xs ys zs : List α} (h : catO xs ys = some zs) : gExtend (.lst true (xs.map e)) [.lst true (ys.map e)] = .ok (.non, .lst true (zs.map e)) := by
  obtain ⟨c, h⟩ := gd_some h
  cases h
  show Res.when _ _ = _
  rw [List.length_map, List.length_map, decide_eq_true (show xs.length + ys.length ≤ sizeLine by rw [sizeLine_eq]; exact c), List.map_append]
  rfl
theorem er_map (e : α → β) : ∀ (xs : List α) (k : Nat), (xs.map e).eraseIdx k = (xs.eraseIdx k).map e
  | [], _ => rfl
  | _ :: _, 0 => rfl
  | x :: xs, k + 1 => by
    show e x :: (xs.map e).eraseIdx k = e x :: (xs.eraseIdx k).map e
    rw [er_map e xs k]
def popO (xs : List α) : Option (α × List α) := (xs[xs.length - 1]?).map fun a => (a, xs.eraseIdx (xs.length - 1))
theorem gpop_L {e : α → D} {xs : List α} {r : α × List α} (h : popO xs = some r) : gPop (.lst true (xs.map e)) [] = .ok (e r.1, .lst true (r.2.map e)) := by
  unfold popO at h
  rw [Option.map_eq_some_iff] at h
  obtain ⟨a, h1, rfl⟩ := h
  show ((Res.of ((xs.map e)[(xs.map e).length - 1]?)).bind _) = _
  rw [List.length_map, List.getElem?_map, h1]
  show Res.ok _ = Res.ok _
  rw [er_map]
noncomputable def popAtO (xs : List α) (i : Int) : Option (α × List α) := gd (-9223372036854775808 ≤ i ∧ i < 9223372036854775808) ((seqIndex? i xs.length).bind fun k => (xs[k]?).map fun a => (a, xs.eraseIdx k))
theorem gpopAt_L {e : α → D} {xs : List α} {i : Int} {r : α × List α} (h : popAtO xs i = some r) : gPopAt (.lst true (xs.map e)) [.int i] = .ok (e r.1, .lst true (r.2.map e)) := by
  obtain ⟨c, h⟩ := gd_some h
  obtain ⟨k, h1, h2⟩ := Option.bind_eq_some_iff.mp h
  rw [Option.map_eq_some_iff] at h2
  obtain ⟨a, h3, rfl⟩ := h2
  show Res.when _ _ = _
  rw [decide_eq_true c, Res.when_true, List.length_map, h1]
  show ((Res.of ((xs.map e)[k]?)).bind _) = _
  rw [List.getElem?_map, h3]
  show Res.ok _ = Res.ok _
  rw [er_map]
theorem YI.bx {p : Pt} {h : List Ob} {q : MQ D} {e : α → D} {k : Nat} {xs : List α} (pu : ∀ a, (e a).pure = true) (a : YT p h q (.loc k)) (b : boxO (fun xs : List α => D.lst true (xs.map e)) h k = some xs) : YI p h (miBx q) (xs.map e) (fun m' => boxIn m'.hs[k]? = some (.lst true (xs.map e))) p h := fun m s => by
  refine ⟨m, ?_, s⟩
  unfold miBx
  rw [a m s, Res.bind_ok]
  dsimp only
  have : boxIn m.hs[k]? = some (.lst true (xs.map e)) := by rw [s.h]; exact boxO_some (e := fun xs : List α => D.lst true (xs.map e)) b
  rw [this]
  show Res.when (pureL (xs.map e)) _ = _
  rw [puM pu]
  rfl
theorem box_ok {p : Pt} {h : List Ob} {m : Mem} {e : α → D} {k : Nat} {x : α} (s : Sx p h m) (b : boxO e h k = some x) : boxIn m.hs[k]? = some (e x) := by rw [s.h]; exact boxO_some b

/-! ### texts -/
def signsS (z : Str) : List Str := z.cps.toList.map fun c => ⟨#[c]⟩
theorem signs_map (z : Str) : signs z = (signsS z).map D.str := by
  unfold signs signsS
  rw [List.map_map]
  rfl
theorem YI.t {p p' : Pt} {h h' : List Ob} {e : M D} {z : Str} (a : YM p h e (.str z) p' h') : YI p h (miT e) ((signsS z).map D.str) (fun _ => True) p' h' := fun m s => by
  obtain ⟨m1, e1, s1⟩ := a m s
  refine ⟨m1, ?_, s1⟩
  unfold miT
  rw [e1, Res.bind_ok]
  dsimp only
  rw [signs_map]
noncomputable def atS (z : Str) (i : Int) : Option Str := gd (z.length ≤ 16777216) ((atI z.cps.toList i).map fun c => ⟨#[c]⟩)
theorem ix_S {z y : Str} {i : Int} (h : atS z i = some y) : dIx (.str z) (.int i) = .ok (.str y) := by
  obtain ⟨c, h⟩ := gd_some h
  rw [Option.map_eq_some_iff] at h
  obtain ⟨a, h1, rfl⟩ := h
  show Res.when _ _ = _
  rw [decide_eq_true (show z.length ≤ sizeLine by rw [sizeLine_eq]; exact c), Res.when_true, h1]
  rfl
noncomputable def cutSO (z : Str) (lo hi : Option Int) : Option Str := gd (z.length ≤ 16777216) (some (L2.cutS z lo hi))
theorem sl_S {z y : Str} {lo hi : Option Int} (h : cutSO z lo hi = some y) : dSl (.str z) lo hi = .ok (.str y) := by
  obtain ⟨c, h⟩ := gd_some h
  cases h
  show Res.when _ _ = _
  rw [decide_eq_true (show z.length ≤ sizeLine by rw [sizeLine_eq]; exact c)]
  rfl
noncomputable def catSO (x y : Str) : Option Str := gd (x.length + y.length ≤ 16777216) (some (x ++ y))
theorem cat_S {x y z : Str} (h : catSO x y = some z) : dAdd (.str x) (.str y) = .ok (.str z) := by
  obtain ⟨c, h⟩ := gd_some h
  cases h
  show Res.when _ _ = _
  rw [decide_eq_true (show x.length + y.length ≤ sizeLine by rw [sizeLine_eq]; exact c)]
  rfl
noncomputable def srtSO (xs : List Str) : Option (List Str) := gd (xs.length < 64) (some (sortS xs))
theorem sort_S {o : Bool} {xs ys : List Str} (h : srtSO xs = some ys) : dSortS [.lst o (xs.map D.str)] = .ok (.lst true (ys.map D.str)) := by
  obtain ⟨c, h⟩ := gd_some h
  cases h
  cases xs with
  | nil => rfl
  | cons x xs =>
    have e2 := toStrs_map (x :: xs)
    have : dSortS [.lst o ((x :: xs).map D.str)] = (Res.of (toStrs ((x :: xs).map D.str))).bind fun ns => Res.when (decide (ns.length < 64)) (.ok (.lst true ((sortS ns).map .str))) := rfl
    rw [this, e2, Res.of_some, Res.bind_ok, decide_eq_true c]
    rfl
theorem sort_I2 {o : Bool} {xs : List Int} : dSortS [.lst o (xs.map D.int)] = .ok (.lst true ((sortI xs).map D.int)) := by
  show (match toInts (xs.map D.int) with
      | some ns => Res.ok (D.lst true ((sortI ns).map D.int))
      | none => (Res.of (toStrs (xs.map D.int))).bind fun ns => Res.when (decide (ns.length < 64)) (.ok (D.lst true ((sortS ns).map D.str)))) = _
  rw [toInts_map]
/-! ### tuples -/
theorem add_T {xs ys zs : List D} (h0 : xs.isEmpty = false) (h1 : pureL xs = true) (h2 : pureL ys = true) (h3 : xs.length + ys.length ≤ 1000) (h4 : xs ++ ys = zs) : dAdd (.tup xs) (.tup ys) = .ok (.tup zs) := by
  show Res.when _ _ = _
  rw [h1, h2, decide_eq_true (show xs.length + ys.length ≤ sizeLine by rw [sizeLine_eq]; omega), h4]
  rfl
theorem sl_T {xs zs : List D} {lo hi : Option Int} (h1 : pureL xs = true) (h2 : (decide (HT.sIx xs.length 0 lo = 0) && decide (HT.sIx xs.length xs.length hi = xs.length)) = false) (h4 : cutD xs lo hi = zs) : dSl (.tup xs) lo hi = .ok (.tup zs) := by
  show Res.when _ _ = _
  rw [h1, h4]
  rfl
theorem YI.enT {p : Pt} {h : List Ob} {q : MQ D} {xs : List D} (a : YT p h q (.tup xs)) (u : pureL xs = true) : YI p h (miEnT q) (enumD xs) (fun _ => True) p h := fun m s => by
  refine ⟨m, ?_, s⟩
  unfold miEnT
  rw [a m s, Res.bind_ok]
  show Res.when _ _ = _
  rw [u]
  rfl
theorem YI.or1 {p p' : Pt} {h h' : List Ob} {a b : M E.It} {xs : List D} {ok : Mem → Prop} (x : YI p h a xs ok p' h') : YI p h (miOr a b) xs ok p' h' := fun m s => by
  obtain ⟨m1, e1, s1⟩ := x m s
  refine ⟨m1, ?_, s1⟩
  unfold miOr
  rw [e1]
theorem YI.or2 {p p' : Pt} {h h' : List Ob} {q : MQ D} {b : M E.It} {xs ys : List D} {o : Bool} {ok : Mem → Prop} (a : YT p h q (.lst o ys)) (x : YI p h b xs ok p' h') : YI p h (miOr (miEnT q) b) xs ok p' h' := fun m s => by
  obtain ⟨m1, e1, s1⟩ := x m s
  refine ⟨m1, ?_, s1⟩
  unfold miOr miEnT
  rw [a m s, Res.bind_ok]
  exact e1
theorem unb_O {e : α → D} (n : ∀ a m, unB m (e a) = e a) (x : Option α) : ∀ m, unB m (eO e x) = eO e x := fun m => by
  cases x with
  | none => rfl
  | some a => exact n a m
theorem sort_A1 {ds : List D} {d : D} (h : dSortS ds = .ok d) : dSortA ds = .ok d := by
  unfold dSortA
  rw [h]
theorem toPairs_pD : ∀ ps : List (Int × Int), toPairs (ps.map pD) = some ps
  | [] => rfl
  | p :: ps => by
    rw [List.map_cons, toPairs, toPairs_pD ps]
    rfl
theorem sort_AQ {o : Bool} {xs : List (Int × Int)} : dSortA [.lst o (xs.map pD)] = .ok (.lst true ((sortQ xs).map pD)) := by
  cases xs with
  | nil => rfl
  | cons p ps =>
    have e1 : dSortS [.lst o ((p :: ps).map pD)] = .fail := rfl
    have e2 : dSortQ [.lst o ((p :: ps).map pD)] = (Res.of (toPairs ((p :: ps).map pD))).bind fun ps => .ok (.lst true ((sortQ ps).map pD)) := rfl
    unfold dSortA
    rw [e1]
    dsimp only
    rw [e2, toPairs_pD]
    rfl
/-! ### data of any kind -/
theorem deps_mem : ∀ {ds : List Dat} {d : Dat}, d ∈ ds → d.dep ≤ deps ds
  | x :: xs, d, m => by
    rw [deps]
    rcases List.mem_cons.mp m with rfl | m
    · omega
    · have := deps_mem m
      omega
def atV (v : V) (k : Int) : Option V := match v with
  | ⟨.tup ds, h⟩ => match e : atI ds k with
    | some d => some ⟨d, by
      have := deps_mem (atI_mem e)
      unfold Dat.dep at h
      omega⟩
    | none => none
  | _ => none
theorem ix_V {v w : V} {k : Int} (h : atV v k = some w) : dIx (e_V v) (.int k) = .ok (e_V w) := by
  unfold atV at h
  split at h
  · rename_i ds hd
    split at h
    · rename_i d e
      cases h
      show dIx (.tup (toDs ds)) (.int k) = _
      rw [toDs_map]
      exact ix_Q (e := Dat.toD) e
    · cases h
  · cases h
theorem dep_T {xs : List Dat} {n : Nat} (h : deps xs ≤ n) : (Dat.tup xs).dep ≤ n + 1 := by
  rw [Dat.dep]
  omega
theorem dnil {n : Nat} : deps [] ≤ n := Nat.zero_le _
theorem dcons {x : Dat} {xs : List Dat} {n : Nat} (h : x.dep ≤ n) (k : deps xs ≤ n) : deps (x :: xs) ≤ n := by
  rw [deps]
  omega
theorem deps_map {f : α → Dat} {n : Nat} (h : ∀ z, (f z).dep ≤ n) : ∀ xs : List α, deps (xs.map f) ≤ n
  | [] => Nat.zero_le _
  | x :: xs => dcons (h x) (deps_map h xs)
theorem dep_O {f : α → Dat} {n : Nat} (h : ∀ z, (f z).dep ≤ n) (x : Option α) : (Option.elim x Dat.non f).dep ≤ n := by
  cases x with
  | none => exact Nat.zero_le _
  | some a => exact h a
theorem tnil : ([] : List D) = toDs [] := rfl
theorem tcons {d : D} {ds : List D} {x : Dat} {xs : List Dat} (h : d = x.toD) (k : ds = toDs xs) : d :: ds = toDs (x :: xs) := by
  rw [toDs, h, k]
theorem tmap {e : α → D} {f : α → Dat} (h : ∀ z, e z = (f z).toD) : ∀ xs : List α, xs.map e = toDs (xs.map f)
  | [] => rfl
  | x :: xs => by
    rw [List.map_cons, List.map_cons]
    exact tcons (h x) (tmap h xs)
theorem tO {e : α → D} {f : α → Dat} (h : ∀ z, e z = (f z).toD) (x : Option α) : eO e x = (Option.elim x Dat.non f).toD := by
  cases x with
  | none => rfl
  | some a => exact h a
end Y
/-! YJ: to reckon: texts, ranges, encodings, objects -/
namespace Y
open PySem E
open L2 (ixN atI)
variable {α β γ R S : Type}
/-! ### texts -/
theorem sl_add (x y : Str) : (x ++ y).length = x.length + y.length := by
  rw [TL.len_tl, TL.len_tl, TL.len_tl, TL.tl_append, List.length_append]
theorem atS_of {z : Str} {i : Int} (h : z.length ≤ 10000) (h0 : 0 ≤ i) (h1 : i < (z.length : Int)) : ∃ y, atS z i = some y ∧ y.length = 1 := by
  unfold atS
  have e : z.length = z.cps.toList.length := TL.len_tl z
  rw [gd_of (by omega), atI_nn h0 (by omega)]
  exact ⟨_, rfl, rfl⟩
theorem catSO_of {x y : Str} (h : x.length + y.length ≤ 10000) : catSO x y = some (x ++ y) := gd_of (by omega)
theorem cutSO_of {x : Str} {lo hi : Option Int} (h : x.length ≤ 10000) : cutSO x lo hi = some (L2.cutS x lo hi) := gd_of (by omega)
def ltS (x y : Str) : Prop := x.cps.toList < y.cps.toList
instance (x y : Str) : Decidable (ltS x y) := by unfold ltS; infer_instance
theorem ltS_irr {x : Str} : ¬ ltS x x := List.lt_irrefl _
theorem ltS_trans {x y z : Str} (h : ltS x y) (k : ltS y z) : ltS x z := List.lt_trans h k
theorem ltS_tri (x y : Str) : ltS x y ∨ x = y ∨ ltS y x := by
  by_cases h : ltS x y
  · exact .inl h
  · by_cases k : ltS y x
    · exact .inr (.inr k)
    · refine .inr (.inl (leS_anti ?_ ?_))
      · unfold leS
        rw [decide_eq_false (show ¬ y.cps.toList < x.cps.toList from k)]
        rfl
      · unfold leS
        rw [decide_eq_false (show ¬ x.cps.toList < y.cps.toList from h)]
        rfl
theorem ltS_asym {x y : Str} (h : ltS x y) : ¬ ltS y x := fun k => ltS_irr (ltS_trans h k)
theorem leS_iff {x y : Str} : leS x y = true ↔ ¬ ltS y x := by
  unfold leS ltS
  simp
theorem empty_le (x : Str) : ¬ ltS x "" := fun h => by
  have : x.cps.toList < [] := h
  exact List.not_lt_nil _ this
/-! ### positions -/
theorem rangeI_at {n x : Int} {p q : List Int} (h : rangeI 0 n = p ++ x :: q) : x = (p.length : Int) ∧ (p.length : Int) < n := by
  have h1 : (rangeI 0 n)[p.length]? = some x := by rw [h]; simp
  unfold rangeI at h1
  rw [List.getElem?_map, Option.map_eq_some_iff] at h1
  obtain ⟨j, h2, h3⟩ := h1
  obtain ⟨h4, h5⟩ := List.getElem?_eq_some_iff.mp h2
  rw [List.getElem_range] at h5
  rw [List.length_range] at h4
  omega
theorem enumI_at {xs : List α} {x : Int × α} {p q : List (Int × α)} (h : enumI xs = p ++ x :: q) : x.1 = (p.length : Int) ∧ xs[p.length]? = some x.2 := by
  have h1 : (enumI xs)[p.length]? = some x := by rw [h]; simp
  unfold enumI at h1
  rw [List.getElem?_map, Option.map_eq_some_iff] at h1
  obtain ⟨j, h2, h3⟩ := h1
  rw [List.getElem?_zip_eq_some] at h2
  obtain ⟨h4, h5⟩ := h2
  obtain ⟨h6, h7⟩ := List.getElem?_eq_some_iff.mp h4
  rw [List.getElem_range] at h7
  subst h3
  exact ⟨by simp [h7], h5⟩
@[simp] theorem length_enumI (xs : List α) : (enumI xs).length = xs.length := by simp [enumI]
theorem take_succ_at {xs : List α} {k : Nat} {x : α} (h : xs[k]? = some x) : xs.take (k + 1) = xs.take k ++ [x] := by
  rw [List.take_add_one, h]
  rfl
/-! ### comprehensions with a state -/
theorem lcS_all {tb : S → α → Option (Option β × S)} (I : S → Prop) (P : α → β → Prop) : ∀ {xs : List α} {s : S}, I s → (∀ s x, x ∈ xs → I s → ∃ y s', tb s x = some (some y, s') ∧ I s' ∧ P x y) →
    ∃ ys s', lcS tb xs s = some (ys, s') ∧ I s' ∧ Paired P xs ys
  | [], s, h, _ => ⟨[], s, rfl, h, .nil⟩
  | x :: xs, s, h, k => by
    obtain ⟨y, s1, e1, h1, p1⟩ := k s x (List.mem_cons_self ..) h
    obtain ⟨ys, s2, e2, h2, p2⟩ := lcS_all I P h1 fun s z m => k s z (List.mem_cons_of_mem _ m)
    rw [lcS, e1, Option.bind_some, e2, Option.bind_some]
    exact ⟨y :: ys, s2, rfl, h2, .cons p1 p2⟩
/-! ### encodings -/
theorem inj_int : ∀ a b : Int, D.int a = D.int b → a = b := fun a b h => by cases h; rfl
theorem inj_str : ∀ a b : Str, D.str a = D.str b → a = b := fun a b h => by cases h; rfl
theorem inj_bl : ∀ a b : Bool, D.bl a = D.bl b → a = b := fun a b h => by cases h; rfl
theorem inj_loc : ∀ a b : Nat, D.loc a = D.loc b → a = b := fun a b h => by cases h; rfl
theorem inj_O {e : α → D} (i : ∀ a b, e a = e b → a = b) (n : ∀ a, e a ≠ .non) : ∀ a b : Option α, eO e a = eO e b → a = b
  | none, none, _ => rfl
  | none, some b, h => absurd h.symm (n b)
  | some a, none, h => absurd h (n a)
  | some a, some b, h => by rw [i a b h]
theorem inj_map {e : α → D} (i : ∀ a b, e a = e b → a = b) : ∀ a b : List α, a.map e = b.map e → a = b := fun a b h => (List.map_inj_right fun x y => i x y).mp h
theorem inj_L {e : α → D} (i : ∀ a b, e a = e b → a = b) {o : Bool} : ∀ a b : List α, eL o e a = eL o e b → a = b := fun a b h => inj_map i a b (by
  unfold eL at h
  injection h)
theorem inj_Q {e : α → D} (i : ∀ a b, e a = e b → a = b) : ∀ a b : List α, eQ e a = eQ e b → a = b := fun a b h => inj_map i a b (by
  unfold eQ at h
  injection h)
/-! ### heaps -/
theorem hp_new (h : List Ob) (o : Ob) : (h ++ [o])[h.length]? = some o := by simp
theorem hp_set_new (h : List Ob) (o o' : Ob) : (h ++ [o]).set h.length o' = h ++ [o'] := by
  rw [List.set_append_right _ _ (Nat.le_refl _), Nat.sub_self]
  rfl
theorem hp_old {h : List Ob} {l : List Ob} {n : Nat} {o : Ob} (e : h[n]? = some o) : (h ++ l)[n]? = some o := by
  rw [List.getElem?_append_left (List.getElem?_eq_some_iff.mp e).1]
  exact e
theorem hp_lt {h : List Ob} {n : Nat} {o : Ob} (e : h[n]? = some o) : n < h.length := (List.getElem?_eq_some_iff.mp e).1
theorem hp_set {h : List Ob} {n : Nat} {o o' : Ob} (e : h[n]? = some o) : (h.set n o')[n]? = some o' := by
  rw [List.getElem?_set_self (hp_lt e)]
theorem hp_ne {h : List Ob} {n m : Nat} {o' : Ob} (e : n ≠ m) : (h.set n o')[m]? = h[m]? := List.getElem?_set_ne e
theorem setD_new {cs : List Nat} {f : String} {d : D} {h : List Ob} {ob : Ob} (c : (cs.contains ob.cls && decide (ob.fs.length < 1000)) = true) : setD cs f d (h ++ [ob]) h.length = some (h ++ [⟨ob.cls, setF f d ob.fs⟩]) := by
  rw [setD_eq (hp_new h ob) c, hp_set_new]
theorem Fas.fl {n : Nat} {e : α → List D} (o : Bool) (h : Fas n e) : Fa (n + 1) (fun x => .lst o (e x)) := by
  obtain ⟨py, h1, h2, h3, h4⟩ := h.ex
  exact ⟨fun x => .list (py x), fun x => by rw [D.toPy, h1]; rfl, fun x => by rw [PyData.plain, h2], fun x => by rw [PyData.depth]; exact Nat.succ_le_succ (h3 x), fun a b => by rw [PyData.eqv, h4]⟩
theorem toPy_o (o o' : Bool) (xs : List D) : (D.lst o xs).toPy = (D.lst o' xs).toPy := by rw [D.toPy, D.toPy]
theorem eq_o {o1 o2 o : Bool} {xs ys : List D} {r : Res D} (h : dEq (.lst o xs) (.lst o ys) = r) : dEq (.lst o1 xs) (.lst o2 ys) = r := by
  unfold dEq at h ⊢
  rw [toPy_o o1 o, toPy_o o2 o]
  exact h
theorem ne_o {o1 o2 o : Bool} {xs ys : List D} {r : Res D} (h : dNe (.lst o xs) (.lst o ys) = r) : dNe (.lst o1 xs) (.lst o2 ys) = r := by
  unfold dNe at h ⊢
  rw [toPy_o o1 o, toPy_o o2 o]
  exact h
def isLoc : D → Bool
  | .loc _ => true
  | _ => false
theorem YI.or2b {p p' : Pt} {h h' : List Ob} {q : MQ D} {b : M E.It} {d : D} {xs : List D} {ok : Mem → Prop} (n : isLoc d = false) (a : YT p h q d) (x : YI p h b xs ok p' h') : YI p h (miOr (miBx q) b) xs ok p' h' := fun m s => by
  obtain ⟨m1, e1, s1⟩ := x m s
  refine ⟨m1, ?_, s1⟩
  unfold miOr miBx
  rw [a m s, Res.bind_ok]
  cases d <;> first | exact e1 | (unfold isLoc at n; cases n)
theorem YM.tupRev {p : Pt} {h : List Ob} {q : MQ D} {ds : List D} (a : YT p h q (.tup ds)) (pu : pureL ds = true) : YM p h (mTupRev q) (.tup ds.reverse) p h := fun m s => by
  refine ⟨m, ?_, s⟩
  unfold mTupRev
  rw [a m s, Res.bind_ok]
  dsimp only
  rw [pu]
  rfl
theorem cat_Q {e : α → D} (pu : ∀ x, (e x).pure = true) {xs ys zs : List α} (h : catO xs ys = some zs) : dAdd (.tup (xs.map e)) (.tup (ys.map e)) = .ok (.tup (zs.map e)) := by
  obtain ⟨h1, h2⟩ := gd_some h
  cases h2
  show Res.when _ _ = _
  rw [puM pu, puM pu, List.length_map, List.length_map, decide_eq_true (show xs.length + ys.length ≤ sizeLine by rw [sizeLine_eq]; exact h1), List.map_append]
  rfl
theorem sl_Q {e : α → D} (pu : ∀ x, (e x).pure = true) {xs : List α} {lo hi : Option Int} : dSl (.tup (xs.map e)) lo hi = .ok (.tup ((cutL xs lo hi).map e)) := by
  show Res.when _ _ = _
  rw [puM pu, cut_map]
  rfl
end Y
/-! YK: typed dicts of ints or texts: lists of pairs -/
namespace Y
open PySem E
open L2 (atI ixN)
/-- keys: ints or texts -/
structure Kf {κ : Type} (ek : κ → D) (kk : κ → L2.Key) : Prop where
  t : ∀ a, toKey (ek a) = some (kk a)
  d : ∀ a, kD (kk a) = ek a
  i : ∀ a b, kk a = kk b → a = b
theorem kf_int : Kf D.int Sum.inl := ⟨fun _ => rfl, fun _ => rfl, fun a b h => by cases h; rfl⟩
theorem kf_str : Kf D.str Sum.inr := ⟨fun _ => rfl, fun _ => rfl, fun a b h => by cases h; rfl⟩
section
variable {κ α : Type} [DecidableEq κ] {ek : κ → D} {kk : κ → L2.Key} {e : α → D}
def lookK : List (κ × α) → κ → Option α
  | [], _ => none
  | p :: r, k => if p.1 = k then some p.2 else lookK r k
def putL (xs : List (κ × α)) (k : κ) (a : α) : List (κ × α) := if (lookK xs k).isSome = true then xs.map (fun p => if p.1 = k then (p.1, a) else p) else xs ++ [(k, a)]
def dropL (xs : List (κ × α)) (k : κ) : List (κ × α) := xs.filter fun p => decide (p.1 ≠ k)
def kvD (ek : κ → D) (e : α → D) (xs : List (κ × α)) : List (D × D) := xs.map fun p => (ek p.1, e p.2)
def eDic (o : Bool) (ek : κ → D) (e : α → D) (xs : List (κ × α)) : D := .dic o false (kvD ek e xs)
theorem Kf.eq (f : Kf ek kk) (a b : κ) : toKey (ek a) = some (kk b) ↔ a = b := by
  rw [f.t]
  exact ⟨fun h => f.i _ _ (Option.some.inj h), fun h => by rw [h]⟩
theorem valD_L (f : Kf ek kk) : ∀ (xs : List (κ × α)) (k : κ), valD (kvD ek e xs) (kk k) = (lookK xs k).map e
  | [], _ => rfl
  | p :: r, k => by
    unfold kvD
    rw [List.map_cons, valD, lookK]
    by_cases h : p.1 = k
    · rw [if_pos ((f.eq _ _).mpr h), if_pos h]
      rfl
    · rw [if_neg fun z => h ((f.eq _ _).mp z), if_neg h]
      exact valD_L f r k
theorem putD_L (f : Kf ek kk) (xs : List (κ × α)) (k : κ) (a : α) : putD (kvD ek e xs) (kk k) (e a) = kvD ek e (putL xs k a) := by
  unfold putD putL
  rw [valD_L f, Option.isSome_map]
  split
  · unfold kvD
    rw [List.map_map, List.map_map]
    apply List.map_congr_left
    intro p _
    show (if toKey (ek p.1) = some (kk k) then (ek p.1, e a) else (ek p.1, e p.2)) = _
    by_cases h : p.1 = k
    · rw [if_pos ((f.eq _ _).mpr h)]
      show _ = (fun p : κ × α => (ek p.1, e p.2)) (if p.1 = k then (p.1, a) else p)
      rw [if_pos h]
    · rw [if_neg fun z => h ((f.eq _ _).mp z)]
      show _ = (fun p : κ × α => (ek p.1, e p.2)) (if p.1 = k then (p.1, a) else p)
      rw [if_neg h]
  · unfold kvD
    rw [List.map_append, f.d]
    rfl
theorem dropD_L (f : Kf ek kk) : ∀ (xs : List (κ × α)) (k : κ), dropD (kvD ek e xs) (kk k) = kvD ek e (dropL xs k)
  | [], _ => rfl
  | p :: r, k => by
    have ih : dropD (kvD ek e r) (kk k) = kvD ek e (dropL r k) := dropD_L f r k
    unfold dropD dropL kvD at ih ⊢
    rw [List.map_cons, List.filter_cons, List.filter_cons]
    by_cases h : p.1 = k
    · have h2 : ¬ (decide (toKey (ek p.1) ≠ some (kk k)) = true) := by rw [decide_eq_true_eq]; exact fun z => z ((f.eq _ _).mpr h)
      have h3 : ¬ (decide (p.1 ≠ k) = true) := by rw [decide_eq_true_eq]; exact fun z => z h
      rw [if_neg h2, if_neg h3]
      exact ih
    · have h2 : toKey (ek p.1) ≠ some (kk k) := fun z => h ((f.eq _ _).mp z)
      rw [if_pos (decide_eq_true h2), if_pos (decide_eq_true h), List.map_cons, ih]
theorem pureK_L' (pu : ∀ x, (e x).pure = true) (xs : List (κ × α)) : pureK (kvD ek e xs) = true := by
  rw [pureK_all, List.all_eq_true]
  intro d m
  unfold kvD at m
  rw [List.map_map] at m
  obtain ⟨p, _, rfl⟩ := List.mem_map.mp m
  exact pu p.2
theorem puDic (pu : ∀ x, (e x).pure = true) (xs : List (κ × α)) : (eDic false ek e xs).pure = true := by
  unfold eDic D.pure
  rw [pureK_L' pu]
  rfl
theorem npDic {xs : List (κ × α)} : (eDic true ek e xs).pure = false := rfl
theorem fzDic (pu : ∀ x, (e x).pure = true) (xs : List (κ × α)) : (eDic true ek e xs).fz = eDic false ek e xs := by
  unfold eDic D.fz
  rw [fzK_pure _ (pureK_L' pu xs)]
theorem ix_D (f : Kf ek kk) {o : Bool} {xs : List (κ × α)} {k : κ} {v : α} (h : lookK xs k = some v) : dIx (eDic o ek e xs) (ek k) = .ok (e v) := by
  unfold eDic
  show (Res.of (toKey (ek k))).bind _ = _
  rw [f.t]
  show Res.of (valD (kvD ek e xs) (kk k)) = _
  rw [valD_L f, h]
  rfl
theorem in_D (f : Kf ek kk) {o : Bool} {xs : List (κ × α)} {k : κ} : dIn (ek k) (eDic o ek e xs) = .ok (.bl (lookK xs k).isSome) := by
  unfold eDic
  show (Res.of (toKey (ek k))).bind _ = _
  rw [f.t]
  show Res.ok (D.bl (valD (kvD ek e xs) (kk k)).isSome) = _
  rw [valD_L f, Option.isSome_map]
theorem notin_D (f : Kf ek kk) {o : Bool} {xs : List (κ × α)} {k : κ} : dNotIn (ek k) (eDic o ek e xs) = .ok (.bl (!(lookK xs k).isSome)) := by
  unfold eDic
  show (Res.of (toKey (ek k))).bind _ = _
  rw [f.t]
  show Res.ok (D.bl (!(valD (kvD ek e xs) (kk k)).isSome)) = _
  rw [valD_L f, Option.isSome_map]
noncomputable def putO (xs : List (κ × α)) (k : κ) (a : α) : Option (List (κ × α)) := gd (xs.length < 16777216) (some (putL xs k a))
theorem put_D (f : Kf ek kk) (pu : ∀ x, (e x).pure = true) {xs ys : List (κ × α)} {k : κ} {a : α} (h : putO xs k a = some ys) : gSetD (eDic true ek e xs) [ek k, e a] = .ok (.non, eDic true ek e ys) := by
  obtain ⟨h1, h2⟩ := gd_some h
  cases h2
  show gSetD (eDic true ek e xs) [ek k, e a] = _
  unfold eDic
  show (Res.of (toKey (ek k))).bind _ = _
  rw [f.t]
  show Res.when (pureK (kvD ek e xs) && ((e a).pure && decide ((kvD ek e xs).length < sizeLine))) (Res.ok (D.non, D.dic true false (putD (kvD ek e xs) (kk k) (e a)))) = _
  have hl : (kvD ek e xs).length < sizeLine := by
    unfold kvD
    rw [List.length_map, sizeLine_eq]
    exact h1
  rw [pureK_L' pu, pu, decide_eq_true hl, putD_L f]
  rfl
theorem get1_D (f : Kf ek kk) (pu : ∀ x, (e x).pure = true) {xs : List (κ × α)} {k : κ} : gDGet1 (eDic true ek e xs) [ek k] = .ok (eO e (lookK xs k), eDic true ek e xs) := by
  unfold eDic
  show (Res.of (toKey (ek k))).bind _ = _
  rw [f.t]
  show Res.when (pureK (kvD ek e xs)) (Res.ok ((valD (kvD ek e xs) (kk k)).getD D.non, _)) = _
  rw [pureK_L' pu, valD_L f]
  cases lookK xs k <;> rfl
theorem get2_D (f : Kf ek kk) (pu : ∀ x, (e x).pure = true) {xs : List (κ × α)} {k : κ} {y : α} : gDGet2 (eDic true ek e xs) [ek k, e y] = .ok (e ((lookK xs k).getD y), eDic true ek e xs) := by
  unfold eDic
  show (Res.of (toKey (ek k))).bind _ = _
  rw [f.t]
  show Res.when (pureK (kvD ek e xs) && (e y).pure) (.ok ((valD (kvD ek e xs) (kk k)).getD (e y), _)) = _
  rw [pureK_L' pu, pu, valD_L f]
  cases lookK xs k <;> rfl
theorem pop1_D (f : Kf ek kk) (pu : ∀ x, (e x).pure = true) {xs : List (κ × α)} {k : κ} {v : α} (h : lookK xs k = some v) : gDPop1 (eDic true ek e xs) [ek k] = .ok (e v, eDic true ek e (dropL xs k)) := by
  unfold eDic
  show (Res.of (toKey (ek k))).bind _ = _
  rw [f.t]
  show Res.when (pureK (kvD ek e xs)) ((Res.of (valD (kvD ek e xs) (kk k))).bind fun y => Res.ok (y, D.dic true false (dropD (kvD ek e xs) (kk k)))) = _
  rw [pureK_L' pu, valD_L f, h, dropD_L f]
  rfl
theorem pop2_D (f : Kf ek kk) (pu : ∀ x, (e x).pure = true) {xs : List (κ × α)} {k : κ} {y : α} : gDPop2 (eDic true ek e xs) [ek k, e y] = .ok (e ((lookK xs k).getD y), eDic true ek e (if (lookK xs k).isSome = true then dropL xs k else xs)) := by
  unfold eDic
  show (Res.of (toKey (ek k))).bind _ = _
  rw [f.t]
  show Res.when (pureK (kvD ek e xs) && (e y).pure) (match valD (kvD ek e xs) (kk k) with
    | some z => Res.ok (z, D.dic true false (dropD (kvD ek e xs) (kk k)))
    | none => Res.ok (e y, D.dic true false (kvD ek e xs))) = _
  rw [pureK_L' pu, pu, valD_L f, dropD_L f]
  cases lookK xs k <;> rfl
noncomputable def delO (xs : List (κ × α)) (k : κ) : Option (List (κ × α)) := gd ((lookK xs k).isSome = true) (some (dropL xs k))
theorem del_D (f : Kf ek kk) (pu : ∀ x, (e x).pure = true) {xs ys : List (κ × α)} {k : κ} (h : delO xs k = some ys) : gDel (eDic true ek e xs) [ek k] = .ok (.non, eDic true ek e ys) := by
  obtain ⟨h1, h2⟩ := gd_some h
  cases h2
  unfold eDic
  show (Res.of (toKey (ek k))).bind _ = _
  rw [f.t]
  show Res.when (pureK (kvD ek e xs) && (valD (kvD ek e xs) (kk k)).isSome) (Res.ok (D.non, D.dic true false (dropD (kvD ek e xs) (kk k)))) = _
  rw [pureK_L' pu, valD_L f, Option.isSome_map, h1, dropD_L f]
  rfl
theorem inj_Dic (ik : ∀ a b, ek a = ek b → a = b) (i : ∀ a b, e a = e b → a = b) {o : Bool} : ∀ a b : List (κ × α), eDic o ek e a = eDic o ek e b → a = b := fun a b h => by
  unfold eDic at h
  injection h with _ _ h
  unfold kvD at h
  refine (List.map_inj_right fun p q h => ?_).mp h
  injection h with h1 h2
  exact Prod.ext (ik _ _ h1) (i _ _ h2)
end
theorem YM.dic0 {p : Pt} {h : List Ob} : YM p h mDic0 (.dic true false []) p h := fun m s => ⟨m, rfl, s⟩
theorem run_delP {p p2 : Pt} {h h2 : List Ob} {m : Mem} {rest : MS} {Q : Fl → Mem → Prop} {rs : MQ Pl} {pl : Pl} {q : MQ D} {kd d d' res : D} (hm : Sx p h m) (a : YP p h rs pl) (b : YT p h q kd) (pk : kd.pure = true) (g0 : YGet p h pl d) (df : d.defd = true) (e : gDel d [kd] = .ok (res, d')) (put : YPut p h pl d' p2 h2)
    (k : ∀ m, Sx p2 h2 m → Run rest m Q) : Run (sSeq (sDelP rs q) rest) m Q := by
  obtain ⟨o, e3, q3⟩ := k _ (put m hm)
  refine ⟨o, ?_, q3⟩
  rw [seq_eq (m1 := pl.put d' m), e3]
  unfold sDelP
  rw [a m hm, Res.bind_ok, b m hm, Res.bind_ok, pk, Res.when_true, g0 m hm]
  show Res.when d.defd _ = _
  rw [df, Res.when_true, e]
  rfl
noncomputable def srtKO {α : Type} (xs : List (Str × α)) : Option (List Str) := gd (xs.length < 64) (some (sortS (xs.map (·.1))))
theorem sort_D {α : Type} {e : α → D} {o : Bool} {xs : List (Str × α)} {ys : List Str} (h : srtKO xs = some ys) : dSortD [eDic o D.str e xs] = .ok (.lst true (ys.map D.str)) := by
  obtain ⟨h1, h2⟩ := gd_some h
  cases h2
  unfold eDic
  show (Res.of (toStrs ((kvD D.str e xs).map (·.1)))).bind _ = _
  have : (kvD D.str e xs).map (·.1) = (xs.map (·.1)).map D.str := by
    unfold kvD
    rw [List.map_map, List.map_map]
    rfl
  rw [this, toStrs_map]
  show Res.when (decide ((xs.map (·.1)).length < 64)) _ = _
  rw [List.length_map, decide_eq_true h1]
  rfl
theorem len_D {κ α : Type} {ek : κ → D} {e : α → D} {o : Bool} {xs : List (κ × α)} : dLenD [eDic o ek e xs] = .ok (.int (xs.length : Int)) := by
  unfold eDic
  show Res.ok (D.int ((kvD ek e xs).length : Int)) = _
  unfold kvD
  rw [List.length_map]
/-! written dicts: records -/
def YPs (p : Pt) (h : List Ob) (mp : M (List (D × D))) (ps : List (D × D)) (p' : Pt) (h' : List Ob) : Prop := ∀ m, Sx p h m → ∃ m', mp m = .ok (ps, m') ∧ Sx p' h' m'
theorem YPs.nil {p : Pt} {h : List Ob} : YPs p h mpNil [] p h := fun m s => ⟨m, rfl, s⟩
theorem YPs.cons {p p1 p2 : Pt} {h h1 h2 : List Ob} {qk : MQ D} {mv : M D} {mp : M (List (D × D))} {kd d : D} {q : L2.Key} {ps : List (D × D)} (a : YT p h qk kd) (ek : toKey kd = some q) (b : YM p h mv d p1 h1) (pu : d.pure = true) (r : YPs p1 h1 mp ps p2 h2) : YPs p h (mpCons qk mv mp) ((kD q, d) :: ps) p2 h2 := fun m s => by
  obtain ⟨m1, e1, s1⟩ := b m s
  obtain ⟨m2, e2, s2⟩ := r m1 s1
  refine ⟨m2, ?_, s2⟩
  unfold mpCons
  rw [a m s, Res.bind_ok, ek]
  show (mv m).bind _ = _
  rw [e1, Res.bind_ok]
  dsimp only
  rw [pu, Res.when_true, e2]
  rfl
theorem YM.disp {p p1 : Pt} {h h1 : List Ob} {mp : M (List (D × D))} {ps dd : List (D × D)} {qs : List (L2.Key × D)} (a : YPs p h mp ps p1 h1) (eq : toKeys ps = some qs) (hl : ps.length ≤ 15) (em : mergeD [] qs = dd) : YM p h (mDisp mp) (.dic true false dd) p1 h1 := fun m s => by
  obtain ⟨m1, e1, s1⟩ := a m s
  refine ⟨m1, ?_, s1⟩
  unfold mDisp
  rw [e1, Res.bind_ok, eq]
  show Res.when (decide (ps.length ≤ 15)) _ = _
  rw [decide_eq_true hl, em]
  rfl
theorem valD_hit {s : Str} {d : D} {r : List (D × D)} : valD ((D.str s, d) :: r) (.inr s) = some d := by
  rw [valD]
  exact if_pos rfl
theorem valD_miss {s t : Str} {d : D} {r : List (D × D)} {o : Option D} (n : (s == t) = false) (h : valD r (.inr t) = o) : valD ((D.str s, d) :: r) (.inr t) = o := by
  rw [valD, if_neg]
  · exact h
  · intro z
    have z : (some (Sum.inr s) : Option L2.Key) = some (.inr t) := z
    injection z with z
    injection z with z
    rw [z] at n
    simp at n
theorem valD_nil {k : L2.Key} : valD [] k = none := rfl
theorem ix_R {o : Bool} {dd : List (D × D)} {t : Str} {d : D} (h : valD dd (.inr t) = some d) : dIx (.dic o false dd) (.str t) = .ok d := by
  show Res.of (valD dd (.inr t)) = _
  rw [h]
  rfl
/-- d[k] = y as it is written out -/
def replD : List (D × D) → Str → D → List (D × D)
  | [], _, _ => []
  | (q, d) :: r, t, y => (q, if toKey q = some (.inr t) then y else d) :: replD r t y
theorem replD_eq (t : Str) (y : D) : ∀ dd : List (D × D), dd.map (fun p => if toKey p.1 = some (.inr t) then (p.1, y) else p) = replD dd t y
  | [] => rfl
  | (q, d) :: r => by
    rw [List.map_cons, replD_eq t y r, replD]
    dsimp only
    split <;> rfl
theorem put_R {dd dd' : List (D × D)} {t : Str} {y d : D} (h : valD dd (.inr t) = some d) (pk : pureK dd = true) (py : y.pure = true) (hl : dd.length < 1000) (e : replD dd t y = dd') : gSetD (.dic true false dd) [.str t, y] = .ok (.non, .dic true false dd') := by
  show Res.when (pureK dd && (y.pure && decide (dd.length < sizeLine))) (Res.ok (D.non, D.dic true false (putD dd (.inr t) y))) = _
  rw [pk, py, decide_eq_true (show dd.length < sizeLine by rw [sizeLine_eq]; omega)]
  unfold putD
  rw [h, if_pos (show (some d).isSome = true from rfl), replD_eq, e]
  rfl
theorem add_R {dd dd' : List (D × D)} {t : Str} {y : D} (h : valD dd (.inr t) = none) (pk : pureK dd = true) (py : y.pure = true) (hl : dd.length < 1000) (e : dd ++ [(D.str t, y)] = dd') : gSetD (.dic true false dd) [.str t, y] = .ok (.non, .dic true false dd') := by
  show Res.when (pureK dd && (y.pure && decide (dd.length < sizeLine))) (Res.ok (D.non, D.dic true false (putD dd (.inr t) y))) = _
  rw [pk, py, decide_eq_true (show dd.length < sizeLine by rw [sizeLine_eq]; omega)]
  unfold putD
  rw [h, if_neg (by decide)]
  show Res.ok (D.non, D.dic true false (dd ++ [(D.str t, y)])) = _
  rw [e]
theorem replD_hit {t : Str} {y d : D} {r r' : List (D × D)} (h : replD r t y = r') : replD ((D.str t, d) :: r) t y = (D.str t, y) :: r' := by
  rw [replD, h, if_pos (show toKey (D.str t) = some (Sum.inr t) from rfl)]
theorem replD_miss {s t : Str} {y d : D} {r r' : List (D × D)} (n : (s == t) = false) (h : replD r t y = r') : replD ((D.str s, d) :: r) t y = (D.str s, d) :: r' := by
  rw [replD, h, if_neg]
  intro z
  have z : (some (Sum.inr s) : Option L2.Key) = some (.inr t) := z
  injection z with z
  injection z with z
  rw [z] at n
  simp at n
theorem mergeD_nil {dd : List (D × D)} : mergeD dd [] = dd := rfl
theorem mergeD_new {dd dd' : List (D × D)} {t : Str} {d : D} {r : List (L2.Key × D)} (h : valD dd (.inr t) = none) (e : mergeD (dd ++ [(D.str t, d)]) r = dd') : mergeD dd ((.inr t, d) :: r) = dd' := by
  rw [mergeD]
  unfold putD
  dsimp only
  rw [h, if_neg (by decide)]
  exact e
theorem pkc {k d : D} {r : List (D × D)} (a : d.pure = true) (b : pureK r = true) : pureK ((k, d) :: r) = true := by rw [pureK, a, b]; rfl
theorem pkn : pureK [] = true := rfl
theorem congrK {k a b : D} {r s : List (D × D)} (h : a = b) (h' : r = s) : (k, a) :: r = (k, b) :: s := by rw [h, h']
theorem puR {dd : List (D × D)} (h : pureK dd = true) : (D.dic false false dd).pure = true := by
  unfold D.pure
  rw [h]
  rfl
theorem npR {dd : List (D × D)} : (D.dic true false dd).pure = false := rfl
theorem fzR {dd : List (D × D)} (h : pureK dd = true) : (D.dic true false dd).fz = D.dic false false dd := by
  unfold D.fz
  rw [fzK_pure _ h]
/-! ints or texts -/
inductive W where
  | int (i : Int)
  | str (s : Str)
noncomputable instance : DecidableEq W := fun a b => Classical.propDecidable (a = b)
def e_W : W → D
  | .int i => .int i
  | .str s => .str s
theorem pu_W (w : W) : (e_W w).pure = true := by cases w <;> rfl
def W.dat : W → Dat
  | .int i => .int i
  | .str s => .str s
theorem W.dep (w : W) : w.dat.dep ≤ 0 := by cases w <;> exact Nat.le_refl 0
theorem W.eqd (w : W) : e_W w = w.dat.toD := by cases w <;> (unfold W.dat Dat.toD; rfl)
theorem Fa.W : Fa 0 e_W := ⟨fun w => w.dat.py, fun w => by rw [W.eqd]; exact w.dat.toPy, fun w => w.dat.plain, fun w => by rw [Dat.pyDep]; exact w.dep, fun a b => by
  rw [Dat.eqv]
  constructor
  · intro h
    cases a <;> cases b <;> simp [W.dat] at h
    · rw [h]
    · rw [h]
  · intro h; rw [h]⟩
def W.toI : W → Option Int
  | .int i => some i
  | .str _ => none
def W.toS : W → Option Str
  | .str s => some s
  | .int _ => none
theorem W.toI_eq {w : W} {i : Int} (h : w.toI = some i) : e_W w = .int i := by
  cases w with
  | int j => cases h; rfl
  | str s => cases h
theorem W.toS_eq {w : W} {s : Str} (h : w.toS = some s) : e_W w = .str s := by
  cases w with
  | int j => cases h
  | str t => cases h; rfl
def W.sel {β : Type} (w : W) (a b : β) : β := match w with
  | .int _ => a
  | .str _ => b
theorem isi_W {w : W} {t : D} {bi bs : Bool} (h1 : ∀ i, dIsi [D.int i, t] = .ok (.bl bi)) (h2 : ∀ s, dIsi [D.str s, t] = .ok (.bl bs)) : dIsi [e_W w, t] = .ok (.bl (w.sel bi bs)) := by
  cases w with
  | int i => exact h1 i
  | str s => exact h2 s
theorem isn_W (w : W) : E.isNone (e_W w) = false := by cases w <;> rfl
theorem isi_O2 {α : Type} {e : α → D} {x : Option α} {n : String} {f : α → Bool} {c : Bool} (h : ∀ a, dIsi [e a, .ty n] = .ok (.bl (f a))) (h2 : dIsi [.non, .ty n] = .ok (.bl c)) : dIsi [eO e x, .ty n] = .ok (.bl (x.elim c f)) := by
  cases x with
  | none => exact h2
  | some a => exact h a
theorem unb_W (w : W) : ∀ m, unB m (e_W w) = e_W w := fun m => by cases w <;> rfl
/-! what the lists of pairs do -/
section
variable {κ α : Type} [DecidableEq κ] {xs : List (κ × α)} {k q : κ} {a : α}
theorem look_map {f : α → α} : ∀ xs : List (κ × α), lookK (xs.map fun p => if p.1 = k then (p.1, a) else p) q = if q = k then (lookK xs q).map (fun _ => a) else lookK xs q
  | [] => by split <;> rfl
  | p :: r => by
    rw [List.map_cons, lookK, lookK, look_map (f := f) r]
    by_cases h : p.1 = k
    · rw [if_pos h]
      by_cases h2 : p.1 = q
      · have : q = k := by rw [← h2, h]
        rw [if_pos h2, if_pos h2, if_pos this]
        rfl
      · rw [if_neg h2, if_neg h2]
    · rw [if_neg h]
      by_cases h2 : p.1 = q
      · have : ¬ q = k := fun z => h (h2.trans z)
        rw [if_pos h2, if_pos h2, if_neg this]
      · rw [if_neg h2, if_neg h2]
theorem look_app (ys : List (κ × α)) : ∀ xs : List (κ × α), lookK (xs ++ ys) q = (lookK xs q).or (lookK ys q)
  | [] => by rw [List.nil_append]; rfl
  | p :: r => by
    rw [List.cons_append, lookK, lookK, look_app ys r]
    split <;> rfl
/-- a look behind d[k] = a -/
theorem look_put : lookK (putL xs k a) q = if q = k then some a else lookK xs q := by
  unfold putL
  split
  · rename_i h
    rw [look_map (f := id)]
    by_cases e : q = k
    · subst e
      rw [if_pos rfl, if_pos rfl]
      obtain ⟨v, hv⟩ := Option.isSome_iff_exists.mp h
      rw [hv]
      rfl
    · rw [if_neg e, if_neg e]
  · rename_i h
    rw [look_app]
    have hn : lookK xs k = none := by
      cases c : lookK xs k with
      | none => rfl
      | some v => rw [c] at h; exact absurd rfl h
    by_cases e : q = k
    · subst e
      rw [hn, if_pos rfl]
      show (lookK [(q, a)] q) = _
      rw [lookK, if_pos rfl]
    · rw [if_neg e]
      have : lookK [(k, a)] q = none := by rw [lookK, if_neg (Ne.symm e)]; rfl
      rw [this]
      cases lookK xs q <;> rfl
theorem look_drop : ∀ xs : List (κ × α), lookK (dropL xs k) q = if q = k then none else lookK xs q
  | [] => by split <;> rfl
  | p :: r => by
    have ih := look_drop r
    unfold dropL at ih ⊢
    rw [List.filter_cons]
    by_cases h : p.1 = k
    · rw [if_neg (by rw [decide_eq_true_eq]; exact fun z => z h), ih, lookK]
      by_cases e : q = k
      · rw [if_pos e, if_pos e]
      · rw [if_neg e, if_neg e, if_neg fun z => e (z.symm.trans h)]
    · have h2 : p.1 ≠ k := h
      rw [if_pos (decide_eq_true h2), lookK, lookK, ih]
      by_cases e : q = k
      · rw [if_pos e, if_pos e, if_neg fun z => h (z.trans e)]
      · rw [if_neg e, if_neg e]
theorem length_putL : (putL xs k a).length ≤ xs.length + 1 := by
  unfold putL
  split
  · rw [List.length_map]; omega
  · rw [List.length_append, List.length_singleton]; omega
theorem length_dropL : (dropL xs k).length ≤ xs.length := List.length_filter_le ..
end
theorem toStrs_mapD (ys : List Str) : toStrs (ys.map D.str) = some ys := toStrs_map ys
noncomputable def srtXO (ys : List Str) : Option (List Str) := gd (ys.length < 63) (some (sortS (uniqS ys)))
theorem YM.srtS {p p' : Pt} {h h' : List Ob} {it : M E.It} {vs : List Nat} {b : D → Mem → Res Mem} {tt : M Bool} {el : M D} {ys zs : List Str} (a : YM p h (mLc it vs b tt el) (.lst true (ys.map D.str)) p' h') (hs : srtXO ys = some zs) :
    YM p h (mSortSetS it vs b tt el) (.lst true (zs.map D.str)) p' h' := fun m s => by
  obtain ⟨m', e, s'⟩ := a m s
  obtain ⟨h1, h3⟩ := gd_some hs
  cases h3
  refine ⟨m', ?_, s'⟩
  obtain ⟨r, e1, e⟩ := Res.bind_eq e
  obtain ⟨hv, e⟩ := Res.when_eq e
  obtain ⟨⟨o, mo⟩, e2, e⟩ := Res.bind_eq e
  unfold mSortSetS
  rw [e1, Res.bind_ok, hv]
  show ((lcM _ _ _ _ _ _ _ _).bind _) = _
  rw [e2, Res.bind_ok]
  injection e with e
  injection e with e3 e4
  injection e3 with _ e3
  dsimp only at e3 e4
  rw [e3, toStrs_mapD, ← e4]
  show Res.when (decide (ys.length < 63)) _ = _
  rw [decide_eq_true h1]
  rfl
end Y
namespace Gen
open PySem L2 E PySem.Spec PyProof.Rows
def topS (i : Nat) : Stmt := PySem.Challenge.pw_crosskeep_k03_parts_of_deals.main.body.getD i (.Pass ⟨0, 0, 0, 0⟩)
/-! part_of -/
abbrev s_part_of : Stmt := topS 1
abbrev N_part_of : List Str := ["deal", "keys", "checks", "at", "key", "value", "deeds", "deed"]
theorem sc_part_of : FnScope N_part_of ["deal", "keys"] (defScope s_part_of) := ⟨rfl, rfl, rfl, by decide +kernel, rfl, by decide +kernel, by decide +kernel⟩
noncomputable def m_part_of : CallM := mDef 2 8 [0, 1] (
  sSeq (sAsg (mLc (miOr (miEnT (mqIx (mqVar 0) (mqC (.int 0)))) (miEnV (mP (mqIx (mqVar 0) (mqC (.int 0)))))) [3, 4, 5] (bTL 2 (bCons (bName 3) (bCons (bTL 2 (bCons (bName 4) (bCons (bName 5) (bNil)))) (bNil)))) (mtB (mOpQ dIn (mqVar 4) (mqVar 1))) (mFz (mTup (maV (mVar 3) (maV (mVar 4) (maV (mVar 5) (maNil))))))) (bName 2))
    (sSeq (sAsg (mLc (miOr (miEnT (mqIx (mqVar 0) (mqC (.int 1)))) (miEnV (mP (mqIx (mqVar 0) (mqC (.int 1)))))) [3, 7] (bTL 2 (bCons (bName 3) (bCons (bName 7) (bNil)))) (mtB (mOpQ dIn (mqIx (mqVar 7) (mqC (.int 1))) (mqVar 1))) (mFz (mTup (maV (mVar 3) (maV (mVar 7) (maNil)))))) (bName 6))
    (sRt (mTup (maV (mCB dTuple (maN 2 (maNil))) (maV (mCB dTuple (maN 6 (maNil))) (maNil)))))))
theorem ok_part_of {P : Program} {w : World} {K : PySem.W.Frag} {mg : Str → Option Value} {base : Heap} {CT : Nat → Addr} {f : Addr} {fd : FuncData} (F : Fun K "part_of" "part_of" s_part_of f fd) (z_enumerate : mg "enumerate" = none) (z_tuple : mg "tuple" = none) :
    FnOk P w K mg base CX0 1 f fd ["deal", "keys"] (spM K CT 2 m_part_of) := by
  have nd := sc_part_of.nd
  refine fun_ok F sc_part_of fun cdv A outer s H wx hr => ?_
  exact mss_cons (mst_setLc (i := 2) rfl nd rfl rfl (by decide) (sw_true rfl rfl rfl (by decide +kernel)) (own := [("at", 3), ("key", 4), ("value", 5)]) (pi := []) (pin := [0, 1, 2, 6, 7]) (mi_or (mi_enT (by rfl) z_enumerate (meq_ix hr.units (meq_var (pv 0)) (meq_int) (fun _ _ => rfl))) (mi_enV (by rfl) z_enumerate (me_p (meq_ix hr.units (meq_var (pv 0)) (meq_int) (fun _ _ => rfl))))) (blkOk_by (own := [("at", 3), ("key", 4), ("value", 5)]) (N := N_part_of) (sc := defScope s_part_of) (by decide +kernel)) (fun _ _ _ _ _ => mg_tl (n := 2) rfl (mgs_cons (mg_name (i := 3) nd rfl (Or.inl rfl) (by decide)) (mgs_cons (mg_tl (n := 2) rfl (mgs_cons (mg_name (i := 4) nd rfl (Or.inl rfl) (by decide)) (mgs_cons (mg_name (i := 5) nd rfl (Or.inl rfl) (by decide)) (mgs_nil)))) (mgs_nil)))) (fun _ _ _ _ _ => mts_one (mt_cmpQ (od_in (room65 hr)) (meq_var (pv 4)) (meq_var (pv 1)) (by rfl))) (fun _ _ _ _ _ => me_fz (me_tup (ma_v (me_var (pv 3)) (ma_v (me_var (pv 4)) (ma_v (me_var (pv 5)) (ma_nil)))))) (by decide) (by decide) (show ∀ i, i < 8 → i ∉ [3, 4, 5] → i ∈ [0, 1, 2, 6, 7] by decide))
    (mss_cons (mst_setLc (i := 6) rfl nd rfl rfl (by decide) (sw_true rfl rfl rfl (by decide +kernel)) (own := [("at", 3), ("deed", 7)]) (pi := []) (pin := [0, 1, 2, 4, 5, 6]) (mi_or (mi_enT (by rfl) z_enumerate (meq_ix hr.units (meq_var (pv 0)) (meq_int) (fun _ _ => rfl))) (mi_enV (by rfl) z_enumerate (me_p (meq_ix hr.units (meq_var (pv 0)) (meq_int) (fun _ _ => rfl))))) (blkOk_by (own := [("at", 3), ("deed", 7)]) (N := N_part_of) (sc := defScope s_part_of) (by decide +kernel)) (fun _ _ _ _ _ => mg_tl (n := 2) rfl (mgs_cons (mg_name (i := 3) nd rfl (Or.inl rfl) (by decide)) (mgs_cons (mg_name (i := 7) nd rfl (Or.inl rfl) (by decide)) (mgs_nil)))) (fun _ _ _ _ _ => mts_one (mt_cmpQ (od_in (room65 hr)) (meq_ix hr.units (meq_var (pv 7)) (meq_int) (fun _ _ => rfl)) (meq_var (pv 1)) (by rfl))) (fun _ _ _ _ _ => me_fz (me_tup (ma_v (me_var (pv 3)) (ma_v (me_var (pv 7)) (ma_nil))))) (by decide) (by decide) (show ∀ i, i < 8 → i ∉ [3, 7] → i ∈ [0, 1, 2, 4, 5, 6] by decide))
    (mss_one (mst_rt (me_tup (ma_v (me_cty cd_tuple (by rfl) z_tuple (by decide +kernel) (ma_n (pv 2) (ma_nil))) (ma_v (me_cty cd_tuple (by rfl) z_tuple (by decide +kernel) (ma_n (pv 6) (ma_nil))) (ma_nil)))))))
/-! keys_of_part -/
abbrev s_keys_of_part : Stmt := topS 2
abbrev N_keys_of_part : List Str := ["part", "named", "at", "key", "value", "deed"]
theorem sc_keys_of_part : FnScope N_keys_of_part ["part"] (defScope s_keys_of_part) := ⟨rfl, rfl, rfl, by decide +kernel, rfl, by decide +kernel, by decide +kernel⟩
noncomputable def m_keys_of_part : CallM := mDef 1 6 [0] (
  sSeq (sAsg (mOp2 dAdd (mLc (miV (mP (mqIx (mqVar 0) (mqC (.int 0))))) [2, 3, 4] (bTL 3 (bCons (bName 2) (bCons (bName 3) (bCons (bName 4) (bNil))))) (mtYes) (mVar 3)) (mLc (miV (mP (mqIx (mqVar 0) (mqC (.int 1))))) [2, 5] (bTL 2 (bCons (bName 2) (bCons (bName 5) (bNil)))) (mtYes) (mP (mqIx (mqVar 5) (mqC (.int 1)))))) (bName 1))
    (sRt (mCB dTuple (maV (mSortSetS (miN 1) [3] (bName 3) (mtYes) (mVar 3)) (maNil)))))
theorem ok_keys_of_part {P : Program} {w : World} {K : PySem.W.Frag} {mg : Str → Option Value} {base : Heap} {CT : Nat → Addr} {f : Addr} {fd : FuncData} (F : Fun K "keys_of_part" "keys_of_part" s_keys_of_part f fd) (z_sorted : mg "sorted" = none) (z_tuple : mg "tuple" = none) :
    FnOk P w K mg base CX0 1 f fd ["part"] (spM K CT 1 m_keys_of_part) := by
  have nd := sc_keys_of_part.nd
  refine fun_ok F sc_keys_of_part fun cdv A outer s H wx hr => ?_
  exact mss_cons (mst_set (i := 1) nd rfl (Or.inl rfl) (by decide) (me_bin od_add (me_lc rfl nd (own := [("at", 2), ("key", 3), ("value", 4)]) (pi := []) (pin := [0, 1, 5]) (mi_v (me_p (meq_ix hr.units (meq_var (pv 0)) (meq_int) (fun _ _ => rfl)))) (blkOk_by (own := [("at", 2), ("key", 3), ("value", 4)]) (N := N_keys_of_part) (sc := defScope s_keys_of_part) (by decide +kernel)) (fun _ _ _ _ _ => mg_tl (n := 3) rfl (mgs_cons (mg_name (i := 2) nd rfl (Or.inl rfl) (by decide)) (mgs_cons (mg_name (i := 3) nd rfl (Or.inl rfl) (by decide)) (mgs_cons (mg_name (i := 4) nd rfl (Or.inl rfl) (by decide)) (mgs_nil))))) (fun _ _ _ _ _ => mts_nil) (fun _ _ _ _ _ => me_var (pv 3)) (by decide) (by decide) (show ∀ i, i < 6 → i ∉ [2, 3, 4] → i ∈ [0, 1, 5] by decide)) (meb_v (me_lc rfl nd (own := [("at", 2), ("deed", 5)]) (pi := []) (pin := [0, 1, 3, 4]) (mi_v (me_p (meq_ix hr.units (meq_var (pv 0)) (meq_int) (fun _ _ => rfl)))) (blkOk_by (own := [("at", 2), ("deed", 5)]) (N := N_keys_of_part) (sc := defScope s_keys_of_part) (by decide +kernel)) (fun _ _ _ _ _ => mg_tl (n := 2) rfl (mgs_cons (mg_name (i := 2) nd rfl (Or.inl rfl) (by decide)) (mgs_cons (mg_name (i := 5) nd rfl (Or.inl rfl) (by decide)) (mgs_nil)))) (fun _ _ _ _ _ => mts_nil) (fun _ _ _ _ _ => me_p (meq_ix hr.units (meq_var (pv 5)) (meq_int) (fun _ _ => rfl))) (by decide) (by decide) (show ∀ i, i < 6 → i ∉ [2, 5] → i ∈ [0, 1, 3, 4] by decide)))))
    (mss_one (mst_rt (me_cty cd_tuple (by rfl) z_tuple (by decide +kernel) (ma_v (me_sortSetS rfl nd (by rfl) z_sorted (own := [("key", 3)]) (pi := [1]) (pin := [0, 1, 2, 4, 5]) (mi_n (pv 1)) (blkOk_by (own := [("key", 3)]) (N := N_keys_of_part) (sc := defScope s_keys_of_part) (by decide +kernel)) (fun _ _ _ _ _ => mg_name (i := 3) nd rfl (Or.inl rfl) (by decide)) (fun _ _ _ _ _ => mts_nil) (fun _ _ _ _ _ => me_var (pv 3)) (by decide) (by decide) (show ∀ i, i < 6 → i ∉ [3] → i ∈ [0, 1, 2, 4, 5] by decide)) (ma_nil)))))
/-! _law_row -/
abbrev s_law_row : Stmt := topS 4
abbrev N_law_row : List Str := ["_law_script", "_law_k", "_law_cell", "_law_first", "_law_second"]
theorem sc_law_row : FnScope N_law_row ["_law_script", "_law_k"] (defScope s_law_row) := ⟨rfl, rfl, rfl, by decide +kernel, rfl, by decide +kernel, by decide +kernel⟩
noncomputable def m_law_row : CallM := mDef 2 5 [0, 1] (
  sSeq (sAsg (mP (mqC (.int 0))) (bName 2))
    (sSeq (sIf (mtB (mOpQ dGtT (mqCB dLen (mqCons (mqVar 0) (mqNil))) (mqC (.int 0)))) (sAsg (mP (mqIx (mqVar 0) (mqOp2 dMod (mqCB dInt (mqCons (mqVar 1) (mqNil))) (mqCB dLen (mqCons (mqVar 0) (mqNil)))))) (bName 2)) (sPass))
    (sSeq (sIf (mtB (mOpQ dLtT (mqVar 2) (mqC (.int 0)))) (sAsg (mOpQ dSub (mqC (.int 1)) (mqOp2 dMul (mqC (.int 2)) (mqVar 2))) (bName 2)) (sPass))
    (sSeq (sIf (mtAnd (mtB (mOpQ dGeT (mqVar 2) (mqOp2 dPow (mqC (.int 10)) (mqC (.int 9))))) (mtB (mOpQ dLtT (mqVar 1) (mqCB dLen (mqCons (mqVar 0) (mqNil)))))) (sRt (mMv 2)) (sPass))
    (sSeq (sAsg (mOpQ dMod (mqCB dInt (mqCons (mqOp2 dAdd (mqOp2 dAdd (mqOp2 dMul (mqVar 2) (mqC (.int 48271))) (mqOp2 dMul (mqOp2 dAdd (mqVar 1) (mqC (.int 1))) (mqC (.int 69621)))) (mqCB dLen (mqCons (mqVar 0) (mqNil)))) (mqNil))) (mqC (.int 2147483647))) (bName 3))
    (sSeq (sAsg (mOpQ dMod (mqCB dInt (mqCons (mqOp2 dAdd (mqOp2 dAdd (mqOp2 dMul (mqVar 3) (mqVar 3)) (mqOp2 dMul (mqVar 2) (mqC (.int 16807)))) (mqVar 1)) (mqNil))) (mqC (.int 2147483629))) (bName 4))
    (sRt (mOpQ dAdd (mqOp2 dMul (mqVar 4) (mqC (.int 2147483647))) (mqOp2 dMod (mqCB dInt (mqCons (mqOp2 dMul (mqVar 3) (mqC (.int 40692))) (mqNil))) (mqC (.int 2147483399)))))))))))
theorem ok_law_row {P : Program} {w : World} {K : PySem.W.Frag} {mg : Str → Option Value} {base : Heap} {CT : Nat → Addr} {f : Addr} {fd : FuncData} (F : Fun K "_law_row" "_law_row" s_law_row f fd) (z_int : mg "int" = none) (z_len : mg "len" = none) :
    FnOk P w K mg base CX0 1 f fd ["_law_script", "_law_k"] (spM K CT 2 m_law_row) := by
  have nd := sc_law_row.nd
  refine fun_ok F sc_law_row fun cdv A outer s H wx hr => ?_
  exact mss_cons (mst_set (i := 2) nd rfl (Or.inl rfl) (by decide) (me_p (meq_int)))
    (mss_cons (mst_if (mt_cmpQ (od_gtT hr.units0) (meq_cb cd_len (by rfl) z_len (by decide +kernel) (maq_cons (meq_var (pv 0)) (maq_nil))) (meq_int) (nomark _)) (mss_one (mst_set (i := 2) nd rfl (Or.inl rfl) (by decide) (me_p (meq_ix hr.units (meq_var (pv 0)) (meq_bin od_mod (meq_cty cd_int (by rfl) z_int (by decide +kernel) (maq_cons (meq_var (pv 1)) (maq_nil))) (meq_cb cd_len (by rfl) z_len (by decide +kernel) (maq_cons (meq_var (pv 0)) (maq_nil)))) (fun _ _ => rfl))))) (mss_nil))
    (mss_cons (mst_if (mt_cmpQ (od_ltT hr.units0) (meq_var (pv 2)) (meq_int) (nomark _)) (mss_one (mst_set (i := 2) nd rfl (Or.inl rfl) (by decide) (me_binQ od_sub (meq_int) (meq_bin od_mul (meq_int) (meq_var (pv 2)))))) (mss_nil))
    (mss_cons (mst_if (mt_w (mw_and (mt_cmpQ (od_geT hr.units0) (meq_var (pv 2)) (meq_bin od_pow (meq_int) (meq_int)) (nomark _)) (mw_and1 (mt_cmpQ (od_ltT hr.units0) (meq_var (pv 1)) (meq_cb cd_len (by rfl) z_len (by decide +kernel) (maq_cons (meq_var (pv 0)) (maq_nil))) (nomark _))))) (mss_one (mst_rt (me_mv (pv 2)))) (mss_nil))
    (mss_cons (mst_set (i := 3) nd rfl (Or.inl rfl) (by decide) (me_binQ od_mod (meq_cty cd_int (by rfl) z_int (by decide +kernel) (maq_cons (meq_bin od_add (meq_bin od_add (meq_bin od_mul (meq_var (pv 2)) (meq_int)) (meq_bin od_mul (meq_bin od_add (meq_var (pv 1)) (meq_int)) (meq_int))) (meq_cb cd_len (by rfl) z_len (by decide +kernel) (maq_cons (meq_var (pv 0)) (maq_nil)))) (maq_nil))) (meq_int)))
    (mss_cons (mst_set (i := 4) nd rfl (Or.inl rfl) (by decide) (me_binQ od_mod (meq_cty cd_int (by rfl) z_int (by decide +kernel) (maq_cons (meq_bin od_add (meq_bin od_add (meq_bin od_mul (meq_var (pv 3)) (meq_var (pv 3))) (meq_bin od_mul (meq_var (pv 2)) (meq_int))) (meq_var (pv 1))) (maq_nil))) (meq_int)))
    (mss_one (mst_rt (me_binQ od_add (meq_bin od_mul (meq_var (pv 4)) (meq_int)) (meq_bin od_mod (meq_cty cd_int (by rfl) z_int (by decide +kernel) (maq_cons (meq_bin od_mul (meq_var (pv 3)) (meq_int)) (maq_nil))) (meq_int))))))))))
/-! _law_digits -/
abbrev s_law_digits : Stmt := topS 5
abbrev N_law_digits : List Str := ["_law_row_here", "_law_sizes", "_law_digits_here", "_law_size"]
theorem sc_law_digits : FnScope N_law_digits ["_law_row_here", "_law_sizes"] (defScope s_law_digits) := ⟨rfl, rfl, rfl, by decide +kernel, rfl, by decide +kernel, by decide +kernel⟩
noncomputable def m_law_digits : CallM := mDef 2 4 [1] (
  sSeq (sAsg (mLst (maNil)) (bName 2))
    (sSeq (sFor (miN 1) (bName 3) (sSeq (sEx (mAppN 2 (mOpQ dMod (mqCB dInt (mqCons (mqVar 0) (mqNil))) (mqVar 3))))
      (sAsg (mOpQ dFdiv (mqVar 0) (mqVar 3)) (bName 0))))
    (sRt (mMv 2))))
theorem ok_law_digits {P : Program} {w : World} {K : PySem.W.Frag} {mg : Str → Option Value} {base : Heap} {CT : Nat → Addr} {f : Addr} {fd : FuncData} (F : Fun K "_law_digits" "_law_digits" s_law_digits f fd) (z_int : mg "int" = none) :
    FnOk P w K mg base CX0 1 f fd ["_law_row_here", "_law_sizes"] (spM K CT 2 m_law_digits) := by
  have nd := sc_law_digits.nd
  refine fun_ok F sc_law_digits fun cdv A outer s H wx hr => ?_
  exact mss_cons (mst_set (i := 2) nd rfl (Or.inl rfl) (by decide) (me_lst (ma_nil)))
    (mss_cons (mst_for (pi := [1]) PassesOwn.never rfl (mi_n (pv 1)) (mg_name (i := 3) nd rfl (Or.inl rfl) (by decide)) (mss_cons (mst_ex (me_appN (pv 2) (me_binQ od_mod (meq_cty cd_int (by rfl) z_int (by decide +kernel) (maq_cons (meq_var (pv 0)) (maq_nil))) (meq_var (pv 3)))))
      (mss_one (mst_set (i := 0) nd rfl (Or.inl rfl) (by decide) (me_binQ od_fdiv (meq_var (pv 0)) (meq_var (pv 3)))))))
    (mss_one (mst_rt (me_mv (pv 2)))))
/-! _law_sign -/
abbrev s_law_sign : Stmt := topS 6
abbrev N_law_sign : List Str := ["_law_number", "_law_signs"]
theorem sc_law_sign : FnScope N_law_sign ["_law_number"] (defScope s_law_sign) := ⟨rfl, rfl, rfl, by decide +kernel, rfl, by decide +kernel, by decide +kernel⟩
noncomputable def m_law_sign : CallM := mDef 1 2 [0] (
  sSeq (sAsg (mP (mqC (.str " !\"#$&'()*+,-./0123456789:;<=>?@ABCDEFGHIJKLMNOPQRSTUVWXYZ[\\]^_`abcdefghijklmnopqrstuvwxyz{|}~"))) (bName 1))
    (sRt (mP (mqIx (mqVar 1) (mqOp2 dMod (mqCB dInt (mqCons (mqVar 0) (mqNil))) (mqC (.int 94)))))))
theorem ok_law_sign {P : Program} {w : World} {K : PySem.W.Frag} {mg : Str → Option Value} {base : Heap} {CT : Nat → Addr} {f : Addr} {fd : FuncData} (F : Fun K "_law_sign" "_law_sign" s_law_sign f fd) (z_int : mg "int" = none) :
    FnOk P w K mg base CX0 1 f fd ["_law_number"] (spM K CT 1 m_law_sign) := by
  have nd := sc_law_sign.nd
  refine fun_ok F sc_law_sign fun cdv A outer s H wx hr => ?_
  exact mss_cons (mst_set (i := 1) nd rfl (Or.inl rfl) (by decide) (me_p (meq_str)))
    (mss_one (mst_rt (me_p (meq_ix hr.units (meq_var (pv 1)) (meq_bin od_mod (meq_cty cd_int (by rfl) z_int (by decide +kernel) (maq_cons (meq_var (pv 0)) (maq_nil))) (meq_int)) (fun _ _ => rfl)))))
/-! _law_key -/
abbrev s_law_key : Stmt := topS 8
abbrev N_law_key : List Str := ["_law_row_here", "_law_most", "_law_signs", "_law_count", "_law_rest", "_law_key_here", "_law_k"]
theorem sc_law_key : FnScope N_law_key ["_law_row_here", "_law_most"] (defScope s_law_key) := ⟨rfl, rfl, rfl, by decide +kernel, rfl, by decide +kernel, by decide +kernel⟩
noncomputable def m_law_key : CallM := mDef 2 7 [0, 1] (
  sSeq (sAsg (mP (mqC (.str "abcdefghijklmnopqrstuvwxyz0123456789"))) (bName 2))
    (sSeq (sAsg (mOpQ dAdd (mqC (.int 1)) (mqOp2 dMod (mqCB dInt (mqCons (mqVar 0) (mqNil))) (mqVar 1))) (bName 3))
    (sSeq (sAsg (mOpQ dFdiv (mqCB dInt (mqCons (mqVar 0) (mqNil))) (mqC (.int 8))) (bName 4))
    (sSeq (sAsg (mP (mqC (.str ""))) (bName 5))
    (sSeq (sFor (miR1 (maN 3 (maNil))) (bName 6) (sSeq (sAsg (mOpQ dAdd (mqVar 5) (mqIx (mqVar 2) (mqOp2 dMod (mqCB dInt (mqCons (mqVar 4) (mqNil))) (mqC (.int 36))))) (bName 5))
      (sAsg (mOpQ dAdd (mqOp2 dFdiv (mqVar 4) (mqC (.int 36))) (mqOp2 dMul (mqC (.int 7)) (mqVar 6))) (bName 4))))
    (sRt (mMv 5)))))))
theorem ok_law_key {P : Program} {w : World} {K : PySem.W.Frag} {mg : Str → Option Value} {base : Heap} {CT : Nat → Addr} {f : Addr} {fd : FuncData} (F : Fun K "_law_key" "_law_key" s_law_key f fd) (z_int : mg "int" = none) (z_range : mg "range" = none) :
    FnOk P w K mg base CX0 1 f fd ["_law_row_here", "_law_most"] (spM K CT 2 m_law_key) := by
  have nd := sc_law_key.nd
  refine fun_ok F sc_law_key fun cdv A outer s H wx hr => ?_
  exact mss_cons (mst_set (i := 2) nd rfl (Or.inl rfl) (by decide) (me_p (meq_str)))
    (mss_cons (mst_set (i := 3) nd rfl (Or.inl rfl) (by decide) (me_binQ od_add (meq_int) (meq_bin od_mod (meq_cty cd_int (by rfl) z_int (by decide +kernel) (maq_cons (meq_var (pv 0)) (maq_nil))) (meq_var (pv 1)))))
    (mss_cons (mst_set (i := 4) nd rfl (Or.inl rfl) (by decide) (me_binQ od_fdiv (meq_cty cd_int (by rfl) z_int (by decide +kernel) (maq_cons (meq_var (pv 0)) (maq_nil))) (meq_int)))
    (mss_cons (mst_set (i := 5) nd rfl (Or.inl rfl) (by decide) (me_p (meq_str)))
    (mss_cons (mst_for (pi := []) PassesOwn.never rfl (mi_r1 (by rfl) z_range (ma_n (pv 3) (ma_nil))) (mg_name (i := 6) nd rfl (Or.inl rfl) (by decide)) (mss_cons (mst_set (i := 5) nd rfl (Or.inl rfl) (by decide) (me_binQ od_add (meq_var (pv 5)) (meq_ix hr.units (meq_var (pv 2)) (meq_bin od_mod (meq_cty cd_int (by rfl) z_int (by decide +kernel) (maq_cons (meq_var (pv 4)) (maq_nil))) (meq_int)) (fun _ _ => rfl))))
      (mss_one (mst_set (i := 4) nd rfl (Or.inl rfl) (by decide) (me_binQ od_add (meq_bin od_fdiv (meq_var (pv 4)) (meq_int)) (meq_bin od_mul (meq_int) (meq_var (pv 6))))))))
    (mss_one (mst_rt (me_mv (pv 5))))))))
/-! _law_part -/
abbrev s_law_part : Stmt := topS 18
abbrev N_law_part : List Str := ["_law_deal_here", "_law_keys_here", "_law_checks", "_law_k", "_law_deeds"]
theorem sc_law_part : FnScope N_law_part ["_law_deal_here", "_law_keys_here"] (defScope s_law_part) := ⟨rfl, rfl, rfl, by decide +kernel, rfl, by decide +kernel, by decide +kernel⟩
noncomputable def m_law_part : CallM := mDef 2 5 [0, 1] (
  sSeq (sAsg (mLst (maNil)) (bName 2))
    (sSeq (sFor (miR1 (maQ (mqCons (mqCB dLen (mqCons (mqIx (mqVar 0) (mqC (.int 0))) (mqNil))) (mqNil)))) (bName 3) (sIf (mtB (mOpQ dIn (mqIx (mqIx (mqIx (mqVar 0) (mqC (.int 0))) (mqVar 3)) (mqC (.int 0))) (mqVar 1))) (sEx (mAppN 2 (mFz (mOp2 dAdd (mTup (maV (mVar 3) (maNil))) (mB (mqIx (mqIx (mqVar 0) (mqC (.int 0))) (mqVar 3))))))) (sPass)))
    (sSeq (sAsg (mLst (maNil)) (bName 4))
    (sSeq (sFor (miR1 (maQ (mqCons (mqCB dLen (mqCons (mqIx (mqVar 0) (mqC (.int 1))) (mqNil))) (mqNil)))) (bName 3) (sIf (mtB (mOpQ dIn (mqIx (mqIx (mqIx (mqVar 0) (mqC (.int 1))) (mqVar 3)) (mqC (.int 1))) (mqVar 1))) (sEx (mAppN 4 (mTup (maV (mVar 3) (maV (mP (mqIx (mqIx (mqVar 0) (mqC (.int 1))) (mqVar 3))) (maNil)))))) (sPass)))
    (sRt (mTup (maV (mCB dTuple (maN 2 (maNil))) (maV (mCB dTuple (maN 4 (maNil))) (maNil)))))))))
theorem ok_law_part {P : Program} {w : World} {K : PySem.W.Frag} {mg : Str → Option Value} {base : Heap} {CT : Nat → Addr} {f : Addr} {fd : FuncData} (F : Fun K "_law_part" "_law_part" s_law_part f fd) (z_len : mg "len" = none) (z_range : mg "range" = none) (z_tuple : mg "tuple" = none) :
    FnOk P w K mg base CX0 1 f fd ["_law_deal_here", "_law_keys_here"] (spM K CT 2 m_law_part) := by
  have nd := sc_law_part.nd
  refine fun_ok F sc_law_part fun cdv A outer s H wx hr => ?_
  exact mss_cons (mst_set (i := 2) nd rfl (Or.inl rfl) (by decide) (me_lst (ma_nil)))
    (mss_cons (mst_for (pi := []) PassesOwn.never rfl (mi_r1 (by rfl) z_range (ma_q (maq_cons (meq_cb cd_len (by rfl) z_len (by decide +kernel) (maq_cons (meq_ix hr.units (meq_var (pv 0)) (meq_int) (fun _ _ => rfl)) (maq_nil))) (maq_nil)))) (mg_name (i := 3) nd rfl (Or.inl rfl) (by decide)) (mss_one (mst_if (mt_cmpQ (od_in (room65 hr)) (meq_ix hr.units (meq_ix hr.units (meq_ix hr.units (meq_var (pv 0)) (meq_int) (fun _ _ => rfl)) (meq_var (pv 3)) (fun _ _ => rfl)) (meq_int) (fun _ _ => rfl)) (meq_var (pv 1)) (by rfl)) (mss_one (mst_ex (me_appN (pv 2) (me_fz (me_bin od_add (me_tup (ma_v (me_var (pv 3)) (ma_nil))) (meb_q (meq_ix hr.units (meq_ix hr.units (meq_var (pv 0)) (meq_int) (fun _ _ => rfl)) (meq_var (pv 3)) (fun _ _ => rfl)))))))) (mss_nil))))
    (mss_cons (mst_set (i := 4) nd rfl (Or.inl rfl) (by decide) (me_lst (ma_nil)))
    (mss_cons (mst_for (pi := []) PassesOwn.never rfl (mi_r1 (by rfl) z_range (ma_q (maq_cons (meq_cb cd_len (by rfl) z_len (by decide +kernel) (maq_cons (meq_ix hr.units (meq_var (pv 0)) (meq_int) (fun _ _ => rfl)) (maq_nil))) (maq_nil)))) (mg_name (i := 3) nd rfl (Or.inl rfl) (by decide)) (mss_one (mst_if (mt_cmpQ (od_in (room65 hr)) (meq_ix hr.units (meq_ix hr.units (meq_ix hr.units (meq_var (pv 0)) (meq_int) (fun _ _ => rfl)) (meq_var (pv 3)) (fun _ _ => rfl)) (meq_int) (fun _ _ => rfl)) (meq_var (pv 1)) (by rfl)) (mss_one (mst_ex (me_appN (pv 4) (me_tup (ma_v (me_var (pv 3)) (ma_v (me_p (meq_ix hr.units (meq_ix hr.units (meq_var (pv 0)) (meq_int) (fun _ _ => rfl)) (meq_var (pv 3)) (fun _ _ => rfl))) (ma_nil))))))) (mss_nil))))
    (mss_one (mst_rt (me_tup (ma_v (me_cty cd_tuple (by rfl) z_tuple (by decide +kernel) (ma_n (pv 2) (ma_nil))) (ma_v (me_cty cd_tuple (by rfl) z_tuple (by decide +kernel) (ma_n (pv 4) (ma_nil))) (ma_nil)))))))))
/-! _law_is_pair -/
abbrev s_law_is_pair : Stmt := topS 20
abbrev N_law_is_pair : List Str := ["_law_data"]
theorem sc_law_is_pair : FnScope N_law_is_pair ["_law_data"] (defScope s_law_is_pair) := ⟨rfl, rfl, rfl, by decide +kernel, rfl, by decide +kernel, by decide +kernel⟩
noncomputable def m_law_is_pair : CallM := mDef 1 1 [0] (
  sSeq (sIf (mtOr (mtNot (mtV (mB (mqCB dIsi (mqCons (mqVar 0) (mqCons (mqC (.ty "tuple")) (mqNil))))))) (mtB (mOpQ dNe (mqCB dLen (mqCons (mqVar 0) (mqNil))) (mqC (.int 2))))) (sRt (mP (mqC (.bl false)))) (sPass))
    (sRt (mAnd (mP (mqCB dIsi (mqCons (mqIx (mqVar 0) (mqC (.int 0))) (mqCons (mqC (.ty "tuple")) (mqNil))))) (mP (mqCB dIsi (mqCons (mqIx (mqVar 0) (mqC (.int 1))) (mqCons (mqC (.ty "tuple")) (mqNil))))))))
theorem ok_law_is_pair {P : Program} {w : World} {K : PySem.W.Frag} {mg : Str → Option Value} {base : Heap} {CT : Nat → Addr} {f : Addr} {fd : FuncData} (F : Fun K "_law_is_pair" "_law_is_pair" s_law_is_pair f fd) (z_isinstance : mg "isinstance" = none) (z_len : mg "len" = none) (z_tuple : mg "tuple" = none) :
    FnOk P w K mg base CX0 1 f fd ["_law_data"] (spM K CT 1 m_law_is_pair) := by
  have nd := sc_law_is_pair.nd
  refine fun_ok F sc_law_is_pair fun cdv A outer s H wx hr => ?_
  exact mss_cons (mst_if (mt_w (mw_or (mt_not (mt_v (meb_q (meq_cb cd_isi (by rfl) z_isinstance (by decide +kernel) (maq_cons (meq_var (pv 0)) (maq_cons (meq_ty (by rfl) z_tuple (by decide +kernel)) (maq_nil))))))) (mw_or1 (mt_cmpQ (od_ne hr.units) (meq_cb cd_len (by rfl) z_len (by decide +kernel) (maq_cons (meq_var (pv 0)) (maq_nil))) (meq_int) (nomark _))))) (mss_one (mst_rt (me_p (meq_bl)))) (mss_nil))
    (mss_one (mst_rt (me_and (me_p (meq_cb cd_isi (by rfl) z_isinstance (by decide +kernel) (maq_cons (meq_ix hr.units (meq_var (pv 0)) (meq_int) (fun _ _ => rfl)) (maq_cons (meq_ty (by rfl) z_tuple (by decide +kernel)) (maq_nil))))) (me_one (me_p (meq_cb cd_isi (by rfl) z_isinstance (by decide +kernel) (maq_cons (meq_ix hr.units (meq_var (pv 0)) (meq_int) (fun _ _ => rfl)) (maq_cons (meq_ty (by rfl) z_tuple (by decide +kernel)) (maq_nil)))))))))
/-! _law_text -/
abbrev s_law_text : Stmt := topS 7
abbrev N_law_text : List Str := ["_law_row_here", "_law_count", "_law_text_here", "_law_rest", "_law_k"]
theorem sc_law_text : FnScope N_law_text ["_law_row_here", "_law_count"] (defScope s_law_text) := ⟨rfl, rfl, rfl, by decide +kernel, rfl, by decide +kernel, by decide +kernel⟩
noncomputable def m_law_text : CallM := mDef 2 5 [0, 1] (
  sSeq (sAsg (mP (mqC (.str ""))) (bName 2))
    (sSeq (sAsg (mP (mqCB dInt (mqCons (mqVar 0) (mqNil)))) (bName 3))
    (sSeq (sFor (miR1 (maN 1 (maNil))) (bName 4) (sSeq (sAsg (mOpN dAdd 2 (mCall m_law_sign [] (maQ (mqCons (mqOp2 dFdiv (mqVar 3) (mqC (.int 7))) (mqNil))))) (bName 2))
      (sAsg (mOpQ dAdd (mqOp2 dAdd (mqOp2 dFdiv (mqVar 3) (mqC (.int 94))) (mqOp2 dMul (mqOp2 dMod (mqVar 3) (mqC (.int 94))) (mqC (.int 2147483647)))) (mqVar 4)) (bName 3))))
    (sRt (mMv 2)))))
theorem ok_law_text {P : Program} {w : World} {K : PySem.W.Frag} {mg : Str → Option Value} {base : Heap} {CT : Nat → Addr} {f : Addr} {fd : FuncData} (F : Fun K "_law_text" "_law_text" s_law_text f fd) {f_law_sign : Addr} {d_law_sign : FuncData} (G_law_sign : FnOk P w K mg base CX0 1 f_law_sign d_law_sign ["_law_number"] (spM K CT 1 m_law_sign)) (g_law_sign : mg "_law_sign" = some (.ref f_law_sign)) (kp_law_sign : PySem.W.keepIn K (.ref f_law_sign) = true) (b_law_sign : Binds K d_law_sign ["_law_number"] []) (z_int : mg "int" = none) (z_range : mg "range" = none) :
    FnOk P w K mg base CX0 2 f fd ["_law_row_here", "_law_count"] (spM K CT 2 m_law_text) := by
  have nd := sc_law_text.nd
  refine fun_ok F sc_law_text fun cdv A outer s H wx hr => ?_
  exact mss_cons (mst_set (i := 2) nd rfl (Or.inl rfl) (by decide) (me_p (meq_str)))
    (mss_cons (mst_set (i := 3) nd rfl (Or.inl rfl) (by decide) (me_p (meq_cty cd_int (by rfl) z_int (by decide +kernel) (maq_cons (meq_var (pv 0)) (maq_nil)))))
    (mss_cons (mst_for (pi := []) PassesOwn.never rfl (mi_r1 (by rfl) z_range (ma_n (pv 1) (ma_nil))) (mg_name (i := 4) nd rfl (Or.inl rfl) (by decide)) (mss_cons (mst_set (i := 2) nd rfl (Or.inl rfl) (by decide) (me_binN od_add (pv 2) (meb_v (me_call G_law_sign mDef_len (hr.mono (by decide)) (by rfl) g_law_sign kp_law_sign b_law_sign .nil (fun _ _ => .nil) pass0 (ma_q (maq_cons (meq_bin od_fdiv (meq_var (pv 3)) (meq_int)) (maq_nil)))))))
      (mss_one (mst_set (i := 3) nd rfl (Or.inl rfl) (by decide) (me_binQ od_add (meq_bin od_add (meq_bin od_fdiv (meq_var (pv 3)) (meq_int)) (meq_bin od_mul (meq_bin od_mod (meq_var (pv 3)) (meq_int)) (meq_int))) (meq_var (pv 4)))))))
    (mss_one (mst_rt (me_mv (pv 2))))))
/-! _law_keys -/
abbrev s_law_keys : Stmt := topS 13
abbrev N_law_keys : List Str := ["_law_script", "_law_at", "_law_most", "_law_keys_here", "_law_count", "_law_k", "_law_key_here"]
theorem sc_law_keys : FnScope N_law_keys ["_law_script", "_law_at", "_law_most"] (defScope s_law_keys) := ⟨rfl, rfl, rfl, by decide +kernel, rfl, by decide +kernel, by decide +kernel⟩
noncomputable def m_law_keys : CallM := mDef 3 7 [0, 1, 2] (
  sSeq (sAsg (mLst (maNil)) (bName 3))
    (sSeq (sAsg (mOp2 dAdd (mP (mqC (.int 1))) (mOp2 dMod (mCB dInt (maV (mCall m_law_row [] (maN 0 (maN 1 (maNil)))) (maNil))) (mB (mqVar 2)))) (bName 4))
    (sSeq (sFor (miR1 (maN 4 (maNil))) (bName 5) (sSeq (sAsg (mCall m_law_key [] (maV (mCall m_law_row [] (maN 0 (maQ (mqCons (mqOp2 dAdd (mqOp2 dAdd (mqVar 1) (mqC (.int 1))) (mqVar 5)) (mqNil))))) (maQ (mqCons (mqC (.int 8)) (mqNil))))) (bName 6))
      (sSeq (sIf (mtB (mOpQ dEq (mqOp2 dMod (mqVar 5) (mqC (.int 3))) (mqC (.int 2)))) (sAsg (mSl (mB (mqOp2 dAdd (mqIx (mqVar 3) (mqC (.int 0))) (mqVar 6))) (mqNone) (mqSome (mqC (.int 8)))) (bName 6)) (sPass))
      (sIf (mtB (mOpQ dNotIn (mqVar 6) (mqVar 3))) (sEx (mAppN 3 (mVar 6))) (sPass)))))
    (sRt (mMv 3)))))
theorem ok_law_keys {P : Program} {w : World} {K : PySem.W.Frag} {mg : Str → Option Value} {base : Heap} {CT : Nat → Addr} {f : Addr} {fd : FuncData} (F : Fun K "_law_keys" "_law_keys" s_law_keys f fd) {f_law_key : Addr} {d_law_key : FuncData} (G_law_key : FnOk P w K mg base CX0 1 f_law_key d_law_key ["_law_row_here", "_law_most"] (spM K CT 2 m_law_key)) (g_law_key : mg "_law_key" = some (.ref f_law_key)) (kp_law_key : PySem.W.keepIn K (.ref f_law_key) = true) (b_law_key : Binds K d_law_key ["_law_row_here", "_law_most"] []) {f_law_row : Addr} {d_law_row : FuncData} (G_law_row : FnOk P w K mg base CX0 1 f_law_row d_law_row ["_law_script", "_law_k"] (spM K CT 2 m_law_row)) (g_law_row : mg "_law_row" = some (.ref f_law_row)) (kp_law_row : PySem.W.keepIn K (.ref f_law_row) = true) (b_law_row : Binds K d_law_row ["_law_script", "_law_k"] []) (z_int : mg "int" = none) (z_range : mg "range" = none) :
    FnOk P w K mg base CX0 2 f fd ["_law_script", "_law_at", "_law_most"] (spM K CT 3 m_law_keys) := by
  have nd := sc_law_keys.nd
  refine fun_ok F sc_law_keys fun cdv A outer s H wx hr => ?_
  exact mss_cons (mst_set (i := 3) nd rfl (Or.inl rfl) (by decide) (me_lst (ma_nil)))
    (mss_cons (mst_set (i := 4) nd rfl (Or.inl rfl) (by decide) (me_bin od_add (me_p (meq_int)) (meb_v (me_bin od_mod (me_cty cd_int (by rfl) z_int (by decide +kernel) (ma_v (me_call G_law_row mDef_len (hr.mono (by decide)) (by rfl) g_law_row kp_law_row b_law_row .nil (fun _ _ => .nil) pass0 (ma_n (pv 0) (ma_n (pv 1) (ma_nil)))) (ma_nil))) (meb_q (meq_var (pv 2)))))))
    (mss_cons (mst_for (pi := []) PassesOwn.never rfl (mi_r1 (by rfl) z_range (ma_n (pv 4) (ma_nil))) (mg_name (i := 5) nd rfl (Or.inl rfl) (by decide)) (mss_cons (mst_set (i := 6) nd rfl (Or.inl rfl) (by decide) (me_call G_law_key mDef_len (hr.mono (by decide)) (by rfl) g_law_key kp_law_key b_law_key .nil (fun _ _ => .nil) pass0 (ma_v (me_call G_law_row mDef_len (hr.mono (by decide)) (by rfl) g_law_row kp_law_row b_law_row .nil (fun _ _ => .nil) pass0 (ma_n (pv 0) (ma_q (maq_cons (meq_bin od_add (meq_bin od_add (meq_var (pv 1)) (meq_int)) (meq_var (pv 5))) (maq_nil))))) (ma_q (maq_cons (meq_int) (maq_nil))))))
      (mss_cons (mst_if (mt_cmpQ (od_eq hr.units) (meq_bin od_mod (meq_var (pv 5)) (meq_int)) (meq_int) (nomark _)) (mss_one (mst_set (i := 6) nd rfl (Or.inl rfl) (by decide) (me_sl (meb_q (meq_bin od_add (meq_ix hr.units (meq_var (pv 3)) (meq_int) (fun _ _ => rfl)) (meq_var (pv 6)))) (mo_none) (mo_some (meq_int))))) (mss_nil))
      (mss_one (mst_if (mt_cmpQ (od_notin (room65 hr)) (meq_var (pv 6)) (meq_var (pv 3)) (by rfl)) (mss_one (mst_ex (me_appN (pv 3) (me_var (pv 6))))) (mss_nil))))))
    (mss_one (mst_rt (me_mv (pv 3))))))
/-! _law_value -/
abbrev s_law_value : Stmt := topS 9
abbrev N_law_value : List Str := ["_law_row_here", "_law_kind", "_law_sign_here", "_law_more", "_law_number"]
theorem sc_law_value : FnScope N_law_value ["_law_row_here"] (defScope s_law_value) := ⟨rfl, rfl, rfl, by decide +kernel, rfl, by decide +kernel, by decide +kernel⟩
noncomputable def m_law_value : CallM := mDef 1 5 [0] (
  sSeq (sAsg (mCall m_law_digits [] (maV (mVar 0) (maV (mLst (maV (mP (mqC (.int 5))) (maV (mP (mqC (.int 2))) (maV (mOpQ dPow (mqC (.int 10)) (mqC (.int 15))) (maNil))))) (maNil)))) (bTL 3 (bCons (bName 1) (bCons (bName 2) (bCons (bName 3) (bNil))))))
    (sSeq (sIf (mtB (mOpQ dEq (mqVar 1) (mqC (.int 0)))) (sRt (mCall m_law_text [] (maQ (mqCons (mqOp2 dFdiv (mqVar 3) (mqC (.int 21))) (mqCons (mqOp2 dMod (mqVar 3) (mqC (.int 21))) (mqNil)))))) (sPass))
    (sSeq (sAsg (mIx (mLst (maV (mP (mqC (.int 0))) (maV (mOpQ dMod (mqVar 3) (mqC (.int 7))) (maV (mOpQ dMod (mqVar 3) (mqC (.int 2000))) (maV (mVar 3) (maV (mOpQ dSub (mqOp2 dPow (mqC (.int 10)) (mqC (.int 15))) (mqOp2 dMod (mqVar 3) (mqC (.int 3)))) (maNil))))))) (mB (mqVar 1))) (bName 4))
    (sSeq (sIf (mtB (mOpQ dEq (mqVar 2) (mqC (.int 1)))) (sRt (mP (mqOp1 dNeg (mqVar 4)))) (sPass))
    (sRt (mMv 4))))))
theorem ok_law_value {P : Program} {w : World} {K : PySem.W.Frag} {mg : Str → Option Value} {base : Heap} {CT : Nat → Addr} {f : Addr} {fd : FuncData} (F : Fun K "_law_value" "_law_value" s_law_value f fd) {f_law_digits : Addr} {d_law_digits : FuncData} (G_law_digits : FnOk P w K mg base CX0 1 f_law_digits d_law_digits ["_law_row_here", "_law_sizes"] (spM K CT 2 m_law_digits)) (g_law_digits : mg "_law_digits" = some (.ref f_law_digits)) (kp_law_digits : PySem.W.keepIn K (.ref f_law_digits) = true) (b_law_digits : Binds K d_law_digits ["_law_row_here", "_law_sizes"] []) {f_law_text : Addr} {d_law_text : FuncData} (G_law_text : FnOk P w K mg base CX0 2 f_law_text d_law_text ["_law_row_here", "_law_count"] (spM K CT 2 m_law_text)) (g_law_text : mg "_law_text" = some (.ref f_law_text)) (kp_law_text : PySem.W.keepIn K (.ref f_law_text) = true) (b_law_text : Binds K d_law_text ["_law_row_here", "_law_count"] []) :
    FnOk P w K mg base CX0 3 f fd ["_law_row_here"] (spM K CT 1 m_law_value) := by
  have nd := sc_law_value.nd
  refine fun_ok F sc_law_value fun cdv A outer s H wx hr => ?_
  exact mss_cons (mst_asg (me_call G_law_digits mDef_len (hr.mono (by decide)) (by rfl) g_law_digits kp_law_digits b_law_digits .nil (fun _ _ => .nil) pass0 (ma_v (me_var (pv 0)) (ma_v (me_lst (ma_v (me_p (meq_int)) (ma_v (me_p (meq_int)) (ma_v (me_binQ od_pow (meq_int) (meq_int)) (ma_nil))))) (ma_nil)))) (mg_tl (n := 3) rfl (mgs_cons (mg_name (i := 1) nd rfl (Or.inl rfl) (by decide)) (mgs_cons (mg_name (i := 2) nd rfl (Or.inl rfl) (by decide)) (mgs_cons (mg_name (i := 3) nd rfl (Or.inl rfl) (by decide)) (mgs_nil))))))
    (mss_cons (mst_if (mt_cmpQ (od_eq hr.units) (meq_var (pv 1)) (meq_int) (nomark _)) (mss_one (mst_rt (me_call G_law_text mDef_len (hr.mono (by decide)) (by rfl) g_law_text kp_law_text b_law_text .nil (fun _ _ => .nil) pass0 (ma_q (maq_cons (meq_bin od_fdiv (meq_var (pv 3)) (meq_int)) (maq_cons (meq_bin od_mod (meq_var (pv 3)) (meq_int)) (maq_nil))))))) (mss_nil))
    (mss_cons (mst_set (i := 4) nd rfl (Or.inl rfl) (by decide) (me_ix hr.units (me_lst (ma_v (me_p (meq_int)) (ma_v (me_binQ od_mod (meq_var (pv 3)) (meq_int)) (ma_v (me_binQ od_mod (meq_var (pv 3)) (meq_int)) (ma_v (me_var (pv 3)) (ma_v (me_binQ od_sub (meq_bin od_pow (meq_int) (meq_int)) (meq_bin od_mod (meq_var (pv 3)) (meq_int))) (ma_nil))))))) (meb_q (meq_var (pv 1))) (fun _ _ => rfl)))
    (mss_cons (mst_if (mt_cmpQ (od_eq hr.units) (meq_var (pv 2)) (meq_int) (nomark _)) (mss_one (mst_rt (me_p (meq_un ud_neg (meq_var (pv 4)))))) (mss_nil))
    (mss_one (mst_rt (me_mv (pv 4)))))))
/-! _law_deed -/
abbrev s_law_deed : Stmt := topS 10
abbrev N_law_deed : List Str := ["_law_keys_here", "_law_row_here", "_law_kind", "_law_at", "_law_sign_here", "_law_number", "_law_key_here"]
theorem sc_law_deed : FnScope N_law_deed ["_law_keys_here", "_law_row_here"] (defScope s_law_deed) := ⟨rfl, rfl, rfl, by decide +kernel, rfl, by decide +kernel, by decide +kernel⟩
noncomputable def m_law_deed : CallM := mDef 2 7 [0, 1] (
  sSeq (sAsg (mCall m_law_digits [] (maV (mVar 1) (maV (mLst (maV (mP (mqC (.int 8))) (maV (mP (mqCB dLen (mqCons (mqVar 0) (mqNil)))) (maV (mP (mqC (.int 2))) (maV (mOpQ dAdd (mqOp2 dPow (mqC (.int 10)) (mqC (.int 9))) (mqC (.int 1))) (maNil)))))) (maNil)))) (bTL 4 (bCons (bName 2) (bCons (bName 3) (bCons (bName 4) (bCons (bName 5) (bNil)))))))
    (sSeq (sAsg (mP (mqIx (mqVar 0) (mqVar 3))) (bName 6))
    (sSeq (sIf (mtB (mOpQ dLtT (mqVar 2) (mqC (.int 2)))) (sRt (mTup (maV (mP (mqC (.str "get"))) (maV (mMv 6) (maNil))))) (sPass))
    (sSeq (sIf (mtB (mOpQ dLtT (mqVar 2) (mqC (.int 4)))) (sRt (mTup (maV (mP (mqC (.str "put"))) (maV (mMv 6) (maV (mCall m_law_value [] (maQ (mqCons (mqOp2 dFdiv (mqVar 1) (mqOp2 dPow (mqC (.int 10)) (mqC (.int 11)))) (mqNil)))) (maNil)))))) (sPass))
    (sSeq (sIf (mtB (mOpQ dEq (mqVar 2) (mqC (.int 4)))) (sRt (mTup (maV (mP (mqC (.str "del"))) (maV (mMv 6) (maNil))))) (sPass))
    (sSeq (sAsg (mIx (mLst (maV (mVar 5) (maV (mOpQ dMod (mqVar 5) (mqC (.int 9))) (maV (mOpQ dPow (mqC (.int 10)) (mqC (.int 9))) (maNil))))) (mB (mqOp2 dSub (mqVar 2) (mqC (.int 5))))) (bName 5))
    (sSeq (sIf (mtB (mOpQ dEq (mqVar 4) (mqC (.int 1)))) (sAsg (mP (mqOp1 dNeg (mqVar 5))) (bName 5)) (sPass))
    (sRt (mTup (maV (mP (mqC (.str "add"))) (maV (mMv 6) (maV (mMv 5) (maNil)))))))))))))
theorem ok_law_deed {P : Program} {w : World} {K : PySem.W.Frag} {mg : Str → Option Value} {base : Heap} {CT : Nat → Addr} {f : Addr} {fd : FuncData} (F : Fun K "_law_deed" "_law_deed" s_law_deed f fd) {f_law_digits : Addr} {d_law_digits : FuncData} (G_law_digits : FnOk P w K mg base CX0 1 f_law_digits d_law_digits ["_law_row_here", "_law_sizes"] (spM K CT 2 m_law_digits)) (g_law_digits : mg "_law_digits" = some (.ref f_law_digits)) (kp_law_digits : PySem.W.keepIn K (.ref f_law_digits) = true) (b_law_digits : Binds K d_law_digits ["_law_row_here", "_law_sizes"] []) {f_law_value : Addr} {d_law_value : FuncData} (G_law_value : FnOk P w K mg base CX0 3 f_law_value d_law_value ["_law_row_here"] (spM K CT 1 m_law_value)) (g_law_value : mg "_law_value" = some (.ref f_law_value)) (kp_law_value : PySem.W.keepIn K (.ref f_law_value) = true) (b_law_value : Binds K d_law_value ["_law_row_here"] []) (z_len : mg "len" = none) :
    FnOk P w K mg base CX0 4 f fd ["_law_keys_here", "_law_row_here"] (spM K CT 2 m_law_deed) := by
  have nd := sc_law_deed.nd
  refine fun_ok F sc_law_deed fun cdv A outer s H wx hr => ?_
  exact mss_cons (mst_asg (me_call G_law_digits mDef_len (hr.mono (by decide)) (by rfl) g_law_digits kp_law_digits b_law_digits .nil (fun _ _ => .nil) pass0 (ma_v (me_var (pv 1)) (ma_v (me_lst (ma_v (me_p (meq_int)) (ma_v (me_p (meq_cb cd_len (by rfl) z_len (by decide +kernel) (maq_cons (meq_var (pv 0)) (maq_nil)))) (ma_v (me_p (meq_int)) (ma_v (me_binQ od_add (meq_bin od_pow (meq_int) (meq_int)) (meq_int)) (ma_nil)))))) (ma_nil)))) (mg_tl (n := 4) rfl (mgs_cons (mg_name (i := 2) nd rfl (Or.inl rfl) (by decide)) (mgs_cons (mg_name (i := 3) nd rfl (Or.inl rfl) (by decide)) (mgs_cons (mg_name (i := 4) nd rfl (Or.inl rfl) (by decide)) (mgs_cons (mg_name (i := 5) nd rfl (Or.inl rfl) (by decide)) (mgs_nil)))))))
    (mss_cons (mst_set (i := 6) nd rfl (Or.inl rfl) (by decide) (me_p (meq_ix hr.units (meq_var (pv 0)) (meq_var (pv 3)) (fun _ _ => rfl))))
    (mss_cons (mst_if (mt_cmpQ (od_ltT hr.units0) (meq_var (pv 2)) (meq_int) (nomark _)) (mss_one (mst_rt (me_tup (ma_v (me_p (meq_str)) (ma_v (me_mv (pv 6)) (ma_nil)))))) (mss_nil))
    (mss_cons (mst_if (mt_cmpQ (od_ltT hr.units0) (meq_var (pv 2)) (meq_int) (nomark _)) (mss_one (mst_rt (me_tup (ma_v (me_p (meq_str)) (ma_v (me_mv (pv 6)) (ma_v (me_call G_law_value mDef_len (hr.mono (by decide)) (by rfl) g_law_value kp_law_value b_law_value .nil (fun _ _ => .nil) pass0 (ma_q (maq_cons (meq_bin od_fdiv (meq_var (pv 1)) (meq_bin od_pow (meq_int) (meq_int))) (maq_nil)))) (ma_nil))))))) (mss_nil))
    (mss_cons (mst_if (mt_cmpQ (od_eq hr.units) (meq_var (pv 2)) (meq_int) (nomark _)) (mss_one (mst_rt (me_tup (ma_v (me_p (meq_str)) (ma_v (me_mv (pv 6)) (ma_nil)))))) (mss_nil))
    (mss_cons (mst_set (i := 5) nd rfl (Or.inl rfl) (by decide) (me_ix hr.units (me_lst (ma_v (me_var (pv 5)) (ma_v (me_binQ od_mod (meq_var (pv 5)) (meq_int)) (ma_v (me_binQ od_pow (meq_int) (meq_int)) (ma_nil))))) (meb_q (meq_bin od_sub (meq_var (pv 2)) (meq_int))) (fun _ _ => rfl)))
    (mss_cons (mst_if (mt_cmpQ (od_eq hr.units) (meq_var (pv 4)) (meq_int) (nomark _)) (mss_one (mst_set (i := 5) nd rfl (Or.inl rfl) (by decide) (me_p (meq_un ud_neg (meq_var (pv 5)))))) (mss_nil))
    (mss_one (mst_rt (me_tup (ma_v (me_p (meq_str)) (ma_v (me_mv (pv 6)) (ma_v (me_mv (pv 5)) (ma_nil)))))))))))))
/-! _law_rows -/
abbrev s_law_rows : Stmt := topS 14
abbrev N_law_rows : List Str := ["_law_script", "_law_at", "_law_keys_here", "_law_rows_here", "_law_k"]
theorem sc_law_rows : FnScope N_law_rows ["_law_script", "_law_at", "_law_keys_here"] (defScope s_law_rows) := ⟨rfl, rfl, rfl, by decide +kernel, rfl, by decide +kernel, by decide +kernel⟩
noncomputable def m_law_rows : CallM := mDef 3 5 [0, 1, 2] (
  sSeq (sAsg (mBox (mDic0)) (bName 3))
    (sSeq (sFor (miR1 (maQ (mqCons (mqCB dLen (mqCons (mqVar 2) (mqNil))) (mqNil)))) (bName 4) (sIf (mtB (mOp2 dGtT (mOp2 dMod (mOp2 dFdiv (mCB dInt (maV (mCall m_law_row [] (maN 0 (maN 1 (maNil)))) (maNil))) (mB (mqOp2 dAdd (mqVar 4) (mqC (.int 1))))) (mB (mqC (.int 4)))) (mB (mqC (.int 0))))) (sAsg (mFz (mCall m_law_value [] (maV (mCall m_law_row [] (maN 0 (maQ (mqCons (mqOp2 dAdd (mqOp2 dAdd (mqVar 1) (mqC (.int 1))) (mqVar 4)) (mqNil))))) (maNil)))) (bSubP gSetD (rsN 3) (mqIx (mqVar 2) (mqVar 4)))) (sPass)))
    (sRt (mMv 3))))
theorem ok_law_rows {P : Program} {w : World} {K : PySem.W.Frag} {mg : Str → Option Value} {base : Heap} {CT : Nat → Addr} {f : Addr} {fd : FuncData} (F : Fun K "_law_rows" "_law_rows" s_law_rows f fd) {f_law_row : Addr} {d_law_row : FuncData} (G_law_row : FnOk P w K mg base CX0 1 f_law_row d_law_row ["_law_script", "_law_k"] (spM K CT 2 m_law_row)) (g_law_row : mg "_law_row" = some (.ref f_law_row)) (kp_law_row : PySem.W.keepIn K (.ref f_law_row) = true) (b_law_row : Binds K d_law_row ["_law_script", "_law_k"] []) {f_law_value : Addr} {d_law_value : FuncData} (G_law_value : FnOk P w K mg base CX0 3 f_law_value d_law_value ["_law_row_here"] (spM K CT 1 m_law_value)) (g_law_value : mg "_law_value" = some (.ref f_law_value)) (kp_law_value : PySem.W.keepIn K (.ref f_law_value) = true) (b_law_value : Binds K d_law_value ["_law_row_here"] []) (z_int : mg "int" = none) (z_len : mg "len" = none) (z_range : mg "range" = none) :
    FnOk P w K mg base CX0 4 f fd ["_law_script", "_law_at", "_law_keys_here"] (spM K CT 3 m_law_rows) := by
  have nd := sc_law_rows.nd
  refine fun_ok F sc_law_rows fun cdv A outer s H wx hr => ?_
  exact mss_cons (mst_set (i := 3) nd rfl (Or.inl rfl) (by decide) (me_box (me_dic0)))
    (mss_cons (mst_for (pi := []) PassesOwn.never rfl (mi_r1 (by rfl) z_range (ma_q (maq_cons (meq_cb cd_len (by rfl) z_len (by decide +kernel) (maq_cons (meq_var (pv 2)) (maq_nil))) (maq_nil)))) (mg_name (i := 4) nd rfl (Or.inl rfl) (by decide)) (mss_one (mst_if (mt_cmp (od_gtT hr.units0) (me_bin od_mod (me_bin od_fdiv (me_cty cd_int (by rfl) z_int (by decide +kernel) (ma_v (me_call G_law_row mDef_len (hr.mono (by decide)) (by rfl) g_law_row kp_law_row b_law_row .nil (fun _ _ => .nil) pass0 (ma_n (pv 0) (ma_n (pv 1) (ma_nil)))) (ma_nil))) (meb_q (meq_bin od_add (meq_var (pv 4)) (meq_int)))) (meb_q (meq_int))) (meb_q (meq_int)) (nomark _)) (mss_one (mst_asg (me_fz (me_call G_law_value mDef_len (hr.mono (by decide)) (by rfl) g_law_value kp_law_value b_law_value .nil (fun _ _ => .nil) pass0 (ma_v (me_call G_law_row mDef_len (hr.mono (by decide)) (by rfl) g_law_row kp_law_row b_law_row .nil (fun _ _ => .nil) pass0 (ma_n (pv 0) (ma_q (maq_cons (meq_bin od_add (meq_bin od_add (meq_var (pv 1)) (meq_int)) (meq_var (pv 4))) (maq_nil))))) (ma_nil)))) (mg_subP sd_dic (set_dicH hr.units) (pl_nm (pv 3)) (meq_ix hr.units (meq_var (pv 2)) (meq_var (pv 4)) (fun _ _ => rfl))))) (mss_nil))))
    (mss_one (mst_rt (me_mv (pv 3)))))
/-! _law_deal -/
abbrev s_law_deal : Stmt := topS 15
abbrev N_law_deal : List Str := ["_law_keys_here", "_law_rows_here", "_law_row_here", "_law_more", "_law_checks", "_law_deeds", "_law_many_checks", "_law_many_deeds", "_law_right", "_law_k", "_law_at", "_law_kind", "_law_value_here", "_law_key_here", "_law_check"]
theorem sc_law_deal : FnScope N_law_deal ["_law_keys_here", "_law_rows_here", "_law_row_here", "_law_more"] (defScope s_law_deal) := ⟨rfl, rfl, rfl, by decide +kernel, rfl, by decide +kernel, by decide +kernel⟩
noncomputable def m_law_deal : CallM := mDef 4 15 [0, 1, 2, 3] (
  sSeq (sAsg (mLst (maNil)) (bName 4))
    (sSeq (sAsg (mLst (maNil)) (bName 5))
    (sSeq (sAsg (mCall m_law_digits [] (maV (mVar 2) (maV (mLst (maV (mP (mqC (.int 5))) (maV (mP (mqC (.int 7))) (maV (mP (mqC (.int 3))) (maNil))))) (maNil)))) (bTL 3 (bCons (bName 6) (bCons (bName 7) (bCons (bName 8) (bNil))))))
    (sSeq (sIf (mtB (mOpQ dEq (mqOp2 dAdd (mqVar 6) (mqVar 7)) (mqC (.int 0)))) (sAsg (mP (mqC (.int 1))) (bName 7)) (sPass))
    (sSeq (sFor (miR1 (maN 6 (maNil))) (bName 9) (sSeq (sAsg (mCall m_law_digits [] (maV (mOpQ dFdiv (mqVar 2) (mqOp2 dAdd (mqC (.int 107)) (mqOp2 dMul (mqC (.int 10)) (mqVar 9)))) (maV (mLst (maV (mP (mqCB dLen (mqCons (mqVar 0) (mqNil)))) (maV (mP (mqC (.int 8))) (maV (mOpQ dPow (mqC (.int 10)) (mqC (.int 9))) (maNil))))) (maNil)))) (bTL 3 (bCons (bName 10) (bCons (bName 11) (bCons (bName 12) (bNil))))))
      (sSeq (sAsg (mP (mqIx (mqVar 0) (mqVar 10))) (bName 13))
      (sSeq (sAsg (mOpL "dict" gDGet1 (rsN 1) (maV (mVar 13) (maNil))) (bName 14))
      (sSeq (sIf (mtAnd (mtB (mOpQ dEq (mqVar 8) (mqC (.int 0)))) (mtB (mOpQ dLtT (mqVar 11) (mqC (.int 2))))) (sAsg (mIx (mLst (maV (mP (mqC .non)) (maV (mVar 12) (maNil)))) (mB (mqVar 11))) (bName 14)) (sPass))
      (sEx (mAppN 4 (mTup (maV (mVar 13) (maV (mVar 14) (maNil)))))))))))
    (sSeq (sFor (miR1 (maN 7 (maNil))) (bName 9) (sEx (mAppN 5 (mCall m_law_deed [] (maN 0 (maQ (mqCons (mqOp2 dAdd (mqOp2 dFdiv (mqVar 3) (mqOp2 dAdd (mqVar 9) (mqC (.int 1)))) (mqOp2 dMul (mqVar 9) (mqVar 2))) (mqNil))))))))
    (sRt (mTup (maV (mCB dTuple (maN 4 (maNil))) (maV (mCB dTuple (maN 5 (maNil))) (maNil)))))))))))
theorem ok_law_deal {P : Program} {w : World} {K : PySem.W.Frag} {mg : Str → Option Value} {base : Heap} {CT : Nat → Addr} {f : Addr} {fd : FuncData} (F : Fun K "_law_deal" "_law_deal" s_law_deal f fd) {f_law_deed : Addr} {d_law_deed : FuncData} (G_law_deed : FnOk P w K mg base CX0 4 f_law_deed d_law_deed ["_law_keys_here", "_law_row_here"] (spM K CT 2 m_law_deed)) (g_law_deed : mg "_law_deed" = some (.ref f_law_deed)) (kp_law_deed : PySem.W.keepIn K (.ref f_law_deed) = true) (b_law_deed : Binds K d_law_deed ["_law_keys_here", "_law_row_here"] []) {f_law_digits : Addr} {d_law_digits : FuncData} (G_law_digits : FnOk P w K mg base CX0 1 f_law_digits d_law_digits ["_law_row_here", "_law_sizes"] (spM K CT 2 m_law_digits)) (g_law_digits : mg "_law_digits" = some (.ref f_law_digits)) (kp_law_digits : PySem.W.keepIn K (.ref f_law_digits) = true) (b_law_digits : Binds K d_law_digits ["_law_row_here", "_law_sizes"] []) (z_len : mg "len" = none) (z_range : mg "range" = none) (z_tuple : mg "tuple" = none) :
    FnOk P w K mg base CX0 5 f fd ["_law_keys_here", "_law_rows_here", "_law_row_here", "_law_more"] (spM K CT 4 m_law_deal) := by
  have nd := sc_law_deal.nd
  refine fun_ok F sc_law_deal fun cdv A outer s H wx hr => ?_
  exact mss_cons (mst_set (i := 4) nd rfl (Or.inl rfl) (by decide) (me_lst (ma_nil)))
    (mss_cons (mst_set (i := 5) nd rfl (Or.inl rfl) (by decide) (me_lst (ma_nil)))
    (mss_cons (mst_asg (me_call G_law_digits mDef_len (hr.mono (by decide)) (by rfl) g_law_digits kp_law_digits b_law_digits .nil (fun _ _ => .nil) pass0 (ma_v (me_var (pv 2)) (ma_v (me_lst (ma_v (me_p (meq_int)) (ma_v (me_p (meq_int)) (ma_v (me_p (meq_int)) (ma_nil))))) (ma_nil)))) (mg_tl (n := 3) rfl (mgs_cons (mg_name (i := 6) nd rfl (Or.inl rfl) (by decide)) (mgs_cons (mg_name (i := 7) nd rfl (Or.inl rfl) (by decide)) (mgs_cons (mg_name (i := 8) nd rfl (Or.inl rfl) (by decide)) (mgs_nil))))))
    (mss_cons (mst_if (mt_cmpQ (od_eq hr.units) (meq_bin od_add (meq_var (pv 6)) (meq_var (pv 7))) (meq_int) (nomark _)) (mss_one (mst_set (i := 7) nd rfl (Or.inl rfl) (by decide) (me_p (meq_int)))) (mss_nil))
    (mss_cons (mst_for (pi := []) PassesOwn.never rfl (mi_r1 (by rfl) z_range (ma_n (pv 6) (ma_nil))) (mg_name (i := 9) nd rfl (Or.inl rfl) (by decide)) (mss_cons (mst_asg (me_call G_law_digits mDef_len (hr.mono (by decide)) (by rfl) g_law_digits kp_law_digits b_law_digits .nil (fun _ _ => .nil) pass0 (ma_v (me_binQ od_fdiv (meq_var (pv 2)) (meq_bin od_add (meq_int) (meq_bin od_mul (meq_int) (meq_var (pv 9))))) (ma_v (me_lst (ma_v (me_p (meq_cb cd_len (by rfl) z_len (by decide +kernel) (maq_cons (meq_var (pv 0)) (maq_nil)))) (ma_v (me_p (meq_int)) (ma_v (me_binQ od_pow (meq_int) (meq_int)) (ma_nil))))) (ma_nil)))) (mg_tl (n := 3) rfl (mgs_cons (mg_name (i := 10) nd rfl (Or.inl rfl) (by decide)) (mgs_cons (mg_name (i := 11) nd rfl (Or.inl rfl) (by decide)) (mgs_cons (mg_name (i := 12) nd rfl (Or.inl rfl) (by decide)) (mgs_nil))))))
      (mss_cons (mst_set (i := 13) nd rfl (Or.inl rfl) (by decide) (me_p (meq_ix hr.units (meq_var (pv 0)) (meq_var (pv 10)) (fun _ _ => rfl))))
      (mss_cons (mst_set (i := 14) nd rfl (Or.inl rfl) (by decide) (me_opL PySem.F.plainAttrs_dict PySem.F.slot_dict_get PySem.F.type_dict_get (mt_dget1 hr.units) mu_dget1 (pl_nm (pv 1)) (ma_v (me_var (pv 13)) (ma_nil))))
      (mss_cons (mst_if (mt_w (mw_and (mt_cmpQ (od_eq hr.units) (meq_var (pv 8)) (meq_int) (nomark _)) (mw_and1 (mt_cmpQ (od_ltT hr.units0) (meq_var (pv 11)) (meq_int) (nomark _))))) (mss_one (mst_set (i := 14) nd rfl (Or.inl rfl) (by decide) (me_ix hr.units (me_lst (ma_v (me_p (meq_non)) (ma_v (me_var (pv 12)) (ma_nil)))) (meb_q (meq_var (pv 11))) (fun _ _ => rfl)))) (mss_nil))
      (mss_one (mst_ex (me_appN (pv 4) (me_tup (ma_v (me_var (pv 13)) (ma_v (me_var (pv 14)) (ma_nil))))))))))))
    (mss_cons (mst_for (pi := []) PassesOwn.never rfl (mi_r1 (by rfl) z_range (ma_n (pv 7) (ma_nil))) (mg_name (i := 9) nd rfl (Or.inl rfl) (by decide)) (mss_one (mst_ex (me_appN (pv 5) (me_call G_law_deed mDef_len (hr.mono (by decide)) (by rfl) g_law_deed kp_law_deed b_law_deed .nil (fun _ _ => .nil) pass0 (ma_n (pv 0) (ma_q (maq_cons (meq_bin od_add (meq_bin od_fdiv (meq_var (pv 3)) (meq_bin od_add (meq_var (pv 9)) (meq_int))) (meq_bin od_mul (meq_var (pv 9)) (meq_var (pv 2)))) (maq_nil)))))))))
    (mss_one (mst_rt (me_tup (ma_v (me_cty cd_tuple (by rfl) z_tuple (by decide +kernel) (ma_n (pv 4) (ma_nil))) (ma_v (me_cty cd_tuple (by rfl) z_tuple (by decide +kernel) (ma_n (pv 5) (ma_nil))) (ma_nil)))))))))))
/-! law -/
abbrev s_law : Stmt := topS 21
abbrev N_law : List Str := ["_law_script", "_law_keys_here", "_law_rows_here", "_law_k", "_law_deal_here", "_law_chosen", "_law_j", "_law_due", "_law_passed", "_law_told", "_law_named", "_law_check", "_law_pair", "_law_names", "_law_key_here"]
theorem sc_law : FnScope N_law ["_law_script"] (defScope s_law) := ⟨rfl, rfl, rfl, by decide +kernel, rfl, by decide +kernel, by decide +kernel⟩
noncomputable def m_law : CallM := mDef 1 15 [0] (
  sSeq (sAsg (mCall m_law_keys [] (maN 0 (maQ (mqCons (mqC (.int 0)) (mqCons (mqC (.int 8)) (mqNil)))))) (bName 1))
    (sSeq (sAsg (mCall m_law_rows [] (maN 0 (maV (mP (mqC (.int 10))) (maN 1 (maNil))))) (bName 2))
    (sSeq (sFor (miR1 (maQ (mqCons (mqC (.int 12)) (mqNil)))) (bName 3) (sSeq (sAsg (mCall m_law_deal [] (maN 1 (maN 2 (maV (mCall m_law_row [] (maN 0 (maQ (mqCons (mqOp2 dAdd (mqC (.int 20)) (mqVar 3)) (mqNil))))) (maV (mCall m_law_row [] (maN 0 (maQ (mqCons (mqOp2 dAdd (mqC (.int 40)) (mqVar 3)) (mqNil))))) (maNil)))))) (bName 4))
      (sSeq (sAsg (mLst (maV (mP (mqC (.str "zz"))) (maV (mFz (mCall m_law_key [] (maV (mCall m_law_row [] (maN 0 (maQ (mqCons (mqOp2 dAdd (mqC (.int 55)) (mqVar 3)) (mqNil))))) (maQ (mqCons (mqC (.int 8)) (mqNil)))))) (maNil)))) (bName 5))
      (sSeq (sFor (miR1 (maQ (mqCons (mqCB dLen (mqCons (mqVar 1) (mqNil))) (mqNil)))) (bName 6) (sIf (mtB (mOp2 dEq (mOp2 dMod (mOp2 dFdiv (mCB dInt (maV (mCall m_law_row [] (maN 0 (maQ (mqCons (mqOp2 dAdd (mqC (.int 70)) (mqVar 3)) (mqNil))))) (maNil))) (mB (mqOp2 dAdd (mqVar 6) (mqC (.int 1))))) (mB (mqC (.int 2)))) (mB (mqC (.int 0))))) (sEx (mInsN 5 (mOpQ dMod (mqVar 6) (mqC (.int 2))) (mP (mqIx (mqVar 1) (mqVar 6))))) (sPass)))
      (sSeq (sAsg (mCall m_law_part [] (maN 4 (maN 5 (maNil)))) (bName 7))
      (sSeq (sAsg (mCB dList (maN 5 (maNil))) (bName 8))
      (sSeq (sAsg (mCall m_part_of [] (maN 4 (maN 8 (maNil)))) (bName 9))
      (sSeq (sIf (mtOr (mtNot (mtV (mCall m_law_is_pair [] (maN 9 (maNil))))) (mtOr (mtB (mOpQ dNe (mqVar 9) (mqVar 7))) (mtB (mOpQ dNe (mqVar 8) (mqVar 5))))) (sRt (mP (mqC (.bl false)))) (sPass))
      (sSeq (sIf (mtOr (mtB (mOp2 dNe (mCall m_part_of [] (maN 4 (maV (mCB dTuple (maN 5 (maNil))) (maNil)))) (mB (mqVar 7)))) (mtB (mOp2 dNe (mCall m_part_of [] (maN 4 (maV (mLst (maNil)) (maNil)))) (mTup (maV (mTup (maNil)) (maV (mTup (maNil)) (maNil))))))) (sRt (mP (mqC (.bl false)))) (sPass))
      (sSeq (sAsg (mOp2 dAdd (mLc (miV (mP (mqIx (mqVar 7) (mqC (.int 0))))) [11] (bName 11) (mtYes) (mP (mqIx (mqVar 11) (mqC (.int 1))))) (mLc (miV (mP (mqIx (mqVar 7) (mqC (.int 1))))) [12] (bName 12) (mtYes) (mP (mqIx (mqIx (mqVar 12) (mqC (.int 1))) (mqC (.int 1)))))) (bName 10))
      (sSeq (sAsg (mCall m_keys_of_part [] (maN 9 (maNil))) (bName 13))
      (sIf (mtOr (mtNot (mtV (mB (mqCB dIsi (mqCons (mqVar 13) (mqCons (mqC (.ty "tuple")) (mqNil))))))) (mtB (mOpN dNe 13 (mCB dTuple (maV (mCB dSortA (maV (mLc (miN 1) [14] (bName 14) (mtB (mOpQ dIn (mqVar 14) (mqVar 10))) (mVar 14)) (maNil))) (maNil)))))) (sRt (mP (mqC (.bl false)))) (sPass)))))))))))))
    (sRt (mOp2 dEq (mCall m_keys_of_part [] (maV (mTup (maV (mTup (maNil)) (maV (mTup (maNil)) (maNil)))) (maNil))) (mTup (maNil)))))))
theorem ok_law {P : Program} {w : World} {K : PySem.W.Frag} {mg : Str → Option Value} {base : Heap} {CT : Nat → Addr} {f : Addr} {fd : FuncData} (F : Fun K "law" "law" s_law f fd) {f_law_deal : Addr} {d_law_deal : FuncData} (G_law_deal : FnOk P w K mg base CX0 5 f_law_deal d_law_deal ["_law_keys_here", "_law_rows_here", "_law_row_here", "_law_more"] (spM K CT 4 m_law_deal)) (g_law_deal : mg "_law_deal" = some (.ref f_law_deal)) (kp_law_deal : PySem.W.keepIn K (.ref f_law_deal) = true) (b_law_deal : Binds K d_law_deal ["_law_keys_here", "_law_rows_here", "_law_row_here", "_law_more"] []) {f_law_is_pair : Addr} {d_law_is_pair : FuncData} (G_law_is_pair : FnOk P w K mg base CX0 1 f_law_is_pair d_law_is_pair ["_law_data"] (spM K CT 1 m_law_is_pair)) (g_law_is_pair : mg "_law_is_pair" = some (.ref f_law_is_pair)) (kp_law_is_pair : PySem.W.keepIn K (.ref f_law_is_pair) = true) (b_law_is_pair : Binds K d_law_is_pair ["_law_data"] []) {f_law_key : Addr} {d_law_key : FuncData} (G_law_key : FnOk P w K mg base CX0 1 f_law_key d_law_key ["_law_row_here", "_law_most"] (spM K CT 2 m_law_key)) (g_law_key : mg "_law_key" = some (.ref f_law_key)) (kp_law_key : PySem.W.keepIn K (.ref f_law_key) = true) (b_law_key : Binds K d_law_key ["_law_row_here", "_law_most"] []) {f_law_keys : Addr} {d_law_keys : FuncData} (G_law_keys : FnOk P w K mg base CX0 2 f_law_keys d_law_keys ["_law_script", "_law_at", "_law_most"] (spM K CT 3 m_law_keys)) (g_law_keys : mg "_law_keys" = some (.ref f_law_keys)) (kp_law_keys : PySem.W.keepIn K (.ref f_law_keys) = true) (b_law_keys : Binds K d_law_keys ["_law_script", "_law_at", "_law_most"] []) {f_law_part : Addr} {d_law_part : FuncData} (G_law_part : FnOk P w K mg base CX0 1 f_law_part d_law_part ["_law_deal_here", "_law_keys_here"] (spM K CT 2 m_law_part)) (g_law_part : mg "_law_part" = some (.ref f_law_part)) (kp_law_part : PySem.W.keepIn K (.ref f_law_part) = true) (b_law_part : Binds K d_law_part ["_law_deal_here", "_law_keys_here"] []) {f_law_row : Addr} {d_law_row : FuncData} (G_law_row : FnOk P w K mg base CX0 1 f_law_row d_law_row ["_law_script", "_law_k"] (spM K CT 2 m_law_row)) (g_law_row : mg "_law_row" = some (.ref f_law_row)) (kp_law_row : PySem.W.keepIn K (.ref f_law_row) = true) (b_law_row : Binds K d_law_row ["_law_script", "_law_k"] []) {f_law_rows : Addr} {d_law_rows : FuncData} (G_law_rows : FnOk P w K mg base CX0 4 f_law_rows d_law_rows ["_law_script", "_law_at", "_law_keys_here"] (spM K CT 3 m_law_rows)) (g_law_rows : mg "_law_rows" = some (.ref f_law_rows)) (kp_law_rows : PySem.W.keepIn K (.ref f_law_rows) = true) (b_law_rows : Binds K d_law_rows ["_law_script", "_law_at", "_law_keys_here"] []) (z_int : mg "int" = none) (z_isinstance : mg "isinstance" = none) {f_keys_of_part : Addr} {d_keys_of_part : FuncData} (G_keys_of_part : FnOk P w K mg base CX0 1 f_keys_of_part d_keys_of_part ["part"] (spM K CT 1 m_keys_of_part)) (g_keys_of_part : mg "keys_of_part" = some (.ref f_keys_of_part)) (kp_keys_of_part : PySem.W.keepIn K (.ref f_keys_of_part) = true) (b_keys_of_part : Binds K d_keys_of_part ["part"] []) (z_len : mg "len" = none) (z_list : mg "list" = none) {f_part_of : Addr} {d_part_of : FuncData} (G_part_of : FnOk P w K mg base CX0 1 f_part_of d_part_of ["deal", "keys"] (spM K CT 2 m_part_of)) (g_part_of : mg "part_of" = some (.ref f_part_of)) (kp_part_of : PySem.W.keepIn K (.ref f_part_of) = true) (b_part_of : Binds K d_part_of ["deal", "keys"] []) (z_range : mg "range" = none) (z_sorted : mg "sorted" = none) (z_tuple : mg "tuple" = none) :
    FnOk P w K mg base CX0 6 f fd ["_law_script"] (spM K CT 1 m_law) := by
  have nd := sc_law.nd
  refine fun_ok F sc_law fun cdv A outer s H wx hr => ?_
  exact mss_cons (mst_set (i := 1) nd rfl (Or.inl rfl) (by decide) (me_call G_law_keys mDef_len (hr.mono (by decide)) (by rfl) g_law_keys kp_law_keys b_law_keys .nil (fun _ _ => .nil) pass0 (ma_n (pv 0) (ma_q (maq_cons (meq_int) (maq_cons (meq_int) (maq_nil)))))))
    (mss_cons (mst_set (i := 2) nd rfl (Or.inl rfl) (by decide) (me_call G_law_rows mDef_len (hr.mono (by decide)) (by rfl) g_law_rows kp_law_rows b_law_rows .nil (fun _ _ => .nil) pass0 (ma_n (pv 0) (ma_v (me_p (meq_int)) (ma_n (pv 1) (ma_nil))))))
    (mss_cons (mst_for (pi := []) PassesOwn.never rfl (mi_r1 (by rfl) z_range (ma_q (maq_cons (meq_int) (maq_nil)))) (mg_name (i := 3) nd rfl (Or.inl rfl) (by decide)) (mss_cons (mst_set (i := 4) nd rfl (Or.inl rfl) (by decide) (me_call G_law_deal mDef_len (hr.mono (by decide)) (by rfl) g_law_deal kp_law_deal b_law_deal .nil (fun _ _ => .nil) pass0 (ma_n (pv 1) (ma_n (pv 2) (ma_v (me_call G_law_row mDef_len (hr.mono (by decide)) (by rfl) g_law_row kp_law_row b_law_row .nil (fun _ _ => .nil) pass0 (ma_n (pv 0) (ma_q (maq_cons (meq_bin od_add (meq_int) (meq_var (pv 3))) (maq_nil))))) (ma_v (me_call G_law_row mDef_len (hr.mono (by decide)) (by rfl) g_law_row kp_law_row b_law_row .nil (fun _ _ => .nil) pass0 (ma_n (pv 0) (ma_q (maq_cons (meq_bin od_add (meq_int) (meq_var (pv 3))) (maq_nil))))) (ma_nil)))))))
      (mss_cons (mst_set (i := 5) nd rfl (Or.inl rfl) (by decide) (me_lst (ma_v (me_p (meq_str)) (ma_v (me_fz (me_call G_law_key mDef_len (hr.mono (by decide)) (by rfl) g_law_key kp_law_key b_law_key .nil (fun _ _ => .nil) pass0 (ma_v (me_call G_law_row mDef_len (hr.mono (by decide)) (by rfl) g_law_row kp_law_row b_law_row .nil (fun _ _ => .nil) pass0 (ma_n (pv 0) (ma_q (maq_cons (meq_bin od_add (meq_int) (meq_var (pv 3))) (maq_nil))))) (ma_q (maq_cons (meq_int) (maq_nil)))))) (ma_nil)))))
      (mss_cons (mst_for (pi := []) PassesOwn.never rfl (mi_r1 (by rfl) z_range (ma_q (maq_cons (meq_cb cd_len (by rfl) z_len (by decide +kernel) (maq_cons (meq_var (pv 1)) (maq_nil))) (maq_nil)))) (mg_name (i := 6) nd rfl (Or.inl rfl) (by decide)) (mss_one (mst_if (mt_cmp (od_eq hr.units) (me_bin od_mod (me_bin od_fdiv (me_cty cd_int (by rfl) z_int (by decide +kernel) (ma_v (me_call G_law_row mDef_len (hr.mono (by decide)) (by rfl) g_law_row kp_law_row b_law_row .nil (fun _ _ => .nil) pass0 (ma_n (pv 0) (ma_q (maq_cons (meq_bin od_add (meq_int) (meq_var (pv 3))) (maq_nil))))) (ma_nil))) (meb_q (meq_bin od_add (meq_var (pv 6)) (meq_int)))) (meb_q (meq_int))) (meb_q (meq_int)) (nomark _)) (mss_one (mst_ex (me_insN (pv 5) (me_binQ od_mod (meq_var (pv 6)) (meq_int)) (me_p (meq_ix hr.units (meq_var (pv 1)) (meq_var (pv 6)) (fun _ _ => rfl)))))) (mss_nil))))
      (mss_cons (mst_set (i := 7) nd rfl (Or.inl rfl) (by decide) (me_call G_law_part mDef_len (hr.mono (by decide)) (by rfl) g_law_part kp_law_part b_law_part .nil (fun _ _ => .nil) pass0 (ma_n (pv 4) (ma_n (pv 5) (ma_nil)))))
      (mss_cons (mst_set (i := 8) nd rfl (Or.inl rfl) (by decide) (me_cty cd_list (by rfl) z_list (by decide +kernel) (ma_n (pv 5) (ma_nil))))
      (mss_cons (mst_set (i := 9) nd rfl (Or.inl rfl) (by decide) (me_call G_part_of mDef_len (hr.mono (by decide)) (by rfl) g_part_of kp_part_of b_part_of .nil (fun _ _ => .nil) pass0 (ma_n (pv 4) (ma_n (pv 8) (ma_nil)))))
      (mss_cons (mst_if (mt_w (mw_or (mt_not (mt_v (meb_v (me_call G_law_is_pair mDef_len (hr.mono (by decide)) (by rfl) g_law_is_pair kp_law_is_pair b_law_is_pair .nil (fun _ _ => .nil) pass0 (ma_n (pv 9) (ma_nil)))))) (mw_or (mt_cmpQ (od_ne hr.units) (meq_var (pv 9)) (meq_var (pv 7)) (nomark _)) (mw_or1 (mt_cmpQ (od_ne hr.units) (meq_var (pv 8)) (meq_var (pv 5)) (nomark _)))))) (mss_one (mst_rt (me_p (meq_bl)))) (mss_nil))
      (mss_cons (mst_if (mt_w (mw_or (mt_cmp (od_ne hr.units) (me_call G_part_of mDef_len (hr.mono (by decide)) (by rfl) g_part_of kp_part_of b_part_of .nil (fun _ _ => .nil) pass0 (ma_n (pv 4) (ma_v (me_cty cd_tuple (by rfl) z_tuple (by decide +kernel) (ma_n (pv 5) (ma_nil))) (ma_nil)))) (meb_q (meq_var (pv 7))) (nomark _)) (mw_or1 (mt_cmp (od_ne hr.units) (me_call G_part_of mDef_len (hr.mono (by decide)) (by rfl) g_part_of kp_part_of b_part_of .nil (fun _ _ => .nil) pass0 (ma_n (pv 4) (ma_v (me_lst (ma_nil)) (ma_nil)))) (meb_v (me_tup (ma_v (me_tup (ma_nil)) (ma_v (me_tup (ma_nil)) (ma_nil))))) (nomark _))))) (mss_one (mst_rt (me_p (meq_bl)))) (mss_nil))
      (mss_cons (mst_set (i := 10) nd rfl (Or.inr rfl) (by decide) (me_bin od_add (me_lc rfl nd (own := [("_law_check", 11)]) (pi := []) (pin := [0, 1, 2, 3, 4, 5, 6, 7, 8, 9, 10, 12, 13, 14]) (mi_v (me_p (meq_ix hr.units (meq_var (pv 7)) (meq_int) (fun _ _ => rfl)))) (blkOk_by (own := [("_law_check", 11)]) (N := N_law) (sc := defScope s_law) (by decide +kernel)) (fun _ _ _ _ _ => mg_name (i := 11) nd rfl (Or.inl rfl) (by decide)) (fun _ _ _ _ _ => mts_nil) (fun _ _ _ _ _ => me_p (meq_ix hr.units (meq_var (pv 11)) (meq_int) (fun _ _ => rfl))) (by decide) (by decide) (show ∀ i, i < 15 → i ∉ [11] → i ∈ [0, 1, 2, 3, 4, 5, 6, 7, 8, 9, 10, 12, 13, 14] by decide)) (meb_v (me_lc rfl nd (own := [("_law_pair", 12)]) (pi := []) (pin := [0, 1, 2, 3, 4, 5, 6, 7, 8, 9, 10, 11, 13, 14]) (mi_v (me_p (meq_ix hr.units (meq_var (pv 7)) (meq_int) (fun _ _ => rfl)))) (blkOk_by (own := [("_law_pair", 12)]) (N := N_law) (sc := defScope s_law) (by decide +kernel)) (fun _ _ _ _ _ => mg_name (i := 12) nd rfl (Or.inl rfl) (by decide)) (fun _ _ _ _ _ => mts_nil) (fun _ _ _ _ _ => me_p (meq_ix hr.units (meq_ix hr.units (meq_var (pv 12)) (meq_int) (fun _ _ => rfl)) (meq_int) (fun _ _ => rfl))) (by decide) (by decide) (show ∀ i, i < 15 → i ∉ [12] → i ∈ [0, 1, 2, 3, 4, 5, 6, 7, 8, 9, 10, 11, 13, 14] by decide)))))
      (mss_cons (mst_set (i := 13) nd rfl (Or.inl rfl) (by decide) (me_call G_keys_of_part mDef_len (hr.mono (by decide)) (by rfl) g_keys_of_part kp_keys_of_part b_keys_of_part .nil (fun _ _ => .nil) pass0 (ma_n (pv 9) (ma_nil))))
      (mss_one (mst_if (mt_w (mw_or (mt_not (mt_v (meb_q (meq_cb cd_isi (by rfl) z_isinstance (by decide +kernel) (maq_cons (meq_var (pv 13)) (maq_cons (meq_ty (by rfl) z_tuple (by decide +kernel)) (maq_nil))))))) (mw_or1 (mt_cmpN (od_ne hr.units) (pv 13) (meb_v (me_cty cd_tuple (by rfl) z_tuple (by decide +kernel) (ma_v (me_cb cd_sortA (by rfl) z_sorted (by decide +kernel) (ma_v (me_lc rfl nd (own := [("_law_key_here", 14)]) (pi := [1]) (pin := [0, 1, 2, 3, 4, 5, 6, 7, 8, 9, 10, 11, 12, 13]) (mi_n (pv 1)) (blkOk_by (own := [("_law_key_here", 14)]) (N := N_law) (sc := defScope s_law) (by decide +kernel)) (fun _ _ _ _ _ => mg_name (i := 14) nd rfl (Or.inl rfl) (by decide)) (fun _ _ _ _ _ => mts_one (mt_cmpQ (od_in (room65 hr)) (meq_var (pv 14)) (meq_var (pv 10)) (by rfl))) (fun _ _ _ _ _ => me_var (pv 14)) (by decide) (by decide) (show ∀ i, i < 15 → i ∉ [14] → i ∈ [0, 1, 2, 3, 4, 5, 6, 7, 8, 9, 10, 11, 12, 13] by decide)) (ma_nil))) (ma_nil)))) (nomark _))))) (mss_one (mst_rt (me_p (meq_bl)))) (mss_nil))))))))))))))
    (mss_one (mst_rt (me_cmp (od_eq hr.units) (me_call G_keys_of_part mDef_len (hr.mono (by decide)) (by rfl) g_keys_of_part kp_keys_of_part b_keys_of_part .nil (fun _ _ => .nil) pass0 (ma_v (me_tup (ma_v (me_tup (ma_nil)) (ma_v (me_tup (ma_nil)) (ma_nil)))) (ma_nil))) (meb_v (me_tup (ma_nil))) (nomark _))))))
end Gen
namespace Gen
open PySem E Y
open L2 (atI ixN)
abbrev e_MS : (List Str) → D := eL true D.str
theorem np_MS (x : (List Str)) : (e_MS x).pure = false := npO
abbrev e_LS : (List Str) → D := eL false D.str
theorem pu_LS (x : (List Str)) : (e_LS x).pure = true := puF (puM (fun _ => rfl) x)
theorem fz_MS (x : (List Str)) : (e_MS x).fz = e_LS x := fzO (puM (fun _ => rfl) x)
abbrev e_LI : (List Int) → D := eL false D.int
theorem pu_LI (x : (List Int)) : (e_LI x).pure = true := puF (puM (fun _ => rfl) x)
abbrev e_XSW : (List (Str × W)) → D := eDic true D.str e_W
theorem np_XSW (x : (List (Str × W))) : (e_XSW x).pure = false := npDic
abbrev e_YSW : (List (Str × W)) → D := eDic false D.str e_W
theorem pu_YSW (x : (List (Str × W))) : (e_YSW x).pure = true := puDic pu_W x
theorem fz_XSW (x : (List (Str × W))) : (e_XSW x).fz = e_YSW x := fzDic pu_W x
abbrev e_MI : (List Int) → D := eL true D.int
theorem np_MI (x : (List Int)) : (e_MI x).pure = false := npO
theorem fz_MI (x : (List Int)) : (e_MI x).fz = e_LI x := fzO (puM (fun _ => rfl) x)
abbrev e_OW : (Option W) → D := eO e_W
theorem pu_OW (x : (Option W)) : (e_OW x).pure = true := puO pu_W x
abbrev e_OI : (Option Int) → D := eO D.int
theorem pu_OI (x : (Option Int)) : (e_OI x).pure = true := puO (fun _ => rfl) x
abbrev e_MOI : (List (Option Int)) → D := eL true e_OI
theorem np_MOI (x : (List (Option Int))) : (e_MOI x).pure = false := npO
abbrev e_LOI : (List (Option Int)) → D := eL false e_OI
theorem pu_LOI (x : (List (Option Int))) : (e_LOI x).pure = true := puF (puM pu_OI x)
theorem fz_MOI (x : (List (Option Int))) : (e_MOI x).fz = e_LOI x := fzO (puM pu_OI x)
abbrev e_T2SOW : (Str × (Option W)) → D := fun x => .tup [D.str x.1, e_OW x.2]
theorem pu_T2SOW (x : (Str × (Option W))) : (e_T2SOW x).pure = true := puT (puc rfl (puc (pu_OW x.2) (pun)))
abbrev e_MT2SOW : (List (Str × (Option W))) → D := eL true e_T2SOW
theorem np_MT2SOW (x : (List (Str × (Option W)))) : (e_MT2SOW x).pure = false := npO
abbrev e_LT2SOW : (List (Str × (Option W))) → D := eL false e_T2SOW
theorem pu_LT2SOW (x : (List (Str × (Option W)))) : (e_LT2SOW x).pure = true := puF (puM pu_T2SOW x)
theorem fz_MT2SOW (x : (List (Str × (Option W)))) : (e_MT2SOW x).fz = e_LT2SOW x := fzO (puM pu_T2SOW x)
abbrev e_QW : (List W) → D := eQ e_W
theorem pu_QW (x : (List W)) : (e_QW x).pure = true := puT (puM pu_W x)
abbrev e_MQW : (List (List W)) → D := eL true e_QW
theorem np_MQW (x : (List (List W))) : (e_MQW x).pure = false := npO
abbrev e_LQW : (List (List W)) → D := eL false e_QW
theorem pu_LQW (x : (List (List W))) : (e_LQW x).pure = true := puF (puM pu_QW x)
theorem fz_MQW (x : (List (List W))) : (e_MQW x).fz = e_LQW x := fzO (puM pu_QW x)
abbrev e_QT2SOW : (List (Str × (Option W))) → D := eQ e_T2SOW
theorem pu_QT2SOW (x : (List (Str × (Option W)))) : (e_QT2SOW x).pure = true := puT (puM pu_T2SOW x)
abbrev e_QQW : (List (List W)) → D := eQ e_QW
theorem pu_QQW (x : (List (List W))) : (e_QQW x).pure = true := puT (puM pu_QW x)
abbrev e_T2QT2SOWQQW : ((List (Str × (Option W))) × (List (List W))) → D := fun x => .tup [e_QT2SOW x.1, e_QQW x.2]
theorem pu_T2QT2SOWQQW (x : ((List (Str × (Option W))) × (List (List W)))) : (e_T2QT2SOWQQW x).pure = true := puT (puc (pu_QT2SOW x.1) (puc (pu_QQW x.2) (pun)))
abbrev e_T3ISOW : (Int × Str × (Option W)) → D := fun x => .tup [D.int x.1, D.str x.2.1, e_OW x.2.2]
theorem pu_T3ISOW (x : (Int × Str × (Option W))) : (e_T3ISOW x).pure = true := puT (puc rfl (puc rfl (puc (pu_OW x.2.2) (pun))))
abbrev e_MT3ISOW : (List (Int × Str × (Option W))) → D := eL true e_T3ISOW
theorem np_MT3ISOW (x : (List (Int × Str × (Option W)))) : (e_MT3ISOW x).pure = false := npO
abbrev e_LT3ISOW : (List (Int × Str × (Option W))) → D := eL false e_T3ISOW
theorem pu_LT3ISOW (x : (List (Int × Str × (Option W)))) : (e_LT3ISOW x).pure = true := puF (puM pu_T3ISOW x)
theorem fz_MT3ISOW (x : (List (Int × Str × (Option W)))) : (e_MT3ISOW x).fz = e_LT3ISOW x := fzO (puM pu_T3ISOW x)
abbrev e_T2IQW : (Int × (List W)) → D := fun x => .tup [D.int x.1, e_QW x.2]
theorem pu_T2IQW (x : (Int × (List W))) : (e_T2IQW x).pure = true := puT (puc rfl (puc (pu_QW x.2) (pun)))
abbrev e_MT2IQW : (List (Int × (List W))) → D := eL true e_T2IQW
theorem np_MT2IQW (x : (List (Int × (List W)))) : (e_MT2IQW x).pure = false := npO
abbrev e_LT2IQW : (List (Int × (List W))) → D := eL false e_T2IQW
theorem pu_LT2IQW (x : (List (Int × (List W)))) : (e_LT2IQW x).pure = true := puF (puM pu_T2IQW x)
theorem fz_MT2IQW (x : (List (Int × (List W)))) : (e_MT2IQW x).fz = e_LT2IQW x := fzO (puM pu_T2IQW x)
abbrev e_QT3ISOW : (List (Int × Str × (Option W))) → D := eQ e_T3ISOW
theorem pu_QT3ISOW (x : (List (Int × Str × (Option W)))) : (e_QT3ISOW x).pure = true := puT (puM pu_T3ISOW x)
abbrev e_QT2IQW : (List (Int × (List W))) → D := eQ e_T2IQW
theorem pu_QT2IQW (x : (List (Int × (List W)))) : (e_QT2IQW x).pure = true := puT (puM pu_T2IQW x)
abbrev e_T2QT3ISOWQT2IQW : ((List (Int × Str × (Option W))) × (List (Int × (List W)))) → D := fun x => .tup [e_QT3ISOW x.1, e_QT2IQW x.2]
theorem pu_T2QT3ISOWQT2IQW (x : ((List (Int × Str × (Option W))) × (List (Int × (List W))))) : (e_T2QT3ISOWQT2IQW x).pure = true := puT (puc (pu_QT3ISOW x.1) (puc (pu_QT2IQW x.2) (pun)))
abbrev e_T2IT2SOW : (Int × (Str × (Option W))) → D := fun x => .tup [D.int x.1, e_T2SOW x.2]
theorem pu_T2IT2SOW (x : (Int × (Str × (Option W)))) : (e_T2IT2SOW x).pure = true := puT (puc rfl (puc (pu_T2SOW x.2) (pun)))
theorem fa_OW : Fa 0 e_OW := Fa.opt Fa.W (by intro a h; first | (cases h; done) | (cases a <;> cases h))
theorem fa_T3ISOW : Fa 1 e_T3ISOW := (Fas.fa (Fas.cons Fa.int (Fas.cons Fa.str (Fas.one fa_OW)))).mono (by decide)
theorem fa_QT3ISOW : Fa 2 e_QT3ISOW := Fa.tup fa_T3ISOW
theorem fa_QW : Fa 1 e_QW := Fa.tup Fa.W
theorem fa_T2IQW : Fa 2 e_T2IQW := (Fas.fa (Fas.cons Fa.int (Fas.one fa_QW))).mono (by decide)
theorem fa_QT2IQW : Fa 3 e_QT2IQW := Fa.tup fa_T2IQW
theorem fa_T2QT3ISOWQT2IQW : Fa 4 e_T2QT3ISOWQT2IQW := (Fas.fa (Fas.cons fa_QT3ISOW (Fas.one fa_QT2IQW))).mono (by decide)
theorem fa_MS : Fa 1 e_MS := Fa.lst true Fa.str
abbrev e_QS : (List Str) → D := eQ D.str
theorem pu_QS (x : (List Str)) : (e_QS x).pure = true := puT (puM (fun _ => rfl) x)
abbrev e_MW : (List W) → D := eL true e_W
theorem np_MW (x : (List W)) : (e_MW x).pure = false := npO
abbrev e_LW : (List W) → D := eL false e_W
theorem pu_LW (x : (List W)) : (e_LW x).pure = true := puF (puM pu_W x)
theorem fz_MW (x : (List W)) : (e_MW x).fz = e_LW x := fzO (puM pu_W x)
theorem fa_QS : Fa 1 e_QS := Fa.tup Fa.str
noncomputable def t_law_row (script : (List Int)) (k : Int) : Option Int :=
  (if decide ((0 : Int) < (script.length : Int)) = true then
    (modO k (script.length : Int)).bind fun remn =>
    (atI script remn).bind fun cell1 =>
    some cell1
  else
    some (0 : Int)).bind fun cell =>
  (if decide (cell < (0 : Int)) = true then
    (some ((1 : Int) - ((2 : Int) * cell))).bind fun cell3 =>
    some cell3
  else
    some cell).bind fun cell2 =>
  if ((decide ((1000000000 : Int) ≤ cell2)) && (decide (k < (script.length : Int)))) = true then
    some cell2
  else
    (some ((((cell2 * (48271 : Int)) + ((k + (1 : Int)) * (69621 : Int))) + (script.length : Int)) % (2147483647 : Int))).bind fun first =>
    (mulO first first).bind fun prod =>
    (some (((prod + (cell2 * (16807 : Int))) + k) % (2147483629 : Int))).bind fun second =>
    some ((second * (2147483647 : Int)) + ((first * (40692 : Int)) % (2147483399 : Int)))
abbrev q_law_row (script : (List Int)) (k : Int) (h : List Ob) : Int → Fl → Mem → Prop := fun r => FP (D.int r) [0, 1] [e_LI script, D.int k] [e_LI script, D.int k] h
theorem y_law_row (script : (List Int)) (k : Int) (h : List Ob) (r : Int) (hr : t_law_row script k = some r) : m_law_row [e_LI script, D.int k] h = .ok (D.int r, [e_LI script, D.int k], h) := by
  unfold t_law_row at hr
  unfold m_law_row
  refine run_def rfl rfl (fun m hm => ?_)
  show Run _ m (q_law_row script k h r)
  replace hm : Sx [some (e_LI script), some (D.int k), some D.und, some D.und, some D.und] h m := hm
  refine run_asg hm (YM.pp YT.c rfl) (YG.name (i := 2) (d := D.int (0 : Int)) rfl) (fun m hm => ?_)
  replace hm : Sx [some (e_LI script), some (D.int k), some (D.int (0 : Int)), some D.und, some D.und] h m := hm
  obtain ⟨cell, h_cell, hr⟩ := bnd hr
  refine run_ifj (p1 := [some (e_LI script), some (D.int k), some (D.int cell), some D.und, some D.und]) (h1 := h) hm (YB.bb (YM.opQ (YT.cb (YL.cons (YT.var rfl rfl) YL.nil) len_L rfl) YT.c rfl)) (fun hc m hm => ?_) (fun hc m hm => ?_) (fun m hm => ?_)
  · clear hr
    have hr := h_cell
    clear h_cell
    rw [if_pos hc] at hr
    replace hm : Sx [some (e_LI script), some (D.int k), some (D.int (0 : Int)), some D.und, some D.und] h m := hm
    obtain ⟨remn, h_remn, hr⟩ := bnd hr
    obtain ⟨cell1, h_cell1, hr⟩ := bnd hr
    refine run_asg hm (YM.pp (YT.ix (YT.var rfl rfl) (YT.op2 (YT.cb (YL.cons (YT.var rfl rfl) YL.nil) rfl rfl) (YT.cb (YL.cons (YT.var rfl rfl) YL.nil) len_L rfl) (mod_O h_remn) rfl) (ix_L h_cell1)) rfl) (YG.name (i := 2) (d := D.int cell1) rfl) (fun m hm => ?_)
    replace hm : Sx [some (e_LI script), some (D.int k), some (D.int cell1), some D.und, some D.und] h m := hm
    obtain rfl := Option.some.inj hr
    exact run_end ⟨rfl, hm.wk (.keep (.keep (.keep (.keep (.keep Wk.nil)))))⟩
  · clear hr
    have hr := h_cell
    clear h_cell
    rw [if_neg (ne_t hc)] at hr
    replace hm : Sx [some (e_LI script), some (D.int k), some (D.int (0 : Int)), some D.und, some D.und] h m := hm
    refine run_pass ?_
    obtain rfl := Option.some.inj hr
    exact run_end ⟨rfl, hm.wk (.keep (.keep (.keep (.keep (.keep Wk.nil)))))⟩
  obtain ⟨cell2, h_cell2, hr⟩ := bnd hr
  refine run_ifj (p1 := [some (e_LI script), some (D.int k), some (D.int cell2), some D.und, some D.und]) (h1 := h) hm (YB.bb (YM.opQ (YT.var rfl rfl) YT.c rfl)) (fun hc m hm => ?_) (fun hc m hm => ?_) (fun m hm => ?_)
  · clear hr
    have hr := h_cell2
    clear h_cell2
    rw [if_pos hc] at hr
    replace hm : Sx [some (e_LI script), some (D.int k), some (D.int cell), some D.und, some D.und] h m := hm
    obtain ⟨cell3, h_cell3, hr⟩ := bnd hr
    refine run_asg hm (YM.cast (YM.opQ YT.c (YT.op2 YT.c (YT.var rfl rfl) (mul_l (by decide)) rfl) rfl) (congrArg D.int (Option.some.inj h_cell3))) (YG.name (i := 2) (d := D.int cell3) rfl) (fun m hm => ?_)
    replace hm : Sx [some (e_LI script), some (D.int k), some (D.int cell3), some D.und, some D.und] h m := hm
    obtain rfl := Option.some.inj hr
    exact run_end ⟨rfl, hm.wk (.keep (.keep (.keep (.keep (.keep Wk.nil)))))⟩
  · clear hr
    have hr := h_cell2
    clear h_cell2
    rw [if_neg (ne_t hc)] at hr
    replace hm : Sx [some (e_LI script), some (D.int k), some (D.int cell), some D.und, some D.und] h m := hm
    refine run_pass ?_
    obtain rfl := Option.some.inj hr
    exact run_end ⟨rfl, hm.wk (.keep (.keep (.keep (.keep (.keep Wk.nil)))))⟩
  refine run_if hm (YB.andT (YB.bb (YM.opQ (YT.var rfl rfl) (YT.op2 YT.c YT.c (pow_k (j := 9) 1000000000 (by decide) (by decide)) rfl) rfl)) (YB.bb (YM.opQ (YT.var rfl rfl) (YT.cb (YL.cons (YT.var rfl rfl) YL.nil) len_L rfl) rfl))) (fun hc m hm => ?_) (fun hc m hm => ?_)
  · rw [if_pos hc] at hr
    replace hm : Sx [some (e_LI script), some (D.int k), some (D.int cell2), some D.und, some D.und] h m := hm
    obtain rfl := Option.some.inj hr
    exact run_rt hm (YM.mv rfl rfl) (fun m hm => ⟨rfl, (Out.pin rfl rfl (Out.pin rfl rfl (Out.nil))).eq hm.e, hm.h⟩)
  · rw [if_neg (ne_t hc)] at hr
    replace hm : Sx [some (e_LI script), some (D.int k), some (D.int cell2), some D.und, some D.und] h m := hm
    refine run_pass ?_
    obtain ⟨first, h_first, hr⟩ := bnd hr
    refine run_asg hm (YM.cast (YM.opQ (YT.cb (YL.cons (YT.op2 (YT.op2 (YT.op2 (YT.var rfl rfl) YT.c (mul_r (by decide)) rfl) (YT.op2 (YT.op2 (YT.var rfl rfl) YT.c rfl rfl) YT.c (mul_r (by decide)) rfl) rfl rfl) (YT.cb (YL.cons (YT.var rfl rfl) YL.nil) len_L rfl) rfl rfl) YL.nil) rfl rfl) YT.c (mod_k (by decide))) (congrArg D.int (Option.some.inj h_first))) (YG.name (i := 3) (d := D.int first) rfl) (fun m hm => ?_)
    replace hm : Sx [some (e_LI script), some (D.int k), some (D.int cell2), some (D.int first), some D.und] h m := hm
    obtain ⟨prod, h_prod, hr⟩ := bnd hr
    obtain ⟨second, h_second, hr⟩ := bnd hr
    refine run_asg hm (YM.cast (YM.opQ (YT.cb (YL.cons (YT.op2 (YT.op2 (YT.op2 (YT.var rfl rfl) (YT.var rfl rfl) (mul_O h_prod) rfl) (YT.op2 (YT.var rfl rfl) YT.c (mul_r (by decide)) rfl) rfl rfl) (YT.var rfl rfl) rfl rfl) YL.nil) rfl rfl) YT.c (mod_k (by decide))) (congrArg D.int (Option.some.inj h_second))) (YG.name (i := 4) (d := D.int second) rfl) (fun m hm => ?_)
    replace hm : Sx [some (e_LI script), some (D.int k), some (D.int cell2), some (D.int first), some (D.int second)] h m := hm
    refine run_last ?_
    obtain rfl := Option.some.inj hr
    exact run_rt hm (YM.opQ (YT.op2 (YT.var rfl rfl) YT.c (mul_r (by decide)) rfl) (YT.op2 (YT.cb (YL.cons (YT.op2 (YT.var rfl rfl) YT.c (mul_r (by decide)) rfl) YL.nil) rfl rfl) YT.c (mod_k (by decide)) rfl) rfl) (fun m hm => ⟨rfl, (Out.pin rfl rfl (Out.pin rfl rfl (Out.nil))).eq hm.e, hm.h⟩)

noncomputable def t_law_key_l1 (signs : Str) (s : (Int × Str)) (k : Int) : Option (Int × Str) :=
  (atS signs (s.1 % (36 : Int))).bind fun ch =>
  (catSO s.2 ch).bind fun key1 =>
  (some ((s.1 / (36 : Int)) + ((7 : Int) * k))).bind fun restx1 =>
  some (restx1, key1)
noncomputable def t_law_key (row : Int) (most : Int) : Option Str :=
  (some ("abcdefghijklmnopqrstuvwxyz0123456789" : Str)).bind fun signs =>
  (modO row most).bind fun remn =>
  (some ((1 : Int) + remn)).bind fun count =>
  (some (row / (8 : Int))).bind fun restx =>
  (some ("" : Str)).bind fun key =>
  (gd ((-4611686018427387904 ≤ count ∧ count < 4611686018427387904)) (some (rangeI 0 count))).bind fun rg =>
  (forS (t_law_key_l1 signs) rg (restx, key)).bind fun s1 =>
  some s1.2
abbrev q_law_key (row : Int) (most : Int) (h : List Ob) : Str → Fl → Mem → Prop := fun r => FP (D.str r) [0, 1] [D.int row, D.int most] [D.int row, D.int most] h
theorem y_law_key (row : Int) (most : Int) (h : List Ob) (r : Str) (hr : t_law_key row most = some r) : m_law_key [D.int row, D.int most] h = .ok (D.str r, [D.int row, D.int most], h) := by
  unfold t_law_key at hr
  unfold m_law_key
  refine run_def rfl rfl (fun m hm => ?_)
  show Run _ m (q_law_key row most h r)
  replace hm : Sx [some (D.int row), some (D.int most), some D.und, some D.und, some D.und, some D.und, some D.und] h m := hm
  obtain ⟨signs, h_signs, hr⟩ := bnd hr
  refine run_asg hm (YM.cast (YM.pp YT.c rfl) (congrArg D.str (Option.some.inj h_signs))) (YG.name (i := 2) (d := D.str signs) rfl) (fun m hm => ?_)
  replace hm : Sx [some (D.int row), some (D.int most), some (D.str signs), some D.und, some D.und, some D.und, some D.und] h m := hm
  obtain ⟨remn, h_remn, hr⟩ := bnd hr
  obtain ⟨count, h_count, hr⟩ := bnd hr
  refine run_asg hm (YM.cast (YM.opQ YT.c (YT.op2 (YT.cb (YL.cons (YT.var rfl rfl) YL.nil) rfl rfl) (YT.var rfl rfl) (mod_O h_remn) rfl) rfl) (congrArg D.int (Option.some.inj h_count))) (YG.name (i := 3) (d := D.int count) rfl) (fun m hm => ?_)
  replace hm : Sx [some (D.int row), some (D.int most), some (D.str signs), some (D.int count), some D.und, some D.und, some D.und] h m := hm
  obtain ⟨restx, h_restx, hr⟩ := bnd hr
  refine run_asg hm (YM.cast (YM.opQ (YT.cb (YL.cons (YT.var rfl rfl) YL.nil) rfl rfl) YT.c (fdiv_k (by decide))) (congrArg D.int (Option.some.inj h_restx))) (YG.name (i := 4) (d := D.int restx) rfl) (fun m hm => ?_)
  replace hm : Sx [some (D.int row), some (D.int most), some (D.str signs), some (D.int count), some (D.int restx), some D.und, some D.und] h m := hm
  obtain ⟨key, h_key, hr⟩ := bnd hr
  refine run_asg hm (YM.cast (YM.pp YT.c rfl) (congrArg D.str (Option.some.inj h_key))) (YG.name (i := 5) (d := D.str key) rfl) (fun m hm => ?_)
  replace hm : Sx [some (D.int row), some (D.int most), some (D.str signs), some (D.int count), some (D.int restx), some (D.str key), some D.und] h m := hm
  obtain ⟨rg, h_rg, hr⟩ := bnd hr
  obtain ⟨s1, h_s1, hr⟩ := bnd hr
  refine run_for (p2 := [some (D.int row), some (D.int most), some (D.str signs), some (D.int count), some (D.int s1.1), some (D.str s1.2), none]) (h2 := h) hm (YI.cast (YI.r1 (YA.n rfl rfl YA.nil) (.nam rfl rfl Ct.nil) (gd_some h_rg).1) (congrArg (List.map D.int) (Option.some.inj (gd_some h_rg).2))) (fun m hm => run_forS (P := fun (s : (Int × Str)) => [some (D.int row), some (D.int most), some (D.str signs), some (D.int count), some (D.int s.1), some (D.str s.2), none]) (H := fun (s : (Int × Str)) => h) (enc := D.int) (fun _ _ _ => trivial) ?_ rg (restx, key) s1 h_s1 m (hm.wk (.keep (.keep (.keep (.keep (.keep (.keep (.drop Wk.nil))))))))) (fun m hm => ?_)
  · intro s k rr hr m hm
    unfold t_law_key_l1 at hr
    refine st_tg (YG.name (i := 6) (d := D.int k) rfl) hm (fun m hm => ?_)
    replace hm : Sx [some (D.int row), some (D.int most), some (D.str signs), some (D.int count), some (D.int s.1), some (D.str s.2), some (D.int k)] h m := hm
    obtain ⟨ch, h_ch, hr⟩ := bnd hr
    obtain ⟨key1, h_key1, hr⟩ := bnd hr
    refine run_asg hm (YM.opQ (YT.var rfl rfl) (YT.ix (YT.var rfl rfl) (YT.op2 (YT.cb (YL.cons (YT.var rfl rfl) YL.nil) rfl rfl) YT.c (mod_k (by decide)) rfl) (ix_S h_ch)) (cat_S h_key1)) (YG.name (i := 5) (d := D.str key1) rfl) (fun m hm => ?_)
    replace hm : Sx [some (D.int row), some (D.int most), some (D.str signs), some (D.int count), some (D.int s.1), some (D.str key1), some (D.int k)] h m := hm
    refine run_last ?_
    obtain ⟨restx1, h_restx1, hr⟩ := bnd hr
    refine run_asg hm (YM.cast (YM.opQ (YT.op2 (YT.var rfl rfl) YT.c (fdiv_k (by decide)) rfl) (YT.op2 YT.c (YT.var rfl rfl) (mul_l (by decide)) rfl) rfl) (congrArg D.int (Option.some.inj h_restx1))) (YG.name (i := 4) (d := D.int restx1) rfl) (fun m hm => ?_)
    replace hm : Sx [some (D.int row), some (D.int most), some (D.str signs), some (D.int count), some (D.int restx1), some (D.str key1), some (D.int k)] h m := hm
    obtain rfl := Option.some.inj hr
    exact run_end ⟨.inl rfl, hm.wk (.keep (.keep (.keep (.keep (.keep (.keep (.drop Wk.nil)))))))⟩
  refine run_last ?_
  obtain rfl := Option.some.inj hr
  exact run_rt hm (YM.mv rfl rfl) (fun m hm => ⟨rfl, (Out.pin rfl rfl (Out.pin rfl rfl (Out.nil))).eq hm.e, hm.h⟩)

noncomputable def t_law_keys_l1 (script : (List Int)) (atx : Int) (s : (List Str)) (k : Int) : Option (List Str) :=
  (t_law_row script ((atx + (1 : Int)) + k)).bind fun o_row1 =>
  (t_law_key o_row1 (8 : Int)).bind fun key =>
  (if decide ((k % (3 : Int)) = (2 : Int)) = true then
    (atI s (0 : Int)).bind fun it =>
    (catSO it key).bind fun cat =>
    (cutSO cat none (some (8 : Int))).bind fun key2 =>
    some key2
  else
    some key).bind fun key1 =>
  (if (!memB key1 s) = true then
    (appO s key1).bind fun keys2 =>
    some keys2
  else
    some s).bind fun keys1 =>
  some keys1
noncomputable def t_law_keys (script : (List Int)) (atx : Int) (most : Int) : Option (List Str) :=
  (some ([] : (List Str))).bind fun keys =>
  (t_law_row script atx).bind fun o_row =>
  (modO o_row most).bind fun remn =>
  (some ((1 : Int) + remn)).bind fun count =>
  (gd ((-4611686018427387904 ≤ count ∧ count < 4611686018427387904)) (some (rangeI 0 count))).bind fun rg =>
  (forS (t_law_keys_l1 script atx) rg keys).bind fun keys3 =>
  some keys3
abbrev q_law_keys (script : (List Int)) (atx : Int) (most : Int) (h : List Ob) : (List Str) → Fl → Mem → Prop := fun r => FP (e_MS r) [0, 1, 2] [e_LI script, D.int atx, D.int most] [e_LI script, D.int atx, D.int most] h
theorem y_law_keys (script : (List Int)) (atx : Int) (most : Int) (h : List Ob) (r : (List Str)) (hr : t_law_keys script atx most = some r) : m_law_keys [e_LI script, D.int atx, D.int most] h = .ok (e_MS r, [e_LI script, D.int atx, D.int most], h) := by
  unfold t_law_keys at hr
  unfold m_law_keys
  refine run_def rfl rfl (fun m hm => ?_)
  show Run _ m (q_law_keys script atx most h r)
  replace hm : Sx [some (e_LI script), some (D.int atx), some (D.int most), some D.und, some D.und, some D.und, some D.und] h m := hm
  obtain ⟨keys, h_keys, hr⟩ := bnd hr
  refine run_asg hm (YM.cast (YM.lst YA.nil rfl (by decide)) (congrArg e_MS (Option.some.inj h_keys))) (YG.name (i := 3) (d := e_MS keys) rfl) (fun m hm => ?_)
  replace hm : Sx [some (e_LI script), some (D.int atx), some (D.int most), some (e_MS keys), some D.und, some D.und, some D.und] h m := hm
  obtain ⟨o_row, h_o_row, hr⟩ := bnd hr
  obtain ⟨remn, h_remn, hr⟩ := bnd hr
  obtain ⟨count, h_count, hr⟩ := bnd hr
  refine run_asg hm (YM.cast (YM.op2 (YM.pp YT.c rfl) (YM.op2 (YM.cb (YA.v (YM.call (YA.n rfl rfl (YA.n rfl rfl YA.nil)) (.namP rfl rfl (pu_LI script) (.namP rfl rfl rfl Gr.nil)) (y_law_row script atx _ _ h_o_row) rfl) YA.nil) (.val Ct.nil) rfl) (YM.qb (YT.var rfl rfl)) (mod_O h_remn)) rfl) (congrArg D.int (Option.some.inj h_count))) (YG.name (i := 4) (d := D.int count) rfl) (fun m hm => ?_)
  replace hm : Sx [some (e_LI script), some (D.int atx), some (D.int most), some (e_MS keys), some (D.int count), some D.und, some D.und] h m := hm
  obtain ⟨rg, h_rg, hr⟩ := bnd hr
  obtain ⟨keys3, h_keys3, hr⟩ := bnd hr
  refine run_for (p2 := [some (e_LI script), some (D.int atx), some (D.int most), some (e_MS keys3), some (D.int count), none, none]) (h2 := h) hm (YI.cast (YI.r1 (YA.n rfl rfl YA.nil) (.nam rfl rfl Ct.nil) (gd_some h_rg).1) (congrArg (List.map D.int) (Option.some.inj (gd_some h_rg).2))) (fun m hm => run_forS (P := fun (s : (List Str)) => [some (e_LI script), some (D.int atx), some (D.int most), some (e_MS s), some (D.int count), none, none]) (H := fun (s : (List Str)) => h) (enc := D.int) (fun _ _ _ => trivial) ?_ rg keys keys3 h_keys3 m (hm.wk (.keep (.keep (.keep (.keep (.keep (.drop (.drop Wk.nil))))))))) (fun m hm => ?_)
  · intro s k rr hr m hm
    unfold t_law_keys_l1 at hr
    refine st_tg (YG.name (i := 5) (d := D.int k) rfl) hm (fun m hm => ?_)
    replace hm : Sx [some (e_LI script), some (D.int atx), some (D.int most), some (e_MS s), some (D.int count), some (D.int k), none] h m := hm
    obtain ⟨o_row1, h_o_row1, hr⟩ := bnd hr
    obtain ⟨key, h_key, hr⟩ := bnd hr
    refine run_asg hm (YM.call (YA.v (YM.call (YA.n rfl rfl (YA.qq (YL.cons (YT.op2 (YT.op2 (YT.var rfl rfl) YT.c rfl rfl) (YT.var rfl rfl) rfl rfl) YL.nil))) (.namP rfl rfl (pu_LI script) (.bor rfl Gr.nil)) (y_law_row script ((atx + (1 : Int)) + k) _ _ h_o_row1) rfl) (YA.qq (YL.cons YT.c YL.nil))) (.val (.bor rfl Gr.nil)) (y_law_key o_row1 (8 : Int) _ _ h_key) rfl) (YG.name (i := 6) (d := D.str key) rfl) (fun m hm => ?_)
    replace hm : Sx [some (e_LI script), some (D.int atx), some (D.int most), some (e_MS s), some (D.int count), some (D.int k), some (D.str key)] h m := hm
    obtain ⟨key1, h_key1, hr⟩ := bnd hr
    refine run_ifj (p1 := [some (e_LI script), some (D.int atx), some (D.int most), some (e_MS s), some (D.int count), some (D.int k), some (D.str key1)]) (h1 := h) hm (YB.bb (YM.opQ (YT.op2 (YT.var rfl rfl) YT.c (mod_k (by decide)) rfl) YT.c (eq_fa Fa.int (by decide) (k % (3 : Int)) (2 : Int)))) (fun hc m hm => ?_) (fun hc m hm => ?_) (fun m hm => ?_)
    · clear hr
      have hr := h_key1
      clear h_key1
      rw [if_pos hc] at hr
      replace hm : Sx [some (e_LI script), some (D.int atx), some (D.int most), some (e_MS s), some (D.int count), some (D.int k), some (D.str key)] h m := hm
      obtain ⟨it, h_it, hr⟩ := bnd hr
      obtain ⟨cat, h_cat, hr⟩ := bnd hr
      obtain ⟨key2, h_key2, hr⟩ := bnd hr
      refine run_asg hm (YM.sl (YM.qb (YT.op2 (YT.ix (YT.var rfl rfl) YT.c (ix_L h_it)) (YT.var rfl rfl) (cat_S h_cat) rfl)) YO.none (YO.some YT.c) (sl_S h_key2)) (YG.name (i := 6) (d := D.str key2) rfl) (fun m hm => ?_)
      replace hm : Sx [some (e_LI script), some (D.int atx), some (D.int most), some (e_MS s), some (D.int count), some (D.int k), some (D.str key2)] h m := hm
      obtain rfl := Option.some.inj hr
      exact run_end ⟨rfl, hm.wk (.keep (.keep (.keep (.keep (.keep (.keep (.keep Wk.nil)))))))⟩
    · clear hr
      have hr := h_key1
      clear h_key1
      rw [if_neg (ne_t hc)] at hr
      replace hm : Sx [some (e_LI script), some (D.int atx), some (D.int most), some (e_MS s), some (D.int count), some (D.int k), some (D.str key)] h m := hm
      refine run_pass ?_
      obtain rfl := Option.some.inj hr
      exact run_end ⟨rfl, hm.wk (.keep (.keep (.keep (.keep (.keep (.keep (.keep Wk.nil)))))))⟩
    refine run_last ?_
    obtain ⟨keys1, h_keys1, hr⟩ := bnd hr
    refine run_ifj (p1 := [some (e_LI script), some (D.int atx), some (D.int most), some (e_MS keys1), some (D.int count), some (D.int k), some (D.str key1)]) (h1 := h) hm (YB.bb (YM.opQ (YT.var rfl rfl) (YT.var rfl rfl) (notin_faL Fa.str (by decide) key1 s))) (fun hc m hm => ?_) (fun hc m hm => ?_) (fun m hm => ?_)
    · clear hr
      have hr := h_keys1
      clear h_keys1
      rw [if_pos hc] at hr
      replace hm : Sx [some (e_LI script), some (D.int atx), some (D.int most), some (e_MS s), some (D.int count), some (D.int k), some (D.str key1)] h m := hm
      obtain ⟨keys2, h_keys2, hr⟩ := bnd hr
      refine run_ex hm (YM.appL (e := D.str) (xs := s) (a := key1) rfl rfl (YM.varP rfl rfl rfl) rfl h_keys2) (fun m hm => ?_)
      replace hm : Sx [some (e_LI script), some (D.int atx), some (D.int most), some (e_MS keys2), some (D.int count), some (D.int k), some (D.str key1)] h m := hm
      obtain rfl := Option.some.inj hr
      exact run_end ⟨rfl, hm.wk (.keep (.keep (.keep (.keep (.keep (.keep (.keep Wk.nil)))))))⟩
    · clear hr
      have hr := h_keys1
      clear h_keys1
      rw [if_neg (ne_t hc)] at hr
      replace hm : Sx [some (e_LI script), some (D.int atx), some (D.int most), some (e_MS s), some (D.int count), some (D.int k), some (D.str key1)] h m := hm
      refine run_pass ?_
      obtain rfl := Option.some.inj hr
      exact run_end ⟨rfl, hm.wk (.keep (.keep (.keep (.keep (.keep (.keep (.keep Wk.nil)))))))⟩
    obtain rfl := Option.some.inj hr
    exact run_end ⟨.inl rfl, hm.wk (.keep (.keep (.keep (.keep (.keep (.drop (.drop Wk.nil)))))))⟩
  refine run_last ?_
  obtain rfl := Option.some.inj hr
  exact run_rt hm (YM.mv rfl rfl) (fun m hm => ⟨rfl, (Out.pin rfl rfl (Out.pin rfl rfl (Out.pin rfl rfl (Out.nil)))).eq hm.e, hm.h⟩)

noncomputable def t_law_digits_l1 (s : (Int × (List Int))) (size : Int) : Option (Int × (List Int)) :=
  (modO s.1 size).bind fun remn =>
  (appO s.2 remn).bind fun digits =>
  (fdivO s.1 size).bind fun row1 =>
  some (row1, digits)
noncomputable def t_law_digits (row : Int) (sizes : (List Int)) : Option (List Int) :=
  (forS t_law_digits_l1 sizes (row, ([] : (List Int)))).bind fun s1 =>
  some s1.2
abbrev q_law_digits (row : Int) (sizes : (List Int)) (h : List Ob) : (List Int) → Fl → Mem → Prop := fun r => FP (e_MI r) [1] [D.int row, e_MI sizes] [D.int row, e_MI sizes] h
theorem y_law_digits (row : Int) (sizes : (List Int)) (h : List Ob) (r : (List Int)) (hr : t_law_digits row sizes = some r) : m_law_digits [D.int row, e_MI sizes] h = .ok (e_MI r, [D.int row, e_MI sizes], h) := by
  unfold t_law_digits at hr
  unfold m_law_digits
  refine run_def rfl rfl (fun m hm => ?_)
  show Run _ m (q_law_digits row sizes h r)
  replace hm : Sx [some (D.int row), some (e_MI sizes), some D.und, some D.und] h m := hm
  refine run_asg hm (YM.lst YA.nil rfl (by decide)) (YG.name (i := 2) (d := D.lst true []) rfl) (fun m hm => ?_)
  replace hm : Sx [some (D.int row), some (e_MI sizes), some (D.lst true []), some D.und] h m := hm
  obtain ⟨s1, h_s1, hr⟩ := bnd hr
  refine run_for (p2 := [some (D.int s1.1), some (e_MI sizes), some (e_MI s1.2), none]) (h2 := h) hm (YI.nL rfl (puM (fun _ => rfl) _)) (fun m hm => run_forS (P := fun (s : (Int × (List Int))) => [some (D.int s.1), some (e_MI sizes), some (e_MI s.2), none]) (H := fun (s : (Int × (List Int))) => h) (enc := D.int) (fun s m hm => ((fun m hm => hm.e.get rfl) : ∀ m, Sx [some (D.int s.1), some (e_MI sizes), some (e_MI s.2), none] h m → _) m hm) ?_ sizes (row, ([] : (List Int))) s1 h_s1 m (hm.wk (.keep (.keep (.cast (rfl) (.drop Wk.nil)))))) (fun m hm => ?_)
  · intro s size rr hr m hm
    unfold t_law_digits_l1 at hr
    refine st_tg (YG.name (i := 3) (d := D.int size) rfl) hm (fun m hm => ?_)
    replace hm : Sx [some (D.int s.1), some (e_MI sizes), some (e_MI s.2), some (D.int size)] h m := hm
    obtain ⟨remn, h_remn, hr⟩ := bnd hr
    obtain ⟨digits, h_digits, hr⟩ := bnd hr
    refine run_ex hm (YM.appL (e := D.int) (xs := s.2) (a := remn) rfl rfl (YM.opQ (YT.cb (YL.cons (YT.var rfl rfl) YL.nil) rfl rfl) (YT.var rfl rfl) (mod_O h_remn)) rfl h_digits) (fun m hm => ?_)
    replace hm : Sx [some (D.int s.1), some (e_MI sizes), some (e_MI digits), some (D.int size)] h m := hm
    refine run_last ?_
    obtain ⟨row1, h_row1, hr⟩ := bnd hr
    refine run_asg hm (YM.opQ (YT.var rfl rfl) (YT.var rfl rfl) (fdiv_O h_row1)) (YG.name (i := 0) (d := D.int row1) rfl) (fun m hm => ?_)
    replace hm : Sx [some (D.int row1), some (e_MI sizes), some (e_MI digits), some (D.int size)] h m := hm
    obtain rfl := Option.some.inj hr
    exact run_end ⟨.inl rfl, hm.wk (.keep (.keep (.keep (.drop Wk.nil))))⟩
  refine run_last ?_
  obtain rfl := Option.some.inj hr
  exact run_rt hm (YM.mv rfl rfl) (fun m hm => ⟨rfl, (Out.keep rfl rfl (Out.pin rfl rfl (Out.nil))).eq hm.e, hm.h⟩)

noncomputable def t_law_sign (number : Int) : Option Str :=
  (some (" !\"#$&'()*+,-./0123456789:;<=>?@ABCDEFGHIJKLMNOPQRSTUVWXYZ[\\]^_`abcdefghijklmnopqrstuvwxyz{|}~" : Str)).bind fun signs =>
  (atS signs (number % (94 : Int))).bind fun ch =>
  some ch
abbrev q_law_sign (number : Int) (h : List Ob) : Str → Fl → Mem → Prop := fun r => FP (D.str r) [0] [D.int number] [D.int number] h
theorem y_law_sign (number : Int) (h : List Ob) (r : Str) (hr : t_law_sign number = some r) : m_law_sign [D.int number] h = .ok (D.str r, [D.int number], h) := by
  unfold t_law_sign at hr
  unfold m_law_sign
  refine run_def rfl rfl (fun m hm => ?_)
  show Run _ m (q_law_sign number h r)
  replace hm : Sx [some (D.int number), some D.und] h m := hm
  obtain ⟨signs, h_signs, hr⟩ := bnd hr
  refine run_asg hm (YM.cast (YM.pp YT.c rfl) (congrArg D.str (Option.some.inj h_signs))) (YG.name (i := 1) (d := D.str signs) rfl) (fun m hm => ?_)
  replace hm : Sx [some (D.int number), some (D.str signs)] h m := hm
  refine run_last ?_
  obtain ⟨ch, h_ch, hr⟩ := bnd hr
  obtain rfl := Option.some.inj hr
  exact run_rt hm (YM.pp (YT.ix (YT.var rfl rfl) (YT.op2 (YT.cb (YL.cons (YT.var rfl rfl) YL.nil) rfl rfl) YT.c (mod_k (by decide)) rfl) (ix_S h_ch)) rfl) (fun m hm => ⟨rfl, (Out.pin rfl rfl (Out.nil)).eq hm.e, hm.h⟩)

noncomputable def t_law_text_l1 (s : (Str × Int)) (k : Int) : Option (Str × Int) :=
  (t_law_sign (s.2 / (7 : Int))).bind fun o_sign =>
  (catSO s.1 o_sign).bind fun text1 =>
  (some (((s.2 / (94 : Int)) + ((s.2 % (94 : Int)) * (2147483647 : Int))) + k)).bind fun restx =>
  some (text1, restx)
noncomputable def t_law_text (row : Int) (count : Int) : Option Str :=
  (some ("" : Str)).bind fun text =>
  (gd ((-4611686018427387904 ≤ count ∧ count < 4611686018427387904)) (some (rangeI 0 count))).bind fun rg =>
  (forS t_law_text_l1 rg (text, row)).bind fun s1 =>
  some s1.1
abbrev q_law_text (row : Int) (count : Int) (h : List Ob) : Str → Fl → Mem → Prop := fun r => FP (D.str r) [0, 1] [D.int row, D.int count] [D.int row, D.int count] h
theorem y_law_text (row : Int) (count : Int) (h : List Ob) (r : Str) (hr : t_law_text row count = some r) : m_law_text [D.int row, D.int count] h = .ok (D.str r, [D.int row, D.int count], h) := by
  unfold t_law_text at hr
  unfold m_law_text
  refine run_def rfl rfl (fun m hm => ?_)
  show Run _ m (q_law_text row count h r)
  replace hm : Sx [some (D.int row), some (D.int count), some D.und, some D.und, some D.und] h m := hm
  obtain ⟨text, h_text, hr⟩ := bnd hr
  refine run_asg hm (YM.cast (YM.pp YT.c rfl) (congrArg D.str (Option.some.inj h_text))) (YG.name (i := 2) (d := D.str text) rfl) (fun m hm => ?_)
  replace hm : Sx [some (D.int row), some (D.int count), some (D.str text), some D.und, some D.und] h m := hm
  refine run_asg hm (YM.pp (YT.cb (YL.cons (YT.var rfl rfl) YL.nil) rfl rfl) rfl) (YG.name (i := 3) (d := D.int row) rfl) (fun m hm => ?_)
  replace hm : Sx [some (D.int row), some (D.int count), some (D.str text), some (D.int row), some D.und] h m := hm
  obtain ⟨rg, h_rg, hr⟩ := bnd hr
  obtain ⟨s1, h_s1, hr⟩ := bnd hr
  refine run_for (p2 := [some (D.int row), some (D.int count), some (D.str s1.1), some (D.int s1.2), none]) (h2 := h) hm (YI.cast (YI.r1 (YA.n rfl rfl YA.nil) (.nam rfl rfl Ct.nil) (gd_some h_rg).1) (congrArg (List.map D.int) (Option.some.inj (gd_some h_rg).2))) (fun m hm => run_forS (P := fun (s : (Str × Int)) => [some (D.int row), some (D.int count), some (D.str s.1), some (D.int s.2), none]) (H := fun (s : (Str × Int)) => h) (enc := D.int) (fun _ _ _ => trivial) ?_ rg (text, row) s1 h_s1 m (hm.wk (.keep (.keep (.keep (.keep (.drop Wk.nil))))))) (fun m hm => ?_)
  · intro s k rr hr m hm
    unfold t_law_text_l1 at hr
    refine st_tg (YG.name (i := 4) (d := D.int k) rfl) hm (fun m hm => ?_)
    replace hm : Sx [some (D.int row), some (D.int count), some (D.str s.1), some (D.int s.2), some (D.int k)] h m := hm
    obtain ⟨o_sign, h_o_sign, hr⟩ := bnd hr
    obtain ⟨text1, h_text1, hr⟩ := bnd hr
    refine run_asg hm (YM.opN rfl rfl (YM.call (YA.qq (YL.cons (YT.op2 (YT.var rfl rfl) YT.c (fdiv_k (by decide)) rfl) YL.nil)) (.bor rfl Gr.nil) (y_law_sign (s.2 / (7 : Int)) _ _ h_o_sign) rfl) rfl rfl (cat_S h_text1)) (YG.name (i := 2) (d := D.str text1) rfl) (fun m hm => ?_)
    replace hm : Sx [some (D.int row), some (D.int count), some (D.str text1), some (D.int s.2), some (D.int k)] h m := hm
    refine run_last ?_
    obtain ⟨restx, h_restx, hr⟩ := bnd hr
    refine run_asg hm (YM.cast (YM.opQ (YT.op2 (YT.op2 (YT.var rfl rfl) YT.c (fdiv_k (by decide)) rfl) (YT.op2 (YT.op2 (YT.var rfl rfl) YT.c (mod_k (by decide)) rfl) YT.c (mul_r (by decide)) rfl) rfl rfl) (YT.var rfl rfl) rfl) (congrArg D.int (Option.some.inj h_restx))) (YG.name (i := 3) (d := D.int restx) rfl) (fun m hm => ?_)
    replace hm : Sx [some (D.int row), some (D.int count), some (D.str text1), some (D.int restx), some (D.int k)] h m := hm
    obtain rfl := Option.some.inj hr
    exact run_end ⟨.inl rfl, hm.wk (.keep (.keep (.keep (.keep (.drop Wk.nil)))))⟩
  refine run_last ?_
  obtain rfl := Option.some.inj hr
  exact run_rt hm (YM.mv rfl rfl) (fun m hm => ⟨rfl, (Out.pin rfl rfl (Out.pin rfl rfl (Out.nil))).eq hm.e, hm.h⟩)

noncomputable def t_law_value (row : Int) : Option W :=
  (t_law_digits row [(5 : Int), (2 : Int), (1000000000000000 : Int)]).bind fun o_digits =>
  (unp3 o_digits).bind fun unp =>
  if decide (unp.1 = (0 : Int)) = true then
    (t_law_text (unp.2.2 / (21 : Int)) (unp.2.2 % (21 : Int))).bind fun o_text =>
    some (W.str o_text)
  else
    (atI [(0 : Int), (unp.2.2 % (7 : Int)), (unp.2.2 % (2000 : Int)), unp.2.2, ((1000000000000000 : Int) - (unp.2.2 % (3 : Int)))] unp.1).bind fun number =>
    if decide (unp.2.1 = (1 : Int)) = true then
      some (W.int (-number))
    else
      some (W.int number)
abbrev q_law_value (row : Int) (h : List Ob) : W → Fl → Mem → Prop := fun r => FP (e_W r) [0] [D.int row] [D.int row] h
theorem y_law_value (row : Int) (h : List Ob) (r : W) (hr : t_law_value row = some r) : m_law_value [D.int row] h = .ok (e_W r, [D.int row], h) := by
  unfold t_law_value at hr
  unfold m_law_value
  refine run_def rfl rfl (fun m hm => ?_)
  show Run _ m (q_law_value row h r)
  replace hm : Sx [some (D.int row), some D.und, some D.und, some D.und, some D.und] h m := hm
  obtain ⟨o_digits, h_o_digits, hr⟩ := bnd hr
  obtain ⟨unp, h_unp, hr⟩ := bnd hr
  refine run_asg hm (YM.cast (YM.call (YA.v (YM.varP rfl rfl rfl) (YA.v (YM.cast (YM.lst (YA.v (YM.pp YT.c rfl) (YA.v (YM.pp YT.c rfl) (YA.v (YM.opQ YT.c YT.c (pow_k (j := 15) 1000000000000000 (by decide) (by decide))) YA.nil))) rfl (by simp)) (show _ = e_MI [(5 : Int), (2 : Int), (1000000000000000 : Int)] from by first | rfl | simp [e_V, Dat.toD, toDs])) YA.nil)) (.val (.val Gr.nil)) (y_law_digits row [(5 : Int), (2 : Int), (1000000000000000 : Int)] _ _ h_o_digits) rfl) (congrArg (D.lst true) (unp3_eq h_unp))) (YG.tlL rfl (puc rfl (puc rfl (puc rfl (pun)))) (YG.cons (YG.name (i := 1) (d := D.int unp.1) rfl) (YG.cons (YG.name (i := 2) (d := D.int unp.2.1) rfl) (YG.cons (YG.name (i := 3) (d := D.int unp.2.2) rfl) YG.nil)))) (fun m hm => ?_)
  replace hm : Sx [some (D.int row), some (D.int unp.1), some (D.int unp.2.1), some (D.int unp.2.2), some D.und] h m := hm
  refine run_if hm (YB.bb (YM.opQ (YT.var rfl rfl) YT.c (eq_fa Fa.int (by decide) unp.1 (0 : Int)))) (fun hc m hm => ?_) (fun hc m hm => ?_)
  · rw [if_pos hc] at hr
    replace hm : Sx [some (D.int row), some (D.int unp.1), some (D.int unp.2.1), some (D.int unp.2.2), some D.und] h m := hm
    obtain ⟨o_text, h_o_text, hr⟩ := bnd hr
    obtain rfl := Option.some.inj hr
    exact run_rt hm (YM.call (YA.qq (YL.cons (YT.op2 (YT.var rfl rfl) YT.c (fdiv_k (by decide)) rfl) (YL.cons (YT.op2 (YT.var rfl rfl) YT.c (mod_k (by decide)) rfl) YL.nil))) (.bor rfl (.bor rfl Gr.nil)) (y_law_text (unp.2.2 / (21 : Int)) (unp.2.2 % (21 : Int)) _ _ h_o_text) rfl) (fun m hm => ⟨rfl, (Out.pin rfl rfl (Out.nil)).eq hm.e, hm.h⟩)
  · rw [if_neg (ne_t hc)] at hr
    replace hm : Sx [some (D.int row), some (D.int unp.1), some (D.int unp.2.1), some (D.int unp.2.2), some D.und] h m := hm
    refine run_pass ?_
    obtain ⟨number, h_number, hr⟩ := bnd hr
    refine run_asg hm (YM.ix (YM.cast (YM.lst (YA.v (YM.pp YT.c rfl) (YA.v (YM.opQ (YT.var rfl rfl) YT.c (mod_k (by decide))) (YA.v (YM.opQ (YT.var rfl rfl) YT.c (mod_k (by decide))) (YA.v (YM.varP rfl rfl rfl) (YA.v (YM.opQ (YT.op2 YT.c YT.c (pow_k (j := 15) 1000000000000000 (by decide) (by decide)) rfl) (YT.op2 (YT.var rfl rfl) YT.c (mod_k (by decide)) rfl) rfl) YA.nil))))) rfl (by simp)) (show _ = e_MI [(0 : Int), (unp.2.2 % (7 : Int)), (unp.2.2 % (2000 : Int)), unp.2.2, ((1000000000000000 : Int) - (unp.2.2 % (3 : Int)))] from by first | rfl | simp [e_V, Dat.toD, toDs])) (YM.qb (YT.var rfl rfl)) (ix_L h_number) rfl) (YG.name (i := 4) (d := D.int number) rfl) (fun m hm => ?_)
    replace hm : Sx [some (D.int row), some (D.int unp.1), some (D.int unp.2.1), some (D.int unp.2.2), some (D.int number)] h m := hm
    refine run_if hm (YB.bb (YM.opQ (YT.var rfl rfl) YT.c (eq_fa Fa.int (by decide) unp.2.1 (1 : Int)))) (fun hc m hm => ?_) (fun hc m hm => ?_)
    · rw [if_pos hc] at hr
      replace hm : Sx [some (D.int row), some (D.int unp.1), some (D.int unp.2.1), some (D.int unp.2.2), some (D.int number)] h m := hm
      obtain rfl := Option.some.inj hr
      exact run_rt hm (YM.pp (YT.op1 (YT.var rfl rfl) rfl rfl) rfl) (fun m hm => ⟨rfl, (Out.pin rfl rfl (Out.nil)).eq hm.e, hm.h⟩)
    · rw [if_neg (ne_t hc)] at hr
      replace hm : Sx [some (D.int row), some (D.int unp.1), some (D.int unp.2.1), some (D.int unp.2.2), some (D.int number)] h m := hm
      refine run_pass ?_
      refine run_last ?_
      obtain rfl := Option.some.inj hr
      exact run_rt hm (YM.mv rfl rfl) (fun m hm => ⟨rfl, (Out.pin rfl rfl (Out.nil)).eq hm.e, hm.h⟩)

noncomputable def t_law_rows_l1 (script : (List Int)) (atx : Int) (keys : (List Str)) (h : (List Ob)) (s : (List Ob)) (k : Int) : Option (List Ob) :=
  (t_law_row script atx).bind fun o_row =>
  (fdivO o_row (k + (1 : Int))).bind fun quot =>
  (if decide ((0 : Int) < (quot % (4 : Int))) = true then
    (t_law_row script ((atx + (1 : Int)) + k)).bind fun o_row1 =>
    (t_law_value o_row1).bind fun o_value =>
    (atI keys k).bind fun it =>
    (boxO e_XSW s h.length).bind fun rows =>
    (putO rows it o_value).bind fun put =>
    some (setB s h.length (e_XSW put))
  else
    some s).bind fun hp =>
  some hp
noncomputable def t_law_rows (script : (List Int)) (atx : Int) (keys : (List Str)) (h : List Ob) : Option (Nat × (List Ob)) :=
  (gd ((-4611686018427387904 ≤ (keys.length : Int) ∧ (keys.length : Int) < 4611686018427387904)) (some (rangeI 0 (keys.length : Int)))).bind fun rg =>
  (forS (t_law_rows_l1 script atx keys h) rg (h ++ [⟨BOXC, [("", e_XSW ([] : (List (Str × W))))]⟩])).bind fun hp1 =>
  some (h.length, hp1)
abbrev q_law_rows (script : (List Int)) (atx : Int) (keys : (List Str)) (h : List Ob) : (Nat × (List Ob)) → Fl → Mem → Prop := fun r => FP (D.loc r.1) [0, 1, 2] [e_LI script, D.int atx, e_MS keys] [e_LI script, D.int atx, e_MS keys] r.2
theorem y_law_rows (script : (List Int)) (atx : Int) (keys : (List Str)) (h : List Ob) (r : (Nat × (List Ob))) (hr : t_law_rows script atx keys h = some r) : m_law_rows [e_LI script, D.int atx, e_MS keys] h = .ok (D.loc r.1, [e_LI script, D.int atx, e_MS keys], r.2) := by
  unfold t_law_rows at hr
  unfold m_law_rows
  refine run_def rfl rfl (fun m hm => ?_)
  show Run _ m (q_law_rows script atx keys h r)
  replace hm : Sx [some (e_LI script), some (D.int atx), some (e_MS keys), some D.und, some D.und] h m := hm
  refine run_asg hm (YM.box YM.dic0 rfl) (YG.name (i := 3) (d := D.loc h.length) rfl) (fun m hm => ?_)
  replace hm : Sx [some (e_LI script), some (D.int atx), some (e_MS keys), some (D.loc h.length), some D.und] (h ++ [⟨BOXC, [("", e_XSW ([] : (List (Str × W))))]⟩]) m := hm
  obtain ⟨rg, h_rg, hr⟩ := bnd hr
  obtain ⟨hp1, h_hp1, hr⟩ := bnd hr
  refine run_for (p2 := [some (e_LI script), some (D.int atx), some (e_MS keys), some (D.loc h.length), none]) (h2 := hp1) hm (YI.cast (YI.r1 (YA.qq (YL.cons (YT.cb (YL.cons (YT.var rfl rfl) YL.nil) len_L rfl) YL.nil)) (.bor Ct.nil) (gd_some h_rg).1) (congrArg (List.map D.int) (Option.some.inj (gd_some h_rg).2))) (fun m hm => run_forS (P := fun (s : (List Ob)) => [some (e_LI script), some (D.int atx), some (e_MS keys), some (D.loc h.length), none]) (H := fun (s : (List Ob)) => s) (enc := D.int) (fun _ _ _ => trivial) ?_ rg (h ++ [⟨BOXC, [("", e_XSW ([] : (List (Str × W))))]⟩]) hp1 h_hp1 m (hm.wk (.keep (.keep (.keep (.keep (.drop Wk.nil))))))) (fun m hm => ?_)
  · intro s k rr hr m hm
    unfold t_law_rows_l1 at hr
    refine st_tg (YG.name (i := 4) (d := D.int k) rfl) hm (fun m hm => ?_)
    replace hm : Sx [some (e_LI script), some (D.int atx), some (e_MS keys), some (D.loc h.length), some (D.int k)] s m := hm
    refine run_last ?_
    obtain ⟨o_row, h_o_row, hr⟩ := bnd hr
    obtain ⟨quot, h_quot, hr⟩ := bnd hr
    obtain ⟨hp, h_hp, hr⟩ := bnd hr
    refine run_ifj (p1 := [some (e_LI script), some (D.int atx), some (e_MS keys), some (D.loc h.length), some (D.int k)]) (h1 := hp) hm (YB.bb (YM.op2 (YM.op2 (YM.op2 (YM.cb (YA.v (YM.call (YA.n rfl rfl (YA.n rfl rfl YA.nil)) (.namP rfl rfl (pu_LI script) (.namP rfl rfl rfl Gr.nil)) (y_law_row script atx _ _ h_o_row) rfl) YA.nil) (.val Ct.nil) rfl) (YM.qb (YT.op2 (YT.var rfl rfl) YT.c rfl rfl)) (fdiv_O h_quot)) (YM.qb YT.c) (mod_k (by decide))) (YM.qb YT.c) rfl)) (fun hc m hm => ?_) (fun hc m hm => ?_) (fun m hm => ?_)
    · clear hr
      have hr := h_hp
      clear h_hp
      rw [if_pos hc] at hr
      replace hm : Sx [some (e_LI script), some (D.int atx), some (e_MS keys), some (D.loc h.length), some (D.int k)] s m := hm
      obtain ⟨o_row1, h_o_row1, hr⟩ := bnd hr
      obtain ⟨o_value, h_o_value, hr⟩ := bnd hr
      obtain ⟨it, h_it, hr⟩ := bnd hr
      obtain ⟨rows, h_rows, hr⟩ := bnd hr
      obtain ⟨put, h_put, hr⟩ := bnd hr
      refine run_asg hm (YM.fz (YM.call (YA.v (YM.call (YA.n rfl rfl (YA.qq (YL.cons (YT.op2 (YT.op2 (YT.var rfl rfl) YT.c rfl rfl) (YT.var rfl rfl) rfl rfl) YL.nil))) (.namP rfl rfl (pu_LI script) (.bor rfl Gr.nil)) (y_law_row script ((atx + (1 : Int)) + k) _ _ h_o_row1) rfl) YA.nil) (.val Gr.nil) (y_law_value o_row1 _ _ h_o_value) rfl) (fz_same (deP (pu_W o_value)) (pu_W o_value))) (YG.subP (pl := (.bx h.length)) (YP.nBx rfl) (YT.ix (YT.var rfl rfl) (YT.var rfl rfl) (ix_L h_it)) (rfl) (YGet.bx h_rows) rfl (put_D (e := e_W) (xs := rows) (a := o_value) kf_str pu_W h_put) YPut.bx) (fun m hm => ?_)
      replace hm : Sx [some (e_LI script), some (D.int atx), some (e_MS keys), some (D.loc h.length), some (D.int k)] (setB s h.length (e_XSW put)) m := hm
      obtain rfl := Option.some.inj hr
      exact run_end ⟨rfl, hm.wk (.keep (.keep (.keep (.keep (.keep Wk.nil)))))⟩
    · clear hr
      have hr := h_hp
      clear h_hp
      rw [if_neg (ne_t hc)] at hr
      replace hm : Sx [some (e_LI script), some (D.int atx), some (e_MS keys), some (D.loc h.length), some (D.int k)] s m := hm
      refine run_pass ?_
      obtain rfl := Option.some.inj hr
      exact run_end ⟨rfl, hm.wk (.keep (.keep (.keep (.keep (.keep Wk.nil)))))⟩
    obtain rfl := Option.some.inj hr
    exact run_end ⟨.inl rfl, hm.wk (.keep (.keep (.keep (.keep (.drop Wk.nil)))))⟩
  refine run_last ?_
  obtain rfl := Option.some.inj hr
  exact run_rt hm (YM.mv rfl rfl) (fun m hm => ⟨rfl, (Out.pin rfl rfl (Out.pin rfl rfl (Out.pin rfl rfl (Out.nil)))).eq hm.e, hm.h⟩)

noncomputable def t_law_deed (keys : (List Str)) (row : Int) : Option (List W) :=
  (t_law_digits row [(8 : Int), (keys.length : Int), (2 : Int), (1000000001 : Int)]).bind fun o_digits =>
  (unp4 o_digits).bind fun unp =>
  (atI keys unp.2.1).bind fun key =>
  if decide (unp.1 < (2 : Int)) = true then
    some [(W.str ("get" : Str)), (W.str key)]
  else
    if decide (unp.1 < (4 : Int)) = true then
      (t_law_value (row / (100000000000 : Int))).bind fun o_value =>
      some [(W.str ("put" : Str)), (W.str key), o_value]
    else
      if decide (unp.1 = (4 : Int)) = true then
        some [(W.str ("del" : Str)), (W.str key)]
      else
        (atI [unp.2.2.2, (unp.2.2.2 % (9 : Int)), (1000000000 : Int)] (unp.1 - (5 : Int))).bind fun number =>
        (if decide (unp.2.2.1 = (1 : Int)) = true then
          (some (-number)).bind fun number2 =>
          some number2
        else
          some number).bind fun number1 =>
        some [(W.str ("add" : Str)), (W.str key), (W.int number1)]
abbrev q_law_deed (keys : (List Str)) (row : Int) (h : List Ob) : (List W) → Fl → Mem → Prop := fun r => FP (e_QW r) [0, 1] [e_MS keys, D.int row] [e_MS keys, D.int row] h
theorem y_law_deed (keys : (List Str)) (row : Int) (h : List Ob) (r : (List W)) (hr : t_law_deed keys row = some r) : m_law_deed [e_MS keys, D.int row] h = .ok (e_QW r, [e_MS keys, D.int row], h) := by
  unfold t_law_deed at hr
  unfold m_law_deed
  refine run_def rfl rfl (fun m hm => ?_)
  show Run _ m (q_law_deed keys row h r)
  replace hm : Sx [some (e_MS keys), some (D.int row), some D.und, some D.und, some D.und, some D.und, some D.und] h m := hm
  obtain ⟨o_digits, h_o_digits, hr⟩ := bnd hr
  obtain ⟨unp, h_unp, hr⟩ := bnd hr
  refine run_asg hm (YM.cast (YM.call (YA.v (YM.varP rfl rfl rfl) (YA.v (YM.cast (YM.lst (YA.v (YM.pp YT.c rfl) (YA.v (YM.pp (YT.cb (YL.cons (YT.var rfl rfl) YL.nil) len_L rfl) rfl) (YA.v (YM.pp YT.c rfl) (YA.v (YM.opQ (YT.op2 YT.c YT.c (pow_k (j := 9) 1000000000 (by decide) (by decide)) rfl) YT.c rfl) YA.nil)))) rfl (by simp)) (show _ = e_MI [(8 : Int), (keys.length : Int), (2 : Int), (1000000001 : Int)] from by first | rfl | simp [e_V, Dat.toD, toDs])) YA.nil)) (.val (.val Gr.nil)) (y_law_digits row [(8 : Int), (keys.length : Int), (2 : Int), (1000000001 : Int)] _ _ h_o_digits) rfl) (congrArg (D.lst true) (unp4_eq h_unp))) (YG.tlL rfl (puc rfl (puc rfl (puc rfl (puc rfl (pun))))) (YG.cons (YG.name (i := 2) (d := D.int unp.1) rfl) (YG.cons (YG.name (i := 3) (d := D.int unp.2.1) rfl) (YG.cons (YG.name (i := 4) (d := D.int unp.2.2.1) rfl) (YG.cons (YG.name (i := 5) (d := D.int unp.2.2.2) rfl) YG.nil))))) (fun m hm => ?_)
  replace hm : Sx [some (e_MS keys), some (D.int row), some (D.int unp.1), some (D.int unp.2.1), some (D.int unp.2.2.1), some (D.int unp.2.2.2), some D.und] h m := hm
  obtain ⟨key, h_key, hr⟩ := bnd hr
  refine run_asg hm (YM.pp (YT.ix (YT.var rfl rfl) (YT.var rfl rfl) (ix_L h_key)) rfl) (YG.name (i := 6) (d := D.str key) rfl) (fun m hm => ?_)
  replace hm : Sx [some (e_MS keys), some (D.int row), some (D.int unp.1), some (D.int unp.2.1), some (D.int unp.2.2.1), some (D.int unp.2.2.2), some (D.str key)] h m := hm
  refine run_if hm (YB.bb (YM.opQ (YT.var rfl rfl) YT.c rfl)) (fun hc m hm => ?_) (fun hc m hm => ?_)
  · rw [if_pos hc] at hr
    replace hm : Sx [some (e_MS keys), some (D.int row), some (D.int unp.1), some (D.int unp.2.1), some (D.int unp.2.2.1), some (D.int unp.2.2.2), some (D.str key)] h m := hm
    obtain rfl := Option.some.inj hr
    exact run_rt hm (YM.tup (YA.v (YM.pp YT.c rfl) (YA.v (YM.mv rfl rfl) YA.nil)) rfl (by simp)) (fun m hm => ⟨rfl, (Out.pin rfl rfl (Out.pin rfl rfl (Out.nil))).eq hm.e, hm.h⟩)
  · rw [if_neg (ne_t hc)] at hr
    replace hm : Sx [some (e_MS keys), some (D.int row), some (D.int unp.1), some (D.int unp.2.1), some (D.int unp.2.2.1), some (D.int unp.2.2.2), some (D.str key)] h m := hm
    refine run_pass ?_
    refine run_if hm (YB.bb (YM.opQ (YT.var rfl rfl) YT.c rfl)) (fun hc m hm => ?_) (fun hc m hm => ?_)
    · rw [if_pos hc] at hr
      replace hm : Sx [some (e_MS keys), some (D.int row), some (D.int unp.1), some (D.int unp.2.1), some (D.int unp.2.2.1), some (D.int unp.2.2.2), some (D.str key)] h m := hm
      obtain ⟨o_value, h_o_value, hr⟩ := bnd hr
      obtain rfl := Option.some.inj hr
      exact run_rt hm (YM.tup (YA.v (YM.pp YT.c rfl) (YA.v (YM.mv rfl rfl) (YA.v (YM.call (YA.qq (YL.cons (YT.op2 (YT.var rfl rfl) (YT.op2 YT.c YT.c (pow_k (j := 11) 100000000000 (by decide) (by decide)) rfl) (fdiv_k (by decide)) rfl) YL.nil)) (.bor rfl Gr.nil) (y_law_value (row / (100000000000 : Int)) _ _ h_o_value) rfl) YA.nil))) rfl (by simp)) (fun m hm => ⟨rfl, (Out.pin rfl rfl (Out.pin rfl rfl (Out.nil))).eq hm.e, hm.h⟩)
    · rw [if_neg (ne_t hc)] at hr
      replace hm : Sx [some (e_MS keys), some (D.int row), some (D.int unp.1), some (D.int unp.2.1), some (D.int unp.2.2.1), some (D.int unp.2.2.2), some (D.str key)] h m := hm
      refine run_pass ?_
      refine run_if hm (YB.bb (YM.opQ (YT.var rfl rfl) YT.c (eq_fa Fa.int (by decide) unp.1 (4 : Int)))) (fun hc m hm => ?_) (fun hc m hm => ?_)
      · rw [if_pos hc] at hr
        replace hm : Sx [some (e_MS keys), some (D.int row), some (D.int unp.1), some (D.int unp.2.1), some (D.int unp.2.2.1), some (D.int unp.2.2.2), some (D.str key)] h m := hm
        obtain rfl := Option.some.inj hr
        exact run_rt hm (YM.tup (YA.v (YM.pp YT.c rfl) (YA.v (YM.mv rfl rfl) YA.nil)) rfl (by simp)) (fun m hm => ⟨rfl, (Out.pin rfl rfl (Out.pin rfl rfl (Out.nil))).eq hm.e, hm.h⟩)
      · rw [if_neg (ne_t hc)] at hr
        replace hm : Sx [some (e_MS keys), some (D.int row), some (D.int unp.1), some (D.int unp.2.1), some (D.int unp.2.2.1), some (D.int unp.2.2.2), some (D.str key)] h m := hm
        refine run_pass ?_
        obtain ⟨number, h_number, hr⟩ := bnd hr
        refine run_asg hm (YM.ix (YM.cast (YM.lst (YA.v (YM.varP rfl rfl rfl) (YA.v (YM.opQ (YT.var rfl rfl) YT.c (mod_k (by decide))) (YA.v (YM.opQ YT.c YT.c (pow_k (j := 9) 1000000000 (by decide) (by decide))) YA.nil))) rfl (by simp)) (show _ = e_MI [unp.2.2.2, (unp.2.2.2 % (9 : Int)), (1000000000 : Int)] from by first | rfl | simp [e_V, Dat.toD, toDs])) (YM.qb (YT.op2 (YT.var rfl rfl) YT.c rfl rfl)) (ix_L h_number) rfl) (YG.name (i := 5) (d := D.int number) rfl) (fun m hm => ?_)
        replace hm : Sx [some (e_MS keys), some (D.int row), some (D.int unp.1), some (D.int unp.2.1), some (D.int unp.2.2.1), some (D.int number), some (D.str key)] h m := hm
        obtain ⟨number1, h_number1, hr⟩ := bnd hr
        refine run_ifj (p1 := [some (e_MS keys), some (D.int row), some (D.int unp.1), some (D.int unp.2.1), some (D.int unp.2.2.1), some (D.int number1), some (D.str key)]) (h1 := h) hm (YB.bb (YM.opQ (YT.var rfl rfl) YT.c (eq_fa Fa.int (by decide) unp.2.2.1 (1 : Int)))) (fun hc m hm => ?_) (fun hc m hm => ?_) (fun m hm => ?_)
        · clear hr
          have hr := h_number1
          clear h_number1
          rw [if_pos hc] at hr
          replace hm : Sx [some (e_MS keys), some (D.int row), some (D.int unp.1), some (D.int unp.2.1), some (D.int unp.2.2.1), some (D.int number), some (D.str key)] h m := hm
          obtain ⟨number2, h_number2, hr⟩ := bnd hr
          refine run_asg hm (YM.cast (YM.pp (YT.op1 (YT.var rfl rfl) rfl rfl) rfl) (congrArg D.int (Option.some.inj h_number2))) (YG.name (i := 5) (d := D.int number2) rfl) (fun m hm => ?_)
          replace hm : Sx [some (e_MS keys), some (D.int row), some (D.int unp.1), some (D.int unp.2.1), some (D.int unp.2.2.1), some (D.int number2), some (D.str key)] h m := hm
          obtain rfl := Option.some.inj hr
          exact run_end ⟨rfl, hm.wk (.keep (.keep (.keep (.keep (.keep (.keep (.keep Wk.nil)))))))⟩
        · clear hr
          have hr := h_number1
          clear h_number1
          rw [if_neg (ne_t hc)] at hr
          replace hm : Sx [some (e_MS keys), some (D.int row), some (D.int unp.1), some (D.int unp.2.1), some (D.int unp.2.2.1), some (D.int number), some (D.str key)] h m := hm
          refine run_pass ?_
          obtain rfl := Option.some.inj hr
          exact run_end ⟨rfl, hm.wk (.keep (.keep (.keep (.keep (.keep (.keep (.keep Wk.nil)))))))⟩
        refine run_last ?_
        obtain rfl := Option.some.inj hr
        exact run_rt hm (YM.tup (YA.v (YM.pp YT.c rfl) (YA.v (YM.mv rfl rfl) (YA.v (YM.mv rfl rfl) YA.nil))) rfl (by simp)) (fun m hm => ⟨rfl, (Out.pin rfl rfl (Out.pin rfl rfl (Out.nil))).eq hm.e, hm.h⟩)

noncomputable def t_law_deal_l1 (keys : (List Str)) (rows : Nat) (row : Int) (unp : (Int × Int × Int)) (s : ((List (Str × (Option W))) × (List Ob))) (k : Int) : Option ((List (Str × (Option W))) × (List Ob)) :=
  (fdivO row ((107 : Int) + ((10 : Int) * k))).bind fun quot =>
  (t_law_digits quot [(keys.length : Int), (8 : Int), (1000000000 : Int)]).bind fun o_digits1 =>
  (unp3 o_digits1).bind fun unp1 =>
  (atI keys unp1.1).bind fun key =>
  (boxO e_XSW s.2 rows).bind fun rows1 =>
  (some (lookK rows1 key)).bind fun check =>
  (if ((decide (unp.2.2 = (0 : Int))) && (decide (unp1.2.1 < (2 : Int)))) = true then
    (atI [none, (some unp1.2.2)] unp1.2.1).bind fun check2 =>
    some (check2.map fun z => (W.int z))
  else
    some check).bind fun check1 =>
  (appO s.1 (key, check1)).bind fun checks =>
  some (checks, (setB s.2 rows (e_XSW rows1)))
noncomputable def t_law_deal_l2 (keys : (List Str)) (row : Int) (more : Int) (s2 : (List (List W))) (k1 : Int) : Option (List (List W)) :=
  (fdivO more (k1 + (1 : Int))).bind fun quot1 =>
  (mulO k1 row).bind fun prod =>
  (t_law_deed keys (quot1 + prod)).bind fun o_deed =>
  (appO s2 o_deed).bind fun deeds =>
  some deeds
noncomputable def t_law_deal (keys : (List Str)) (rows : Nat) (row : Int) (more : Int) (h : List Ob) : Option (((List (Str × (Option W))) × (List (List W))) × (List Ob)) :=
  (t_law_digits row [(5 : Int), (7 : Int), (3 : Int)]).bind fun o_digits =>
  (unp3 o_digits).bind fun unp =>
  (if decide ((unp.1 + unp.2.1) = (0 : Int)) = true then some (1 : Int) else some unp.2.1).bind fun many_deeds =>
  (gd ((-4611686018427387904 ≤ unp.1 ∧ unp.1 < 4611686018427387904)) (some (rangeI 0 unp.1))).bind fun rg =>
  (forS (t_law_deal_l1 keys rows row unp) rg (([] : (List (Str × (Option W)))), h)).bind fun s1 =>
  (gd ((-4611686018427387904 ≤ many_deeds ∧ many_deeds < 4611686018427387904)) (some (rangeI 0 many_deeds))).bind fun rg1 =>
  (forS (t_law_deal_l2 keys row more) rg1 ([] : (List (List W)))).bind fun deeds1 =>
  some ((s1.1, deeds1), s1.2)
abbrev q_law_deal (keys : (List Str)) (rows : Nat) (row : Int) (more : Int) (h : List Ob) : (((List (Str × (Option W))) × (List (List W))) × (List Ob)) → Fl → Mem → Prop := fun r => FP (e_T2QT2SOWQQW r.1) [0, 1, 2, 3] [e_MS keys, D.loc rows, D.int row, D.int more] [e_MS keys, D.loc rows, D.int row, D.int more] r.2
theorem y_law_deal (keys : (List Str)) (rows : Nat) (row : Int) (more : Int) (h : List Ob) (r : (((List (Str × (Option W))) × (List (List W))) × (List Ob))) (hr : t_law_deal keys rows row more h = some r) : m_law_deal [e_MS keys, D.loc rows, D.int row, D.int more] h = .ok (e_T2QT2SOWQQW r.1, [e_MS keys, D.loc rows, D.int row, D.int more], r.2) := by
  unfold t_law_deal at hr
  unfold m_law_deal
  refine run_def rfl rfl (fun m hm => ?_)
  show Run _ m (q_law_deal keys rows row more h r)
  replace hm : Sx [some (e_MS keys), some (D.loc rows), some (D.int row), some (D.int more), some D.und, some D.und, some D.und, some D.und, some D.und, some D.und, some D.und, some D.und, some D.und, some D.und, some D.und] h m := hm
  refine run_asg hm (YM.lst YA.nil rfl (by decide)) (YG.name (i := 4) (d := D.lst true []) rfl) (fun m hm => ?_)
  replace hm : Sx [some (e_MS keys), some (D.loc rows), some (D.int row), some (D.int more), some (D.lst true []), some D.und, some D.und, some D.und, some D.und, some D.und, some D.und, some D.und, some D.und, some D.und, some D.und] h m := hm
  refine run_asg hm (YM.lst YA.nil rfl (by decide)) (YG.name (i := 5) (d := D.lst true []) rfl) (fun m hm => ?_)
  replace hm : Sx [some (e_MS keys), some (D.loc rows), some (D.int row), some (D.int more), some (D.lst true []), some (D.lst true []), some D.und, some D.und, some D.und, some D.und, some D.und, some D.und, some D.und, some D.und, some D.und] h m := hm
  obtain ⟨o_digits, h_o_digits, hr⟩ := bnd hr
  obtain ⟨unp, h_unp, hr⟩ := bnd hr
  refine run_asg hm (YM.cast (YM.call (YA.v (YM.varP rfl rfl rfl) (YA.v (YM.cast (YM.lst (YA.v (YM.pp YT.c rfl) (YA.v (YM.pp YT.c rfl) (YA.v (YM.pp YT.c rfl) YA.nil))) rfl (by simp)) (show _ = e_MI [(5 : Int), (7 : Int), (3 : Int)] from by first | rfl | simp [e_V, Dat.toD, toDs])) YA.nil)) (.val (.val Gr.nil)) (y_law_digits row [(5 : Int), (7 : Int), (3 : Int)] _ _ h_o_digits) rfl) (congrArg (D.lst true) (unp3_eq h_unp))) (YG.tlL rfl (puc rfl (puc rfl (puc rfl (pun)))) (YG.cons (YG.name (i := 6) (d := D.int unp.1) rfl) (YG.cons (YG.name (i := 7) (d := D.int unp.2.1) rfl) (YG.cons (YG.name (i := 8) (d := D.int unp.2.2) rfl) YG.nil)))) (fun m hm => ?_)
  replace hm : Sx [some (e_MS keys), some (D.loc rows), some (D.int row), some (D.int more), some (D.lst true []), some (D.lst true []), some (D.int unp.1), some (D.int unp.2.1), some (D.int unp.2.2), some D.und, some D.und, some D.und, some D.und, some D.und, some D.und] h m := hm
  obtain ⟨many_deeds, h_many_deeds, hr⟩ := bnd hr
  refine run_ifj (p1 := [some (e_MS keys), some (D.loc rows), some (D.int row), some (D.int more), some (D.lst true []), some (D.lst true []), some (D.int unp.1), some (D.int many_deeds), some (D.int unp.2.2), some D.und, some D.und, some D.und, some D.und, some D.und, some D.und]) (h1 := h) hm (YB.bb (YM.opQ (YT.op2 (YT.var rfl rfl) (YT.var rfl rfl) rfl rfl) YT.c (eq_fa Fa.int (by decide) (unp.1 + unp.2.1) (0 : Int)))) (fun hc m hm => ?_) (fun hc m hm => ?_) (fun m hm => ?_)
  · clear hr
    have hr := h_many_deeds
    clear h_many_deeds
    rw [if_pos hc] at hr
    replace hm : Sx [some (e_MS keys), some (D.loc rows), some (D.int row), some (D.int more), some (D.lst true []), some (D.lst true []), some (D.int unp.1), some (D.int unp.2.1), some (D.int unp.2.2), some D.und, some D.und, some D.und, some D.und, some D.und, some D.und] h m := hm
    refine run_asg hm (YM.pp YT.c rfl) (YG.name (i := 7) (d := D.int (1 : Int)) rfl) (fun m hm => ?_)
    replace hm : Sx [some (e_MS keys), some (D.loc rows), some (D.int row), some (D.int more), some (D.lst true []), some (D.lst true []), some (D.int unp.1), some (D.int (1 : Int)), some (D.int unp.2.2), some D.und, some D.und, some D.und, some D.und, some D.und, some D.und] h m := hm
    obtain rfl := Option.some.inj hr
    exact run_end ⟨rfl, hm.wk (.keep (.keep (.keep (.keep (.keep (.keep (.keep (.keep (.keep (.keep (.keep (.keep (.keep (.keep (.keep Wk.nil)))))))))))))))⟩
  · clear hr
    have hr := h_many_deeds
    clear h_many_deeds
    rw [if_neg (ne_t hc)] at hr
    replace hm : Sx [some (e_MS keys), some (D.loc rows), some (D.int row), some (D.int more), some (D.lst true []), some (D.lst true []), some (D.int unp.1), some (D.int unp.2.1), some (D.int unp.2.2), some D.und, some D.und, some D.und, some D.und, some D.und, some D.und] h m := hm
    refine run_pass ?_
    obtain rfl := Option.some.inj hr
    exact run_end ⟨rfl, hm.wk (.keep (.keep (.keep (.keep (.keep (.keep (.keep (.keep (.keep (.keep (.keep (.keep (.keep (.keep (.keep Wk.nil)))))))))))))))⟩
  obtain ⟨rg, h_rg, hr⟩ := bnd hr
  obtain ⟨s1, h_s1, hr⟩ := bnd hr
  refine run_for (p2 := [some (e_MS keys), some (D.loc rows), some (D.int row), some (D.int more), some (e_MT2SOW s1.1), some (D.lst true []), some (D.int unp.1), some (D.int many_deeds), some (D.int unp.2.2), none, none, none, none, none, none]) (h2 := s1.2) hm (YI.cast (YI.r1 (YA.n rfl rfl YA.nil) (.nam rfl rfl Ct.nil) (gd_some h_rg).1) (congrArg (List.map D.int) (Option.some.inj (gd_some h_rg).2))) (fun m hm => run_forS (P := fun (s : ((List (Str × (Option W))) × (List Ob))) => [some (e_MS keys), some (D.loc rows), some (D.int row), some (D.int more), some (e_MT2SOW s.1), some (D.lst true []), some (D.int unp.1), some (D.int many_deeds), some (D.int unp.2.2), none, none, none, none, none, none]) (H := fun (s : ((List (Str × (Option W))) × (List Ob))) => s.2) (enc := D.int) (fun _ _ _ => trivial) ?_ rg (([] : (List (Str × (Option W)))), h) s1 h_s1 m (hm.wk (.keep (.keep (.keep (.keep (.cast (rfl) (.keep (.keep (.keep (.keep (.drop (.drop (.drop (.drop (.drop (.drop Wk.nil))))))))))))))))) (fun m hm => ?_)
  · intro s k rr hr m hm
    unfold t_law_deal_l1 at hr
    refine st_tg (YG.name (i := 9) (d := D.int k) rfl) hm (fun m hm => ?_)
    replace hm : Sx [some (e_MS keys), some (D.loc rows), some (D.int row), some (D.int more), some (e_MT2SOW s.1), some (D.lst true []), some (D.int unp.1), some (D.int many_deeds), some (D.int unp.2.2), some (D.int k), none, none, none, none, none] s.2 m := hm
    obtain ⟨quot, h_quot, hr⟩ := bnd hr
    obtain ⟨o_digits1, h_o_digits1, hr⟩ := bnd hr
    obtain ⟨unp1, h_unp1, hr⟩ := bnd hr
    refine run_asg hm (YM.cast (YM.call (YA.v (YM.opQ (YT.var rfl rfl) (YT.op2 YT.c (YT.op2 YT.c (YT.var rfl rfl) (mul_l (by decide)) rfl) rfl rfl) (fdiv_O h_quot)) (YA.v (YM.cast (YM.lst (YA.v (YM.pp (YT.cb (YL.cons (YT.var rfl rfl) YL.nil) len_L rfl) rfl) (YA.v (YM.pp YT.c rfl) (YA.v (YM.opQ YT.c YT.c (pow_k (j := 9) 1000000000 (by decide) (by decide))) YA.nil))) rfl (by simp)) (show _ = e_MI [(keys.length : Int), (8 : Int), (1000000000 : Int)] from by first | rfl | simp [e_V, Dat.toD, toDs])) YA.nil)) (.val (.val Gr.nil)) (y_law_digits quot [(keys.length : Int), (8 : Int), (1000000000 : Int)] _ _ h_o_digits1) rfl) (congrArg (D.lst true) (unp3_eq h_unp1))) (YG.tlL rfl (puc rfl (puc rfl (puc rfl (pun)))) (YG.cons (YG.name (i := 10) (d := D.int unp1.1) rfl) (YG.cons (YG.name (i := 11) (d := D.int unp1.2.1) rfl) (YG.cons (YG.name (i := 12) (d := D.int unp1.2.2) rfl) YG.nil)))) (fun m hm => ?_)
    replace hm : Sx [some (e_MS keys), some (D.loc rows), some (D.int row), some (D.int more), some (e_MT2SOW s.1), some (D.lst true []), some (D.int unp.1), some (D.int many_deeds), some (D.int unp.2.2), some (D.int k), some (D.int unp1.1), some (D.int unp1.2.1), some (D.int unp1.2.2), none, none] s.2 m := hm
    obtain ⟨key, h_key, hr⟩ := bnd hr
    refine run_asg hm (YM.pp (YT.ix (YT.var rfl rfl) (YT.var rfl rfl) (ix_L h_key)) rfl) (YG.name (i := 13) (d := D.str key) rfl) (fun m hm => ?_)
    replace hm : Sx [some (e_MS keys), some (D.loc rows), some (D.int row), some (D.int more), some (e_MT2SOW s.1), some (D.lst true []), some (D.int unp.1), some (D.int many_deeds), some (D.int unp.2.2), some (D.int k), some (D.int unp1.1), some (D.int unp1.2.1), some (D.int unp1.2.2), some (D.str key), none] s.2 m := hm
    obtain ⟨rows1, h_rows1, hr⟩ := bnd hr
    obtain ⟨check, h_check, hr⟩ := bnd hr
    refine run_asg hm (YM.cast (YM.opL (pl := (.bx rows)) (YP.nBx rfl) rfl (YGet.bx h_rows1) rfl (YA.v (YM.varP rfl rfl rfl) YA.nil) rfl (YGet.bx h_rows1) rfl (get1_D kf_str pu_W) YPut.bx) (congrArg e_OW (Option.some.inj h_check))) (YG.name (i := 14) (d := e_OW check) rfl) (fun m hm => ?_)
    replace hm : Sx [some (e_MS keys), some (D.loc rows), some (D.int row), some (D.int more), some (e_MT2SOW s.1), some (D.lst true []), some (D.int unp.1), some (D.int many_deeds), some (D.int unp.2.2), some (D.int k), some (D.int unp1.1), some (D.int unp1.2.1), some (D.int unp1.2.2), some (D.str key), some (e_OW check)] (setB s.2 rows (e_XSW rows1)) m := hm
    obtain ⟨check1, h_check1, hr⟩ := bnd hr
    refine run_ifj (p1 := [some (e_MS keys), some (D.loc rows), some (D.int row), some (D.int more), some (e_MT2SOW s.1), some (D.lst true []), some (D.int unp.1), some (D.int many_deeds), some (D.int unp.2.2), some (D.int k), some (D.int unp1.1), some (D.int unp1.2.1), some (D.int unp1.2.2), some (D.str key), some (e_OW check1)]) (h1 := (setB s.2 rows (e_XSW rows1))) hm (YB.andT (YB.bb (YM.opQ (YT.var rfl rfl) YT.c (eq_fa Fa.int (by decide) unp.2.2 (0 : Int)))) (YB.bb (YM.opQ (YT.var rfl rfl) YT.c rfl))) (fun hc m hm => ?_) (fun hc m hm => ?_) (fun m hm => ?_)
    · clear hr
      have hr := h_check1
      clear h_check1
      rw [if_pos hc] at hr
      replace hm : Sx [some (e_MS keys), some (D.loc rows), some (D.int row), some (D.int more), some (e_MT2SOW s.1), some (D.lst true []), some (D.int unp.1), some (D.int many_deeds), some (D.int unp.2.2), some (D.int k), some (D.int unp1.1), some (D.int unp1.2.1), some (D.int unp1.2.2), some (D.str key), some (e_OW check)] (setB s.2 rows (e_XSW rows1)) m := hm
      obtain ⟨check2, h_check2, hr⟩ := bnd hr
      refine run_asg hm (YM.ix (YM.cast (YM.lst (YA.v (YM.pp YT.c rfl) (YA.v (YM.varP rfl rfl rfl) YA.nil)) rfl (by simp)) (show _ = e_MOI [none, (some unp1.2.2)] from by first | rfl | simp [e_V, Dat.toD, toDs])) (YM.qb (YT.var rfl rfl)) (ix_L h_check2) (pu_OI check2)) (YG.name (i := 14) (d := e_OI check2) rfl) (fun m hm => ?_)
      replace hm : Sx [some (e_MS keys), some (D.loc rows), some (D.int row), some (D.int more), some (e_MT2SOW s.1), some (D.lst true []), some (D.int unp.1), some (D.int many_deeds), some (D.int unp.2.2), some (D.int k), some (D.int unp1.1), some (D.int unp1.2.1), some (D.int unp1.2.2), some (D.str key), some (e_OI check2)] (setB s.2 rows (e_XSW rows1)) m := hm
      obtain rfl := Option.some.inj hr
      exact run_end ⟨rfl, hm.wk (.keep (.keep (.keep (.keep (.keep (.keep (.keep (.keep (.keep (.keep (.keep (.keep (.keep (.keep (.cast (cmap_O (e := D.int) (f := e_W) (g := fun z => (W.int z)) (fun z => rfl) check2) Wk.nil)))))))))))))))⟩
    · clear hr
      have hr := h_check1
      clear h_check1
      rw [if_neg (ne_t hc)] at hr
      replace hm : Sx [some (e_MS keys), some (D.loc rows), some (D.int row), some (D.int more), some (e_MT2SOW s.1), some (D.lst true []), some (D.int unp.1), some (D.int many_deeds), some (D.int unp.2.2), some (D.int k), some (D.int unp1.1), some (D.int unp1.2.1), some (D.int unp1.2.2), some (D.str key), some (e_OW check)] (setB s.2 rows (e_XSW rows1)) m := hm
      refine run_pass ?_
      obtain rfl := Option.some.inj hr
      exact run_end ⟨rfl, hm.wk (.keep (.keep (.keep (.keep (.keep (.keep (.keep (.keep (.keep (.keep (.keep (.keep (.keep (.keep (.keep Wk.nil)))))))))))))))⟩
    refine run_last ?_
    obtain ⟨checks, h_checks, hr⟩ := bnd hr
    refine run_ex hm (YM.appL (e := e_T2SOW) (xs := s.1) (a := (key, check1)) rfl rfl (YM.tup (YA.v (YM.varP rfl rfl rfl) (YA.v (YM.varP rfl (deP (pu_OW check1)) (pu_OW check1)) YA.nil)) rfl (by simp)) rfl h_checks) (fun m hm => ?_)
    replace hm : Sx [some (e_MS keys), some (D.loc rows), some (D.int row), some (D.int more), some (e_MT2SOW checks), some (D.lst true []), some (D.int unp.1), some (D.int many_deeds), some (D.int unp.2.2), some (D.int k), some (D.int unp1.1), some (D.int unp1.2.1), some (D.int unp1.2.2), some (D.str key), some (e_OW check1)] (setB s.2 rows (e_XSW rows1)) m := hm
    obtain rfl := Option.some.inj hr
    exact run_end ⟨.inl rfl, hm.wk (.keep (.keep (.keep (.keep (.keep (.keep (.keep (.keep (.keep (.drop (.drop (.drop (.drop (.drop (.drop Wk.nil)))))))))))))))⟩
  obtain ⟨rg1, h_rg1, hr⟩ := bnd hr
  obtain ⟨deeds1, h_deeds1, hr⟩ := bnd hr
  refine run_for (p2 := [some (e_MS keys), some (D.loc rows), some (D.int row), some (D.int more), some (e_MT2SOW s1.1), some (e_MQW deeds1), some (D.int unp.1), some (D.int many_deeds), some (D.int unp.2.2), none, none, none, none, none, none]) (h2 := s1.2) hm (YI.cast (YI.r1 (YA.n rfl rfl YA.nil) (.nam rfl rfl Ct.nil) (gd_some h_rg1).1) (congrArg (List.map D.int) (Option.some.inj (gd_some h_rg1).2))) (fun m hm => run_forS (P := fun (s2 : (List (List W))) => [some (e_MS keys), some (D.loc rows), some (D.int row), some (D.int more), some (e_MT2SOW s1.1), some (e_MQW s2), some (D.int unp.1), some (D.int many_deeds), some (D.int unp.2.2), none, none, none, none, none, none]) (H := fun (s2 : (List (List W))) => s1.2) (enc := D.int) (fun _ _ _ => trivial) ?_ rg1 ([] : (List (List W))) deeds1 h_deeds1 m (hm.wk (.keep (.keep (.keep (.keep (.keep (.cast (rfl) (.keep (.keep (.keep (.drop (.drop (.drop (.drop (.drop (.drop Wk.nil))))))))))))))))) (fun m hm => ?_)
  · intro s2 k1 rr hr m hm
    unfold t_law_deal_l2 at hr
    refine st_tg (YG.name (i := 9) (d := D.int k1) rfl) hm (fun m hm => ?_)
    replace hm : Sx [some (e_MS keys), some (D.loc rows), some (D.int row), some (D.int more), some (e_MT2SOW s1.1), some (e_MQW s2), some (D.int unp.1), some (D.int many_deeds), some (D.int unp.2.2), some (D.int k1), none, none, none, none, none] s1.2 m := hm
    refine run_last ?_
    obtain ⟨quot1, h_quot1, hr⟩ := bnd hr
    obtain ⟨prod, h_prod, hr⟩ := bnd hr
    obtain ⟨o_deed, h_o_deed, hr⟩ := bnd hr
    obtain ⟨deeds, h_deeds, hr⟩ := bnd hr
    refine run_ex hm (YM.appL (e := e_QW) (xs := s2) (a := o_deed) rfl rfl (YM.call (YA.n rfl rfl (YA.qq (YL.cons (YT.op2 (YT.op2 (YT.var rfl rfl) (YT.op2 (YT.var rfl rfl) YT.c rfl rfl) (fdiv_O h_quot1) rfl) (YT.op2 (YT.var rfl rfl) (YT.var rfl rfl) (mul_O h_prod) rfl) rfl rfl) YL.nil))) (.namM rfl rfl (np_MS keys) (.bor rfl Gr.nil)) (y_law_deed keys (quot1 + prod) _ _ h_o_deed) rfl) rfl h_deeds) (fun m hm => ?_)
    replace hm : Sx [some (e_MS keys), some (D.loc rows), some (D.int row), some (D.int more), some (e_MT2SOW s1.1), some (e_MQW deeds), some (D.int unp.1), some (D.int many_deeds), some (D.int unp.2.2), some (D.int k1), none, none, none, none, none] s1.2 m := hm
    obtain rfl := Option.some.inj hr
    exact run_end ⟨.inl rfl, hm.wk (.keep (.keep (.keep (.keep (.keep (.keep (.keep (.keep (.keep (.drop (.drop (.drop (.drop (.drop (.drop Wk.nil)))))))))))))))⟩
  refine run_last ?_
  obtain rfl := Option.some.inj hr
  exact run_rt hm (YM.tup (YA.v (YM.cb (YA.n rfl rfl YA.nil) (.nam rfl rfl Ct.nil) (tuple_L pu_T2SOW)) (YA.v (YM.cb (YA.n rfl rfl YA.nil) (.nam rfl rfl Ct.nil) (tuple_L pu_QW)) YA.nil)) rfl (by simp)) (fun m hm => ⟨rfl, (Out.pin rfl rfl (Out.pin rfl rfl (Out.pin rfl rfl (Out.pin rfl rfl (Out.nil))))).eq hm.e, hm.h⟩)

noncomputable def t_law_part_l1 (deal : ((List (Str × (Option W))) × (List (List W)))) (keys : (List Str)) (s : (List (Int × Str × (Option W)))) (k : Int) : Option (List (Int × Str × (Option W))) :=
  (atI deal.1 k).bind fun it =>
  (if memB it.1 keys = true then
    (atI deal.1 k).bind fun it1 =>
    (appO s (k, it1.1, it1.2)).bind fun checks1 =>
    some checks1
  else
    some s).bind fun checks =>
  some checks
noncomputable def t_law_part_l2 (deal : ((List (Str × (Option W))) × (List (List W)))) (keys : (List Str)) (s1 : (List (Int × (List W)))) (k1 : Int) : Option (List (Int × (List W))) :=
  (atI deal.2 k1).bind fun it2 =>
  (atI it2 (1 : Int)).bind fun it3 =>
  (if memB it3 (keys.map fun z => (W.str z)) = true then
    (atI deal.2 k1).bind fun it4 =>
    (appO s1 (k1, it4)).bind fun deeds1 =>
    some deeds1
  else
    some s1).bind fun deeds =>
  some deeds
noncomputable def t_law_part (deal : ((List (Str × (Option W))) × (List (List W)))) (keys : (List Str)) : Option ((List (Int × Str × (Option W))) × (List (Int × (List W)))) :=
  (gd ((-4611686018427387904 ≤ (deal.1.length : Int) ∧ (deal.1.length : Int) < 4611686018427387904)) (some (rangeI 0 (deal.1.length : Int)))).bind fun rg =>
  (forS (t_law_part_l1 deal keys) rg ([] : (List (Int × Str × (Option W))))).bind fun checks2 =>
  (gd ((-4611686018427387904 ≤ (deal.2.length : Int) ∧ (deal.2.length : Int) < 4611686018427387904)) (some (rangeI 0 (deal.2.length : Int)))).bind fun rg1 =>
  (forS (t_law_part_l2 deal keys) rg1 ([] : (List (Int × (List W))))).bind fun deeds2 =>
  some (checks2, deeds2)
abbrev q_law_part (deal : ((List (Str × (Option W))) × (List (List W)))) (keys : (List Str)) (h : List Ob) : ((List (Int × Str × (Option W))) × (List (Int × (List W)))) → Fl → Mem → Prop := fun r => FP (e_T2QT3ISOWQT2IQW r) [0, 1] [e_T2QT2SOWQQW deal, e_MS keys] [e_T2QT2SOWQQW deal, e_MS keys] h
theorem y_law_part (deal : ((List (Str × (Option W))) × (List (List W)))) (keys : (List Str)) (h : List Ob) (r : ((List (Int × Str × (Option W))) × (List (Int × (List W))))) (hr : t_law_part deal keys = some r) : m_law_part [e_T2QT2SOWQQW deal, e_MS keys] h = .ok (e_T2QT3ISOWQT2IQW r, [e_T2QT2SOWQQW deal, e_MS keys], h) := by
  unfold t_law_part at hr
  unfold m_law_part
  refine run_def rfl rfl (fun m hm => ?_)
  show Run _ m (q_law_part deal keys h r)
  replace hm : Sx [some (e_T2QT2SOWQQW deal), some (e_MS keys), some D.und, some D.und, some D.und] h m := hm
  refine run_asg hm (YM.lst YA.nil rfl (by decide)) (YG.name (i := 2) (d := D.lst true []) rfl) (fun m hm => ?_)
  replace hm : Sx [some (e_T2QT2SOWQQW deal), some (e_MS keys), some (D.lst true []), some D.und, some D.und] h m := hm
  obtain ⟨rg, h_rg, hr⟩ := bnd hr
  obtain ⟨checks2, h_checks2, hr⟩ := bnd hr
  refine run_for (p2 := [some (e_T2QT2SOWQQW deal), some (e_MS keys), some (e_MT3ISOW checks2), none, some D.und]) (h2 := h) hm (YI.cast (YI.r1 (YA.qq (YL.cons (YT.cb (YL.cons (YT.ix (YT.var rfl rfl) YT.c rfl) YL.nil) len_Q rfl) YL.nil)) (.bor Ct.nil) (gd_some h_rg).1) (congrArg (List.map D.int) (Option.some.inj (gd_some h_rg).2))) (fun m hm => run_forS (P := fun (s : (List (Int × Str × (Option W)))) => [some (e_T2QT2SOWQQW deal), some (e_MS keys), some (e_MT3ISOW s), none, some D.und]) (H := fun (s : (List (Int × Str × (Option W)))) => h) (enc := D.int) (fun _ _ _ => trivial) ?_ rg ([] : (List (Int × Str × (Option W)))) checks2 h_checks2 m (hm.wk (.keep (.keep (.cast (rfl) (.drop (.keep Wk.nil))))))) (fun m hm => ?_)
  · intro s k rr hr m hm
    unfold t_law_part_l1 at hr
    refine st_tg (YG.name (i := 3) (d := D.int k) rfl) hm (fun m hm => ?_)
    replace hm : Sx [some (e_T2QT2SOWQQW deal), some (e_MS keys), some (e_MT3ISOW s), some (D.int k), some D.und] h m := hm
    refine run_last ?_
    obtain ⟨it, h_it, hr⟩ := bnd hr
    obtain ⟨checks, h_checks, hr⟩ := bnd hr
    refine run_ifj (p1 := [some (e_T2QT2SOWQQW deal), some (e_MS keys), some (e_MT3ISOW checks), some (D.int k), some D.und]) (h1 := h) hm (YB.bb (YM.opQ (YT.ix (YT.ix (YT.ix (YT.var rfl rfl) YT.c rfl) (YT.var rfl rfl) (ix_Q h_it)) YT.c rfl) (YT.var rfl rfl) (in_faL Fa.str (by decide) it.1 keys))) (fun hc m hm => ?_) (fun hc m hm => ?_) (fun m hm => ?_)
    · clear hr
      have hr := h_checks
      clear h_checks
      rw [if_pos hc] at hr
      replace hm : Sx [some (e_T2QT2SOWQQW deal), some (e_MS keys), some (e_MT3ISOW s), some (D.int k), some D.und] h m := hm
      obtain ⟨it1, h_it1, hr⟩ := bnd hr
      obtain ⟨checks1, h_checks1, hr⟩ := bnd hr
      refine run_ex hm (YM.appL (e := e_T3ISOW) (xs := s) (a := (k, it1.1, it1.2)) rfl rfl (YM.fz (YM.op2 (YM.tup (YA.v (YM.varP rfl rfl rfl) YA.nil) rfl (by simp)) (YM.qb (YT.ix (YT.ix (YT.var rfl rfl) YT.c rfl) (YT.var rfl rfl) (ix_Q h_it1))) (add_T rfl (puc rfl (pun)) (puc rfl (puc (pu_OW it1.2) (pun))) (by simp) rfl)) (fz_same rfl (pu_T3ISOW (k, it1.1, it1.2)))) rfl h_checks1) (fun m hm => ?_)
      replace hm : Sx [some (e_T2QT2SOWQQW deal), some (e_MS keys), some (e_MT3ISOW checks1), some (D.int k), some D.und] h m := hm
      obtain rfl := Option.some.inj hr
      exact run_end ⟨rfl, hm.wk (.keep (.keep (.keep (.keep (.keep Wk.nil)))))⟩
    · clear hr
      have hr := h_checks
      clear h_checks
      rw [if_neg (ne_t hc)] at hr
      replace hm : Sx [some (e_T2QT2SOWQQW deal), some (e_MS keys), some (e_MT3ISOW s), some (D.int k), some D.und] h m := hm
      refine run_pass ?_
      obtain rfl := Option.some.inj hr
      exact run_end ⟨rfl, hm.wk (.keep (.keep (.keep (.keep (.keep Wk.nil)))))⟩
    obtain rfl := Option.some.inj hr
    exact run_end ⟨.inl rfl, hm.wk (.keep (.keep (.keep (.drop (.keep Wk.nil)))))⟩
  refine run_asg hm (YM.lst YA.nil rfl (by decide)) (YG.name (i := 4) (d := D.lst true []) rfl) (fun m hm => ?_)
  replace hm : Sx [some (e_T2QT2SOWQQW deal), some (e_MS keys), some (e_MT3ISOW checks2), none, some (D.lst true [])] h m := hm
  obtain ⟨rg1, h_rg1, hr⟩ := bnd hr
  obtain ⟨deeds2, h_deeds2, hr⟩ := bnd hr
  refine run_for (p2 := [some (e_T2QT2SOWQQW deal), some (e_MS keys), some (e_MT3ISOW checks2), none, some (e_MT2IQW deeds2)]) (h2 := h) hm (YI.cast (YI.r1 (YA.qq (YL.cons (YT.cb (YL.cons (YT.ix (YT.var rfl rfl) YT.c rfl) YL.nil) len_Q rfl) YL.nil)) (.bor Ct.nil) (gd_some h_rg1).1) (congrArg (List.map D.int) (Option.some.inj (gd_some h_rg1).2))) (fun m hm => run_forS (P := fun (s1 : (List (Int × (List W)))) => [some (e_T2QT2SOWQQW deal), some (e_MS keys), some (e_MT3ISOW checks2), none, some (e_MT2IQW s1)]) (H := fun (s1 : (List (Int × (List W)))) => h) (enc := D.int) (fun _ _ _ => trivial) ?_ rg1 ([] : (List (Int × (List W)))) deeds2 h_deeds2 m (hm.wk (.keep (.keep (.keep (.drop (.cast (rfl) Wk.nil))))))) (fun m hm => ?_)
  · intro s1 k1 rr hr m hm
    unfold t_law_part_l2 at hr
    refine st_tg (YG.name (i := 3) (d := D.int k1) rfl) hm (fun m hm => ?_)
    replace hm : Sx [some (e_T2QT2SOWQQW deal), some (e_MS keys), some (e_MT3ISOW checks2), some (D.int k1), some (e_MT2IQW s1)] h m := hm
    refine run_last ?_
    obtain ⟨it2, h_it2, hr⟩ := bnd hr
    obtain ⟨it3, h_it3, hr⟩ := bnd hr
    obtain ⟨deeds, h_deeds, hr⟩ := bnd hr
    refine run_ifj (p1 := [some (e_T2QT2SOWQQW deal), some (e_MS keys), some (e_MT3ISOW checks2), some (D.int k1), some (e_MT2IQW deeds)]) (h1 := h) hm (YB.bb (YM.opQ (YT.ix (YT.ix (YT.ix (YT.var rfl rfl) YT.c rfl) (YT.var rfl rfl) (ix_Q h_it2)) YT.c (ix_Q h_it3)) (YT.cast (YT.var rfl rfl) (cmap_L (e := D.str) (f := e_W) (g := fun z => (W.str z)) (fun z => rfl) keys)) (in_faL Fa.W (by decide) it3 (keys.map fun z => (W.str z))))) (fun hc m hm => ?_) (fun hc m hm => ?_) (fun m hm => ?_)
    · clear hr
      have hr := h_deeds
      clear h_deeds
      rw [if_pos hc] at hr
      replace hm : Sx [some (e_T2QT2SOWQQW deal), some (e_MS keys), some (e_MT3ISOW checks2), some (D.int k1), some (e_MT2IQW s1)] h m := hm
      obtain ⟨it4, h_it4, hr⟩ := bnd hr
      obtain ⟨deeds1, h_deeds1, hr⟩ := bnd hr
      refine run_ex hm (YM.appL (e := e_T2IQW) (xs := s1) (a := (k1, it4)) rfl rfl (YM.tup (YA.v (YM.varP rfl rfl rfl) (YA.v (YM.pp (YT.ix (YT.ix (YT.var rfl rfl) YT.c rfl) (YT.var rfl rfl) (ix_Q h_it4)) (pu_QW it4)) YA.nil)) rfl (by simp)) rfl h_deeds1) (fun m hm => ?_)
      replace hm : Sx [some (e_T2QT2SOWQQW deal), some (e_MS keys), some (e_MT3ISOW checks2), some (D.int k1), some (e_MT2IQW deeds1)] h m := hm
      obtain rfl := Option.some.inj hr
      exact run_end ⟨rfl, hm.wk (.keep (.keep (.keep (.keep (.keep Wk.nil)))))⟩
    · clear hr
      have hr := h_deeds
      clear h_deeds
      rw [if_neg (ne_t hc)] at hr
      replace hm : Sx [some (e_T2QT2SOWQQW deal), some (e_MS keys), some (e_MT3ISOW checks2), some (D.int k1), some (e_MT2IQW s1)] h m := hm
      refine run_pass ?_
      obtain rfl := Option.some.inj hr
      exact run_end ⟨rfl, hm.wk (.keep (.keep (.keep (.keep (.keep Wk.nil)))))⟩
    obtain rfl := Option.some.inj hr
    exact run_end ⟨.inl rfl, hm.wk (.keep (.keep (.keep (.drop (.keep Wk.nil)))))⟩
  refine run_last ?_
  obtain rfl := Option.some.inj hr
  exact run_rt hm (YM.tup (YA.v (YM.cb (YA.n rfl rfl YA.nil) (.nam rfl rfl Ct.nil) (tuple_L pu_T3ISOW)) (YA.v (YM.cb (YA.n rfl rfl YA.nil) (.nam rfl rfl Ct.nil) (tuple_L pu_T2IQW)) YA.nil)) rfl (by simp)) (fun m hm => ⟨rfl, (Out.pin rfl rfl (Out.pin rfl rfl (Out.nil))).eq hm.e, hm.h⟩)

noncomputable def t_part_of_c1 (keys : (List Str)) (atx2 : (Int × (List W))) : Option (Option (Int × (List W))) :=
  (atI atx2.2 (1 : Int)).bind fun it1 =>
  if memB it1 (keys.map fun z => (W.str z)) = true then
  some (some (atx2.1, atx2.2))
  else some none
noncomputable def t_part_of (deal : ((List (Str × (Option W))) × (List (List W)))) (keys : (List Str)) : Option ((List (Int × Str × (Option W))) × (List (Int × (List W)))) :=
  (lcT (fun atx => memB atx.2.1 keys) (fun atx => (atx.1, atx.2.1, atx.2.2)) (enumI deal.1)).bind fun checks =>
  (lcOg (t_part_of_c1 keys) (enumI deal.2)).bind fun deeds =>
  some (checks, deeds)
abbrev q_part_of (deal : ((List (Str × (Option W))) × (List (List W)))) (keys : (List Str)) (h : List Ob) : ((List (Int × Str × (Option W))) × (List (Int × (List W)))) → Fl → Mem → Prop := fun r => FP (e_T2QT3ISOWQT2IQW r) [0, 1] [e_T2QT2SOWQQW deal, e_MS keys] [e_T2QT2SOWQQW deal, e_MS keys] h
theorem y_part_of (deal : ((List (Str × (Option W))) × (List (List W)))) (keys : (List Str)) (h : List Ob) (r : ((List (Int × Str × (Option W))) × (List (Int × (List W))))) (hr : t_part_of deal keys = some r) : m_part_of [e_T2QT2SOWQQW deal, e_MS keys] h = .ok (e_T2QT3ISOWQT2IQW r, [e_T2QT2SOWQQW deal, e_MS keys], h) := by
  unfold t_part_of at hr
  unfold m_part_of
  refine run_def rfl rfl (fun m hm => ?_)
  show Run _ m (q_part_of deal keys h r)
  replace hm : Sx [some (e_T2QT2SOWQQW deal), some (e_MS keys), some D.und, some D.und, some D.und, some D.und, some D.und, some D.und] h m := hm
  obtain ⟨checks, h_checks, hr⟩ := bnd hr
  refine run_asg hm (YM.lcT (enc := e_T2IT2SOW) (eb := e_T3ISOW) (pL := [some (e_T2QT2SOWQQW deal), some (e_MS keys), some D.und, some D.und, some D.und, some D.und, some D.und, some D.und]) (pG := fun atx => [some (e_T2QT2SOWQQW deal), some (e_MS keys), some D.und, some (D.int atx.1), some (D.str atx.2.1), some (e_OW atx.2.2), some D.und, some D.und]) (pC := fun atx => [some (e_T2QT2SOWQQW deal), some (e_MS keys), some D.und, some (D.int atx.1), some (D.str atx.2.1), some (e_OW atx.2.2), some D.und, some D.und]) (pE := fun atx => [some (e_T2QT2SOWQQW deal), some (e_MS keys), some D.und, some (D.int atx.1), some (D.str atx.2.1), some (e_OW atx.2.2), some D.und, some D.und]) (YI.or1 (YI.cast (YI.enT (YT.ix (YT.var rfl rfl) YT.c rfl) (puM pu_T2SOW _)) (enum_map deal.1))) rfl rfl (fun _ _ => trivial) (fun atx => YG.tlT rfl (YG.cons (YG.name (i := 3) (d := D.int atx.1) rfl) (YG.cons (YG.tlT rfl (YG.cons (YG.name (i := 4) (d := D.str atx.2.1) rfl) (YG.cons (YG.name (i := 5) (d := e_OW atx.2.2) rfl) YG.nil))) YG.nil))) (fun atx => YB.bb (YM.opQ (YT.var rfl rfl) (YT.var rfl rfl) (in_faL Fa.str (by decide) atx.2.1 keys))) (fun atx _ => YM.fz (YM.tup (YA.v (YM.varP rfl rfl rfl) (YA.v (YM.varP rfl rfl rfl) (YA.v (YM.varP rfl (deP (pu_OW atx.2.2)) (pu_OW atx.2.2)) YA.nil))) rfl (by simp)) (fz_same rfl (pu_T3ISOW (atx.1, atx.2.1, atx.2.2)))) (fun _ => rfl) (fun _ => rfl) h_checks) (YG.name (i := 2) (d := e_MT3ISOW checks) rfl) (fun m hm => ?_)
  replace hm : Sx [some (e_T2QT2SOWQQW deal), some (e_MS keys), some (e_MT3ISOW checks), some D.und, some D.und, some D.und, some D.und, some D.und] h m := hm
  obtain ⟨deeds, h_deeds, hr⟩ := bnd hr
  refine run_asg hm (YM.lcO (enc := e_T2IQW) (eb := e_T2IQW) (pL := [some (e_T2QT2SOWQQW deal), some (e_MS keys), some (e_MT3ISOW checks), some D.und, some D.und, some D.und, some D.und, some D.und]) (YI.or1 (YI.cast (YI.enT (YT.ix (YT.var rfl rfl) YT.c rfl) (puM pu_QW _)) (enum_map deal.2))) rfl rfl (fun _ _ => trivial) (fun atx2 r hr m hm => by
    unfold t_part_of_c1 at hr
    obtain ⟨it1, h_it1, hr⟩ := bnd hr
    refine lc_st (YG.tlT rfl (YG.cons (YG.name (i := 3) (d := D.int atx2.1) rfl) (YG.cons (YG.name (i := 7) (d := e_QW atx2.2) rfl) YG.nil))) (YB.bb (YM.opQ (YT.ix (YT.var rfl rfl) YT.c (ix_Q h_it1)) (YT.cast (YT.var rfl rfl) (cmap_L (e := D.str) (f := e_W) (g := fun z => (W.str z)) (fun z => rfl) keys)) (in_faL Fa.W (by decide) it1 (keys.map fun z => (W.str z))))) hm (fun m hm => ?_)
    by_cases hc : (memB it1 (keys.map fun z => (W.str z))) = true
    · rw [if_pos hc] at hr
      obtain rfl := Option.some.inj hr
      exact lc_el hm hc (YM.fz (YM.tup (YA.v (YM.varP rfl rfl rfl) (YA.v (YM.varP rfl rfl (pu_QW atx2.2)) YA.nil)) rfl (by simp)) (fz_same rfl (pu_T2IQW (atx2.1, atx2.2)))) (.keep (.keep (.keep (.keep (.keep (.keep (.keep (.keep Wk.nil)))))))) rfl
    · rw [if_neg hc] at hr
      obtain rfl := Option.some.inj hr
      exact lc_no hm (Bool.eq_false_iff.mpr hc) (.keep (.keep (.keep (.keep (.keep (.keep (.keep (.keep Wk.nil)))))))) rfl) h_deeds) (YG.name (i := 6) (d := e_MT2IQW deeds) rfl) (fun m hm => ?_)
  replace hm : Sx [some (e_T2QT2SOWQQW deal), some (e_MS keys), some (e_MT3ISOW checks), some D.und, some D.und, some D.und, some (e_MT2IQW deeds), some D.und] h m := hm
  refine run_last ?_
  obtain rfl := Option.some.inj hr
  exact run_rt hm (YM.tup (YA.v (YM.cb (YA.n rfl rfl YA.nil) (.nam rfl rfl Ct.nil) (tuple_L pu_T3ISOW)) (YA.v (YM.cb (YA.n rfl rfl YA.nil) (.nam rfl rfl Ct.nil) (tuple_L pu_T2IQW)) YA.nil)) rfl (by simp)) (fun m hm => ⟨rfl, (Out.pin rfl rfl (Out.pin rfl rfl (Out.nil))).eq hm.e, hm.h⟩)

noncomputable def t_law_is_pair (data : ((List (Int × Str × (Option W))) × (List (Int × (List W))))) : Option Bool :=
  if ((!true) || (!decide ((2 : Int) = (2 : Int)))) = true then
    some false
  else
    some (true && true)
abbrev q_law_is_pair (data : ((List (Int × Str × (Option W))) × (List (Int × (List W))))) (h : List Ob) : Bool → Fl → Mem → Prop := fun r => FP (D.bl r) [0] [e_T2QT3ISOWQT2IQW data] [e_T2QT3ISOWQT2IQW data] h
theorem y_law_is_pair (data : ((List (Int × Str × (Option W))) × (List (Int × (List W))))) (h : List Ob) (r : Bool) (hr : t_law_is_pair data = some r) : m_law_is_pair [e_T2QT3ISOWQT2IQW data] h = .ok (D.bl r, [e_T2QT3ISOWQT2IQW data], h) := by
  unfold t_law_is_pair at hr
  unfold m_law_is_pair
  refine run_def rfl rfl (fun m hm => ?_)
  show Run _ m (q_law_is_pair data h r)
  replace hm : Sx [some (e_T2QT3ISOWQT2IQW data)] h m := hm
  refine run_if hm (YB.orT (YB.not (YB.v (YM.qb (YT.cb (YL.cons (YT.var rfl rfl) (YL.cons YT.c YL.nil)) (isi_k (k := "tuple") (n := "tuple") (b := true) rfl (by decide +kernel)) rfl)) rfl)) (YB.bb (YM.opQ (YT.cb (YL.cons (YT.var rfl rfl) YL.nil) rfl rfl) YT.c (ne_fa Fa.int (by decide) (2 : Int) (2 : Int))))) (fun hc m hm => ?_) (fun hc m hm => ?_)
  · rw [if_pos hc] at hr
    replace hm : Sx [some (e_T2QT3ISOWQT2IQW data)] h m := hm
    obtain rfl := Option.some.inj hr
    exact run_rt hm (YM.pp YT.c rfl) (fun m hm => ⟨rfl, (Out.pin rfl rfl (Out.nil)).eq hm.e, hm.h⟩)
  · rw [if_neg (ne_t hc)] at hr
    replace hm : Sx [some (e_T2QT3ISOWQT2IQW data)] h m := hm
    refine run_pass ?_
    refine run_last ?_
    obtain rfl := Option.some.inj hr
    exact run_rt hm (YM.andT (YM.pp (YT.cb (YL.cons (YT.ix (YT.var rfl rfl) YT.c rfl) (YL.cons YT.c YL.nil)) (isi_k (k := "tuple") (n := "tuple") (b := true) rfl (by decide +kernel)) rfl) rfl) (YM.pp (YT.cb (YL.cons (YT.ix (YT.var rfl rfl) YT.c rfl) (YL.cons YT.c YL.nil)) (isi_k (k := "tuple") (n := "tuple") (b := true) rfl (by decide +kernel)) rfl) rfl)) (fun m hm => ⟨rfl, (Out.pin rfl rfl (Out.nil)).eq hm.e, hm.h⟩)

noncomputable def t_part_of_v2_c1 (keys : (List Str)) (atx2 : (Int × (List W))) : Option (Option (Int × (List W))) :=
  (atI atx2.2 (1 : Int)).bind fun it1 =>
  if memB it1 (keys.map fun z => (W.str z)) = true then
  some (some (atx2.1, atx2.2))
  else some none
noncomputable def t_part_of_v2 (deal : ((List (Str × (Option W))) × (List (List W)))) (keys : (List Str)) : Option ((List (Int × Str × (Option W))) × (List (Int × (List W)))) :=
  (lcT (fun atx => memB atx.2.1 keys) (fun atx => (atx.1, atx.2.1, atx.2.2)) (enumI deal.1)).bind fun checks =>
  (lcOg (t_part_of_v2_c1 keys) (enumI deal.2)).bind fun deeds =>
  some (checks, deeds)
abbrev q_part_of_v2 (deal : ((List (Str × (Option W))) × (List (List W)))) (keys : (List Str)) (h : List Ob) : ((List (Int × Str × (Option W))) × (List (Int × (List W)))) → Fl → Mem → Prop := fun r => FP (e_T2QT3ISOWQT2IQW r) [0, 1] [e_T2QT2SOWQQW deal, e_QS keys] [e_T2QT2SOWQQW deal, e_QS keys] h
theorem y_part_of_v2 (deal : ((List (Str × (Option W))) × (List (List W)))) (keys : (List Str)) (h : List Ob) (r : ((List (Int × Str × (Option W))) × (List (Int × (List W))))) (hr : t_part_of_v2 deal keys = some r) : m_part_of [e_T2QT2SOWQQW deal, e_QS keys] h = .ok (e_T2QT3ISOWQT2IQW r, [e_T2QT2SOWQQW deal, e_QS keys], h) := by
  unfold t_part_of_v2 at hr
  unfold m_part_of
  refine run_def rfl rfl (fun m hm => ?_)
  show Run _ m (q_part_of_v2 deal keys h r)
  replace hm : Sx [some (e_T2QT2SOWQQW deal), some (e_QS keys), some D.und, some D.und, some D.und, some D.und, some D.und, some D.und] h m := hm
  obtain ⟨checks, h_checks, hr⟩ := bnd hr
  refine run_asg hm (YM.lcT (enc := e_T2IT2SOW) (eb := e_T3ISOW) (pL := [some (e_T2QT2SOWQQW deal), some (e_QS keys), some D.und, some D.und, some D.und, some D.und, some D.und, some D.und]) (pG := fun atx => [some (e_T2QT2SOWQQW deal), some (e_QS keys), some D.und, some (D.int atx.1), some (D.str atx.2.1), some (e_OW atx.2.2), some D.und, some D.und]) (pC := fun atx => [some (e_T2QT2SOWQQW deal), some (e_QS keys), some D.und, some (D.int atx.1), some (D.str atx.2.1), some (e_OW atx.2.2), some D.und, some D.und]) (pE := fun atx => [some (e_T2QT2SOWQQW deal), some (e_QS keys), some D.und, some (D.int atx.1), some (D.str atx.2.1), some (e_OW atx.2.2), some D.und, some D.und]) (YI.or1 (YI.cast (YI.enT (YT.ix (YT.var rfl rfl) YT.c rfl) (puM pu_T2SOW _)) (enum_map deal.1))) rfl rfl (fun _ _ => trivial) (fun atx => YG.tlT rfl (YG.cons (YG.name (i := 3) (d := D.int atx.1) rfl) (YG.cons (YG.tlT rfl (YG.cons (YG.name (i := 4) (d := D.str atx.2.1) rfl) (YG.cons (YG.name (i := 5) (d := e_OW atx.2.2) rfl) YG.nil))) YG.nil))) (fun atx => YB.bb (YM.opQ (YT.var rfl rfl) (YT.var rfl rfl) (in_faQ Fa.str (by decide) atx.2.1 keys))) (fun atx _ => YM.fz (YM.tup (YA.v (YM.varP rfl rfl rfl) (YA.v (YM.varP rfl rfl rfl) (YA.v (YM.varP rfl (deP (pu_OW atx.2.2)) (pu_OW atx.2.2)) YA.nil))) rfl (by simp)) (fz_same rfl (pu_T3ISOW (atx.1, atx.2.1, atx.2.2)))) (fun _ => rfl) (fun _ => rfl) h_checks) (YG.name (i := 2) (d := e_MT3ISOW checks) rfl) (fun m hm => ?_)
  replace hm : Sx [some (e_T2QT2SOWQQW deal), some (e_QS keys), some (e_MT3ISOW checks), some D.und, some D.und, some D.und, some D.und, some D.und] h m := hm
  obtain ⟨deeds, h_deeds, hr⟩ := bnd hr
  refine run_asg hm (YM.lcO (enc := e_T2IQW) (eb := e_T2IQW) (pL := [some (e_T2QT2SOWQQW deal), some (e_QS keys), some (e_MT3ISOW checks), some D.und, some D.und, some D.und, some D.und, some D.und]) (YI.or1 (YI.cast (YI.enT (YT.ix (YT.var rfl rfl) YT.c rfl) (puM pu_QW _)) (enum_map deal.2))) rfl rfl (fun _ _ => trivial) (fun atx2 r hr m hm => by
    unfold t_part_of_v2_c1 at hr
    obtain ⟨it1, h_it1, hr⟩ := bnd hr
    refine lc_st (YG.tlT rfl (YG.cons (YG.name (i := 3) (d := D.int atx2.1) rfl) (YG.cons (YG.name (i := 7) (d := e_QW atx2.2) rfl) YG.nil))) (YB.bb (YM.opQ (YT.ix (YT.var rfl rfl) YT.c (ix_Q h_it1)) (YT.cast (YT.var rfl rfl) (cmap_Q (e := D.str) (f := e_W) (g := fun z => (W.str z)) (fun z => rfl) keys)) (in_faQ Fa.W (by decide) it1 (keys.map fun z => (W.str z))))) hm (fun m hm => ?_)
    by_cases hc : (memB it1 (keys.map fun z => (W.str z))) = true
    · rw [if_pos hc] at hr
      obtain rfl := Option.some.inj hr
      exact lc_el hm hc (YM.fz (YM.tup (YA.v (YM.varP rfl rfl rfl) (YA.v (YM.varP rfl rfl (pu_QW atx2.2)) YA.nil)) rfl (by simp)) (fz_same rfl (pu_T2IQW (atx2.1, atx2.2)))) (.keep (.keep (.keep (.keep (.keep (.keep (.keep (.keep Wk.nil)))))))) rfl
    · rw [if_neg hc] at hr
      obtain rfl := Option.some.inj hr
      exact lc_no hm (Bool.eq_false_iff.mpr hc) (.keep (.keep (.keep (.keep (.keep (.keep (.keep (.keep Wk.nil)))))))) rfl) h_deeds) (YG.name (i := 6) (d := e_MT2IQW deeds) rfl) (fun m hm => ?_)
  replace hm : Sx [some (e_T2QT2SOWQQW deal), some (e_QS keys), some (e_MT3ISOW checks), some D.und, some D.und, some D.und, some (e_MT2IQW deeds), some D.und] h m := hm
  refine run_last ?_
  obtain rfl := Option.some.inj hr
  exact run_rt hm (YM.tup (YA.v (YM.cb (YA.n rfl rfl YA.nil) (.nam rfl rfl Ct.nil) (tuple_L pu_T3ISOW)) (YA.v (YM.cb (YA.n rfl rfl YA.nil) (.nam rfl rfl Ct.nil) (tuple_L pu_T2IQW)) YA.nil)) rfl (by simp)) (fun m hm => ⟨rfl, (Out.pin rfl rfl (Out.pin rfl rfl (Out.nil))).eq hm.e, hm.h⟩)

noncomputable def t_keys_of_part_c1 (atx2 : (Int × (List W))) : Option (Option W) :=
  (atI atx2.2 (1 : Int)).bind fun it1 =>
  some (some it1)
noncomputable def t_keys_of_part (part : ((List (Int × Str × (Option W))) × (List (Int × (List W))))) : Option (List Str) :=
  (lcT (fun atx => true) (fun atx => atx.2.1) part.1).bind fun lc =>
  (lcOg t_keys_of_part_c1 part.2).bind fun lc1 =>
  (catO (lc.map fun z => (W.str z)) lc1).bind fun named =>
  (lcT (fun key => true) (fun key => key) named).bind fun lc2 =>
  (invO e_MS (e_MW lc2)).bind fun as =>
  (srtXO as).bind fun srt =>
  some srt
abbrev q_keys_of_part (part : ((List (Int × Str × (Option W))) × (List (Int × (List W))))) (h : List Ob) : (List Str) → Fl → Mem → Prop := fun r => FP (e_QS r) [0] [e_T2QT3ISOWQT2IQW part] [e_T2QT3ISOWQT2IQW part] h
theorem y_keys_of_part (part : ((List (Int × Str × (Option W))) × (List (Int × (List W))))) (h : List Ob) (r : (List Str)) (hr : t_keys_of_part part = some r) : m_keys_of_part [e_T2QT3ISOWQT2IQW part] h = .ok (e_QS r, [e_T2QT3ISOWQT2IQW part], h) := by
  unfold t_keys_of_part at hr
  unfold m_keys_of_part
  refine run_def rfl rfl (fun m hm => ?_)
  show Run _ m (q_keys_of_part part h r)
  replace hm : Sx [some (e_T2QT3ISOWQT2IQW part), some D.und, some D.und, some D.und, some D.und, some D.und] h m := hm
  obtain ⟨lc, h_lc, hr⟩ := bnd hr
  obtain ⟨lc1, h_lc1, hr⟩ := bnd hr
  obtain ⟨named, h_named, hr⟩ := bnd hr
  refine run_asg hm (YM.op2 (YM.cast (YM.lcT (enc := e_T3ISOW) (eb := D.str) (pL := [some (e_T2QT3ISOWQT2IQW part), some D.und, some D.und, some D.und, some D.und, some D.und]) (pG := fun atx => [some (e_T2QT3ISOWQT2IQW part), some D.und, some (D.int atx.1), some (D.str atx.2.1), some (e_OW atx.2.2), some D.und]) (pC := fun atx => [some (e_T2QT3ISOWQT2IQW part), some D.und, some (D.int atx.1), some (D.str atx.2.1), some (e_OW atx.2.2), some D.und]) (pE := fun atx => [some (e_T2QT3ISOWQT2IQW part), some D.und, some (D.int atx.1), some (D.str atx.2.1), some (e_OW atx.2.2), some D.und]) (YI.vT (YM.pp (YT.ix (YT.var rfl rfl) YT.c rfl) (pu_QT3ISOW part.1)) (puM pu_T3ISOW _)) rfl rfl (fun _ _ => trivial) (fun atx => YG.tlT rfl (YG.cons (YG.name (i := 2) (d := D.int atx.1) rfl) (YG.cons (YG.name (i := 3) (d := D.str atx.2.1) rfl) (YG.cons (YG.name (i := 4) (d := e_OW atx.2.2) rfl) YG.nil)))) (fun atx => YB.yes) (fun atx _ => YM.varP rfl rfl rfl) (fun _ => rfl) (fun _ => rfl) h_lc) (cmap_L (e := D.str) (f := e_W) (g := fun z => (W.str z)) (fun z => rfl) lc)) (YM.lcO (enc := e_T2IQW) (eb := e_W) (pL := [some (e_T2QT3ISOWQT2IQW part), some D.und, some D.und, some D.und, some D.und, some D.und]) (YI.vT (YM.pp (YT.ix (YT.var rfl rfl) YT.c rfl) (pu_QT2IQW part.2)) (puM pu_T2IQW _)) rfl rfl (fun _ _ => trivial) (fun atx2 r hr m hm => by
    unfold t_keys_of_part_c1 at hr
    refine lc_st (YG.tlT rfl (YG.cons (YG.name (i := 2) (d := D.int atx2.1) rfl) (YG.cons (YG.name (i := 5) (d := e_QW atx2.2) rfl) YG.nil))) (YB.yes) hm (fun m hm => ?_)
    obtain ⟨it1, h_it1, hr⟩ := bnd hr
    obtain rfl := Option.some.inj hr
    exact lc_el hm rfl (YM.pp (YT.ix (YT.var rfl rfl) YT.c (ix_Q h_it1)) (pu_W it1)) (.keep (.keep (.keep (.keep (.keep (.keep Wk.nil)))))) rfl) h_lc1) (cat_L pu_W h_named)) (YG.name (i := 1) (d := e_MW named) rfl) (fun m hm => ?_)
  replace hm : Sx [some (e_T2QT3ISOWQT2IQW part), some (e_MW named), some D.und, some D.und, some D.und, some D.und] h m := hm
  refine run_last ?_
  obtain ⟨lc2, h_lc2, hr⟩ := bnd hr
  obtain ⟨as, h_as, hr⟩ := bnd hr
  obtain ⟨srt, h_srt, hr⟩ := bnd hr
  obtain rfl := Option.some.inj hr
  exact run_rt hm (YM.cb (YA.v (YM.srtS (YM.cast (YM.lcT (enc := e_W) (eb := e_W) (pL := [some (e_T2QT3ISOWQT2IQW part), some (e_MW named), some D.und, some D.und, some D.und, some D.und]) (pG := fun key => [some (e_T2QT3ISOWQT2IQW part), some (e_MW named), some D.und, some (e_W key), some D.und, some D.und]) (pC := fun key => [some (e_T2QT3ISOWQT2IQW part), some (e_MW named), some D.und, some (e_W key), some D.und, some D.und]) (pE := fun key => [some (e_T2QT3ISOWQT2IQW part), some (e_MW named), some D.und, some (e_W key), some D.und, some D.und]) (YI.nL rfl (puM pu_W _)) rfl rfl (fun m hm => hm.e.get rfl) (fun key => YG.name (i := 3) (d := e_W key) rfl) (fun key => YB.yes) (fun key _ => YM.varP rfl (deP (pu_W key)) (pu_W key)) (fun _ => rfl) (fun _ => rfl) h_lc2) (invO_some h_as).symm) h_srt) YA.nil) (.val Ct.nil) (tuple_L (fun _ => rfl))) (fun m hm => ⟨rfl, (Out.pin rfl rfl (Out.nil)).eq hm.e, hm.h⟩)

noncomputable def t_law_l1 (script : (List Int)) (keys : (List Str)) (k : Int) (s1 : (List Str)) (j : Int) : Option (List Str) :=
  (t_law_row script ((70 : Int) + k)).bind fun o_row3 =>
  (fdivO o_row3 (j + (1 : Int))).bind fun quot =>
  (if decide ((quot % (2 : Int)) = (0 : Int)) = true then
    (atI keys j).bind fun it =>
    (insO s1 (j % (2 : Int)) it).bind fun chosen2 =>
    some chosen2
  else
    some s1).bind fun chosen1 =>
  some chosen1
noncomputable def t_law_c2 (pair1 : (Int × (List W))) : Option (Option W) :=
  (atI pair1.2 (1 : Int)).bind fun it2 =>
  some (some it2)
noncomputable def t_law_l3 (script : (List Int)) (keys : (List Str)) (o_rows : (Nat × (List Ob))) (s : (List Ob)) (k : Int) : Option (Ex (Bool × (List Ob)) (List Ob)) :=
  (t_law_row script ((20 : Int) + k)).bind fun o_row =>
  (t_law_row script ((40 : Int) + k)).bind fun o_row1 =>
  (t_law_deal keys o_rows.1 o_row o_row1 s).bind fun o_deal =>
  (t_law_row script ((55 : Int) + k)).bind fun o_row2 =>
  (t_law_key o_row2 (8 : Int)).bind fun o_key =>
  (some [("zz" : Str), o_key]).bind fun chosen =>
  (gd ((-4611686018427387904 ≤ (keys.length : Int) ∧ (keys.length : Int) < 4611686018427387904)) (some (rangeI 0 (keys.length : Int)))).bind fun rg =>
  (forS (t_law_l1 script keys k) rg chosen).bind fun chosen3 =>
  (t_law_part o_deal.1 chosen3).bind fun due =>
  (t_part_of o_deal.1 chosen3).bind fun told =>
  (t_law_is_pair told).bind fun o_pair =>
  if ((!o_pair) || ((!decide (told = due)) || (!decide (chosen3 = chosen3)))) = true then
    some (.rt (false, o_deal.2))
  else
    (t_part_of_v2 o_deal.1 chosen3).bind fun o_of1 =>
    (if (!decide (o_of1 = due)) = true then
    some true
    else
    (t_part_of o_deal.1 ([] : (List Str))).bind fun o_of2 =>
    some (!decide (o_of2 = (([] : (List (Int × Str × (Option W)))), ([] : (List (Int × (List W)))))))).bind fun either =>
    if either = true then
      some (.rt (false, o_deal.2))
    else
      (lcT (fun check => true) (fun check => check.2.1) due.1).bind fun lc =>
      (lcOg t_law_c2 due.2).bind fun lc1 =>
      (catO (lc.map fun z => (W.str z)) lc1).bind fun named =>
      (t_keys_of_part told).bind fun names =>
      (if (!true) = true then
      some true
      else
      (lcT (fun key => memB (W.str key) named) (fun key => key) keys).bind fun lc2 =>
      (srtSO lc2).bind fun srt =>
      some (!decide (names = srt))).bind fun either1 =>
      if either1 = true then
        some (.rt (false, o_deal.2))
      else
        some (.go o_deal.2)
noncomputable def t_law (script : (List Int)) (h : List Ob) : Option (Bool × (List Ob)) :=
  (t_law_keys script (0 : Int) (8 : Int)).bind fun keys =>
  (t_law_rows script (10 : Int) keys h).bind fun o_rows =>
  (forE (t_law_l3 script keys o_rows) (rangeI 0 (12 : Int)) o_rows.2).bind (Rs.elim (fun hp =>
    (t_keys_of_part (([] : (List (Int × Str × (Option W)))), ([] : (List (Int × (List W)))))).bind fun o_part2 =>
    some (decide (o_part2 = ([] : (List Str))), hp)) (fun r => some r))
abbrev q_law (script : (List Int)) (h : List Ob) : (Bool × (List Ob)) → Fl → Mem → Prop := fun r => FP (D.bl r.1) [0] [e_LI script] [e_LI script] r.2
theorem y_law (script : (List Int)) (h : List Ob) (r : (Bool × (List Ob))) (hr : t_law script h = some r) : m_law [e_LI script] h = .ok (D.bl r.1, [e_LI script], r.2) := by
  unfold t_law at hr
  unfold m_law
  refine run_def rfl rfl (fun m hm => ?_)
  show Run _ m (q_law script h r)
  replace hm : Sx [some (e_LI script), some D.und, some D.und, some D.und, some D.und, some D.und, some D.und, some D.und, some D.und, some D.und, some D.und, some D.und, some D.und, some D.und, some D.und] h m := hm
  obtain ⟨keys, h_keys, hr⟩ := bnd hr
  refine run_asg hm (YM.call (YA.n rfl rfl (YA.qq (YL.cons YT.c (YL.cons YT.c YL.nil)))) (.namP rfl rfl (pu_LI script) (.bor rfl (.bor rfl Gr.nil))) (y_law_keys script (0 : Int) (8 : Int) _ _ h_keys) rfl) (YG.name (i := 1) (d := e_MS keys) rfl) (fun m hm => ?_)
  replace hm : Sx [some (e_LI script), some (e_MS keys), some D.und, some D.und, some D.und, some D.und, some D.und, some D.und, some D.und, some D.und, some D.und, some D.und, some D.und, some D.und, some D.und] h m := hm
  obtain ⟨o_rows, h_o_rows, hr⟩ := bnd hr
  refine run_asg hm (YM.call (YA.n rfl rfl (YA.v (YM.pp YT.c rfl) (YA.n rfl rfl YA.nil))) (.namP rfl rfl (pu_LI script) (.val (.namM rfl rfl (np_MS keys) Gr.nil))) (y_law_rows script (10 : Int) keys _ _ h_o_rows) rfl) (YG.name (i := 2) (d := D.loc o_rows.1) rfl) (fun m hm => ?_)
  replace hm : Sx [some (e_LI script), some (e_MS keys), some (D.loc o_rows.1), some D.und, some D.und, some D.und, some D.und, some D.und, some D.und, some D.und, some D.und, some D.und, some D.und, some D.und, some D.und] o_rows.2 m := hm
  obtain ⟨ex, h_hp, hr⟩ := bnd hr
  refine run_forX (P := fun (s : (List Ob)) => [some (e_LI script), some (e_MS keys), some (D.loc o_rows.1), none, none, none, none, none, none, none, none, some D.und, some D.und, none, some D.und]) (H := fun (s : (List Ob)) => s) (PR := q_law script h) (e := ex) hm (YI.r1 (YA.qq (YL.cons YT.c YL.nil)) (.bor Ct.nil) (by decide)) (fun m hm => run_forE (enc := D.int) (fun _ _ _ => trivial) ?_ (rangeI 0 (12 : Int)) o_rows.2 ex h_hp m (hm.wk (.keep (.keep (.keep (.drop (.drop (.drop (.drop (.drop (.drop (.drop (.drop (.keep (.keep (.drop (.keep Wk.nil))))))))))))))))) ?_ ?_
  · intro s k rr hr m hm
    unfold t_law_l3 at hr
    refine st_tg (YG.name (i := 3) (d := D.int k) rfl) hm (fun m hm => ?_)
    replace hm : Sx [some (e_LI script), some (e_MS keys), some (D.loc o_rows.1), some (D.int k), none, none, none, none, none, none, none, some D.und, some D.und, none, some D.und] s m := hm
    obtain ⟨o_row, h_o_row, hr⟩ := bnd hr
    obtain ⟨o_row1, h_o_row1, hr⟩ := bnd hr
    obtain ⟨o_deal, h_o_deal, hr⟩ := bnd hr
    refine run_asg hm (YM.call (YA.n rfl rfl (YA.n rfl rfl (YA.v (YM.call (YA.n rfl rfl (YA.qq (YL.cons (YT.op2 YT.c (YT.var rfl rfl) rfl rfl) YL.nil))) (.namP rfl rfl (pu_LI script) (.bor rfl Gr.nil)) (y_law_row script ((20 : Int) + k) _ _ h_o_row) rfl) (YA.v (YM.call (YA.n rfl rfl (YA.qq (YL.cons (YT.op2 YT.c (YT.var rfl rfl) rfl rfl) YL.nil))) (.namP rfl rfl (pu_LI script) (.bor rfl Gr.nil)) (y_law_row script ((40 : Int) + k) _ _ h_o_row1) rfl) YA.nil)))) (.namM rfl rfl (np_MS keys) (.namP rfl rfl rfl (.val (.val Gr.nil)))) (y_law_deal keys o_rows.1 o_row o_row1 _ _ h_o_deal) rfl) (YG.name (i := 4) (d := e_T2QT2SOWQQW o_deal.1) rfl) (fun m hm => ?_)
    replace hm : Sx [some (e_LI script), some (e_MS keys), some (D.loc o_rows.1), some (D.int k), some (e_T2QT2SOWQQW o_deal.1), none, none, none, none, none, none, some D.und, some D.und, none, some D.und] o_deal.2 m := hm
    obtain ⟨o_row2, h_o_row2, hr⟩ := bnd hr
    obtain ⟨o_key, h_o_key, hr⟩ := bnd hr
    obtain ⟨chosen, h_chosen, hr⟩ := bnd hr
    refine run_asg hm (YM.cast (YM.cast (YM.lst (YA.v (YM.pp YT.c rfl) (YA.v (YM.fz (YM.call (YA.v (YM.call (YA.n rfl rfl (YA.qq (YL.cons (YT.op2 YT.c (YT.var rfl rfl) rfl rfl) YL.nil))) (.namP rfl rfl (pu_LI script) (.bor rfl Gr.nil)) (y_law_row script ((55 : Int) + k) _ _ h_o_row2) rfl) (YA.qq (YL.cons YT.c YL.nil))) (.val (.bor rfl Gr.nil)) (y_law_key o_row2 (8 : Int) _ _ h_o_key) rfl) (fz_same rfl rfl)) YA.nil)) rfl (by simp)) (show _ = e_MS [("zz" : Str), o_key] from by first | rfl | simp [e_V, Dat.toD, toDs])) (congrArg e_MS (Option.some.inj h_chosen))) (YG.name (i := 5) (d := e_MS chosen) rfl) (fun m hm => ?_)
    replace hm : Sx [some (e_LI script), some (e_MS keys), some (D.loc o_rows.1), some (D.int k), some (e_T2QT2SOWQQW o_deal.1), some (e_MS chosen), none, none, none, none, none, some D.und, some D.und, none, some D.und] o_deal.2 m := hm
    obtain ⟨rg, h_rg, hr⟩ := bnd hr
    obtain ⟨chosen3, h_chosen3, hr⟩ := bnd hr
    refine run_for (p2 := [some (e_LI script), some (e_MS keys), some (D.loc o_rows.1), some (D.int k), some (e_T2QT2SOWQQW o_deal.1), some (e_MS chosen3), none, none, none, none, none, some D.und, some D.und, none, some D.und]) (h2 := o_deal.2) hm (YI.cast (YI.r1 (YA.qq (YL.cons (YT.cb (YL.cons (YT.var rfl rfl) YL.nil) len_L rfl) YL.nil)) (.bor Ct.nil) (gd_some h_rg).1) (congrArg (List.map D.int) (Option.some.inj (gd_some h_rg).2))) (fun m hm => run_forS (P := fun (s1 : (List Str)) => [some (e_LI script), some (e_MS keys), some (D.loc o_rows.1), some (D.int k), some (e_T2QT2SOWQQW o_deal.1), some (e_MS s1), none, none, none, none, none, some D.und, some D.und, none, some D.und]) (H := fun (s1 : (List Str)) => o_deal.2) (enc := D.int) (fun _ _ _ => trivial) ?_ rg chosen chosen3 h_chosen3 m (hm.wk (.keep (.keep (.keep (.keep (.keep (.keep (.drop (.drop (.drop (.drop (.drop (.keep (.keep (.drop (.keep Wk.nil))))))))))))))))) (fun m hm => ?_)
    · intro s1 j rr hr m hm
      unfold t_law_l1 at hr
      refine st_tg (YG.name (i := 6) (d := D.int j) rfl) hm (fun m hm => ?_)
      replace hm : Sx [some (e_LI script), some (e_MS keys), some (D.loc o_rows.1), some (D.int k), some (e_T2QT2SOWQQW o_deal.1), some (e_MS s1), some (D.int j), none, none, none, none, some D.und, some D.und, none, some D.und] o_deal.2 m := hm
      refine run_last ?_
      obtain ⟨o_row3, h_o_row3, hr⟩ := bnd hr
      obtain ⟨quot, h_quot, hr⟩ := bnd hr
      obtain ⟨chosen1, h_chosen1, hr⟩ := bnd hr
      refine run_ifj (p1 := [some (e_LI script), some (e_MS keys), some (D.loc o_rows.1), some (D.int k), some (e_T2QT2SOWQQW o_deal.1), some (e_MS chosen1), some (D.int j), none, none, none, none, some D.und, some D.und, none, some D.und]) (h1 := o_deal.2) hm (YB.bb (YM.op2 (YM.op2 (YM.op2 (YM.cb (YA.v (YM.call (YA.n rfl rfl (YA.qq (YL.cons (YT.op2 YT.c (YT.var rfl rfl) rfl rfl) YL.nil))) (.namP rfl rfl (pu_LI script) (.bor rfl Gr.nil)) (y_law_row script ((70 : Int) + k) _ _ h_o_row3) rfl) YA.nil) (.val Ct.nil) rfl) (YM.qb (YT.op2 (YT.var rfl rfl) YT.c rfl rfl)) (fdiv_O h_quot)) (YM.qb YT.c) (mod_k (by decide))) (YM.qb YT.c) (eq_fa Fa.int (by decide) (quot % (2 : Int)) (0 : Int)))) (fun hc m hm => ?_) (fun hc m hm => ?_) (fun m hm => ?_)
      · clear hr
        have hr := h_chosen1
        clear h_chosen1
        rw [if_pos hc] at hr
        replace hm : Sx [some (e_LI script), some (e_MS keys), some (D.loc o_rows.1), some (D.int k), some (e_T2QT2SOWQQW o_deal.1), some (e_MS s1), some (D.int j), none, none, none, none, some D.und, some D.und, none, some D.und] o_deal.2 m := hm
        obtain ⟨it, h_it, hr⟩ := bnd hr
        obtain ⟨chosen2, h_chosen2, hr⟩ := bnd hr
        refine run_ex hm (YM.insN (e := D.str) (xs := s1) (a := it) rfl rfl (YM.opQ (YT.var rfl rfl) YT.c (mod_k (by decide))) (YM.pp (YT.ix (YT.var rfl rfl) (YT.var rfl rfl) (ix_L h_it)) rfl) rfl h_chosen2) (fun m hm => ?_)
        replace hm : Sx [some (e_LI script), some (e_MS keys), some (D.loc o_rows.1), some (D.int k), some (e_T2QT2SOWQQW o_deal.1), some (e_MS chosen2), some (D.int j), none, none, none, none, some D.und, some D.und, none, some D.und] o_deal.2 m := hm
        obtain rfl := Option.some.inj hr
        exact run_end ⟨rfl, hm.wk (.keep (.keep (.keep (.keep (.keep (.keep (.keep (.drop (.drop (.drop (.drop (.keep (.keep (.drop (.keep Wk.nil)))))))))))))))⟩
      · clear hr
        have hr := h_chosen1
        clear h_chosen1
        rw [if_neg (ne_t hc)] at hr
        replace hm : Sx [some (e_LI script), some (e_MS keys), some (D.loc o_rows.1), some (D.int k), some (e_T2QT2SOWQQW o_deal.1), some (e_MS s1), some (D.int j), none, none, none, none, some D.und, some D.und, none, some D.und] o_deal.2 m := hm
        refine run_pass ?_
        obtain rfl := Option.some.inj hr
        exact run_end ⟨rfl, hm.wk (.keep (.keep (.keep (.keep (.keep (.keep (.keep (.drop (.drop (.drop (.drop (.keep (.keep (.drop (.keep Wk.nil)))))))))))))))⟩
      obtain rfl := Option.some.inj hr
      exact run_end ⟨.inl rfl, hm.wk (.keep (.keep (.keep (.keep (.keep (.keep (.drop (.drop (.drop (.drop (.drop (.keep (.keep (.drop (.keep Wk.nil)))))))))))))))⟩
    obtain ⟨due, h_due, hr⟩ := bnd hr
    refine run_asg hm (YM.call (YA.n rfl rfl (YA.n rfl rfl YA.nil)) (.namP rfl rfl (pu_T2QT2SOWQQW o_deal.1) (.namM rfl rfl (np_MS chosen3) Gr.nil)) (y_law_part o_deal.1 chosen3 _ _ h_due) rfl) (YG.name (i := 7) (d := e_T2QT3ISOWQT2IQW due) rfl) (fun m hm => ?_)
    replace hm : Sx [some (e_LI script), some (e_MS keys), some (D.loc o_rows.1), some (D.int k), some (e_T2QT2SOWQQW o_deal.1), some (e_MS chosen3), none, some (e_T2QT3ISOWQT2IQW due), none, none, none, some D.und, some D.und, none, some D.und] o_deal.2 m := hm
    refine run_asg hm (YM.cb (YA.n rfl rfl YA.nil) (.nam rfl rfl Ct.nil) (list_L (fun _ => rfl))) (YG.name (i := 8) (d := e_MS chosen3) rfl) (fun m hm => ?_)
    replace hm : Sx [some (e_LI script), some (e_MS keys), some (D.loc o_rows.1), some (D.int k), some (e_T2QT2SOWQQW o_deal.1), some (e_MS chosen3), none, some (e_T2QT3ISOWQT2IQW due), some (e_MS chosen3), none, none, some D.und, some D.und, none, some D.und] o_deal.2 m := hm
    obtain ⟨told, h_told, hr⟩ := bnd hr
    refine run_asg hm (YM.call (YA.n rfl rfl (YA.n rfl rfl YA.nil)) (.namP rfl rfl (pu_T2QT2SOWQQW o_deal.1) (.namM rfl rfl (np_MS chosen3) Gr.nil)) (y_part_of o_deal.1 chosen3 _ _ h_told) rfl) (YG.name (i := 9) (d := e_T2QT3ISOWQT2IQW told) rfl) (fun m hm => ?_)
    replace hm : Sx [some (e_LI script), some (e_MS keys), some (D.loc o_rows.1), some (D.int k), some (e_T2QT2SOWQQW o_deal.1), some (e_MS chosen3), none, some (e_T2QT3ISOWQT2IQW due), some (e_MS chosen3), some (e_T2QT3ISOWQT2IQW told), none, some D.und, some D.und, none, some D.und] o_deal.2 m := hm
    obtain ⟨o_pair, h_o_pair, hr⟩ := bnd hr
    refine run_if hm (YB.orT (YB.not (YB.v (YM.call (YA.n rfl rfl YA.nil) (.namP rfl rfl (pu_T2QT3ISOWQT2IQW told) Gr.nil) (y_law_is_pair told _ _ h_o_pair) rfl) rfl)) (YB.orT (YB.bb (YM.opQ (YT.var rfl rfl) (YT.var rfl rfl) (ne_fa fa_T2QT3ISOWQT2IQW (by decide) told due))) (YB.bb (YM.opQ (YT.var rfl rfl) (YT.var rfl rfl) (ne_fa fa_MS (by decide) chosen3 chosen3))))) (fun hc m hm => ?_) (fun hc m hm => ?_)
    · rw [if_pos hc] at hr
      replace hm : Sx [some (e_LI script), some (e_MS keys), some (D.loc o_rows.1), some (D.int k), some (e_T2QT2SOWQQW o_deal.1), some (e_MS chosen3), none, some (e_T2QT3ISOWQT2IQW due), some (e_MS chosen3), some (e_T2QT3ISOWQT2IQW told), none, some D.und, some D.und, none, some D.und] o_deal.2 m := hm
      obtain rfl := Option.some.inj hr
      exact run_rt hm (YM.pp YT.c rfl) (fun m hm => ⟨⟨_, rfl⟩, ⟨rfl, (Out.pin rfl rfl (Out.nil)).eq hm.e, hm.h⟩⟩)
    · rw [if_neg (ne_t hc)] at hr
      replace hm : Sx [some (e_LI script), some (e_MS keys), some (D.loc o_rows.1), some (D.int k), some (e_T2QT2SOWQQW o_deal.1), some (e_MS chosen3), none, some (e_T2QT3ISOWQT2IQW due), some (e_MS chosen3), some (e_T2QT3ISOWQT2IQW told), none, some D.und, some D.und, none, some D.und] o_deal.2 m := hm
      refine run_pass ?_
      obtain ⟨o_of1, h_o_of1, hr⟩ := bnd hr
      obtain ⟨either, h_either, hr⟩ := bnd hr
      refine run_if hm (YB.or (y := either) (p' := [some (e_LI script), some (e_MS keys), some (D.loc o_rows.1), some (D.int k), some (e_T2QT2SOWQQW o_deal.1), some (e_MS chosen3), none, some (e_T2QT3ISOWQT2IQW due), some (e_MS chosen3), some (e_T2QT3ISOWQT2IQW told), none, some D.und, some D.und, none, some D.und]) (h' := o_deal.2) (YB.bb (YM.op2 (YM.call (YA.n rfl rfl (YA.v (YM.cb (YA.n rfl rfl YA.nil) (.nam rfl rfl Ct.nil) (tuple_L (fun _ => rfl))) YA.nil)) (.namP rfl rfl (pu_T2QT2SOWQQW o_deal.1) (.val Gr.nil)) (y_part_of_v2 o_deal.1 chosen3 _ _ h_o_of1) rfl) (YM.qb (YT.var rfl rfl)) (ne_fa fa_T2QT3ISOWQT2IQW (by decide) o_of1 due))) (fun hb => by rw [if_neg (ne_t hb)] at h_either; obtain ⟨o_of2, h_o_of2, h_either⟩ := bnd h_either; obtain rfl := Option.some.inj h_either; exact YB.bb (YM.op2 (YM.call (YA.n rfl rfl (YA.v (YM.lst YA.nil rfl (by decide)) YA.nil)) (.namP rfl rfl (pu_T2QT2SOWQQW o_deal.1) (.val Gr.nil)) (y_part_of o_deal.1 ([] : (List Str)) _ _ h_o_of2) rfl) (YM.tup (YA.v (YM.tup YA.nil rfl (by decide)) (YA.v (YM.tup YA.nil rfl (by decide)) YA.nil)) rfl (by simp)) (ne_fa fa_T2QT3ISOWQT2IQW (by decide) o_of2 (([] : (List (Int × Str × (Option W)))), ([] : (List (Int × (List W)))))))) (fun hb => by rw [if_pos hb] at h_either; obtain rfl := Option.some.inj h_either; exact ⟨rfl, rfl, (.keep (.keep (.keep (.keep (.keep (.keep (.drop (.keep (.keep (.keep (.drop (.keep (.keep (.drop (.keep Wk.nil)))))))))))))))⟩)) (fun hc m hm => ?_) (fun hc m hm => ?_)
      · rw [if_pos hc] at hr
        replace hm : Sx [some (e_LI script), some (e_MS keys), some (D.loc o_rows.1), some (D.int k), some (e_T2QT2SOWQQW o_deal.1), some (e_MS chosen3), none, some (e_T2QT3ISOWQT2IQW due), some (e_MS chosen3), some (e_T2QT3ISOWQT2IQW told), none, some D.und, some D.und, none, some D.und] o_deal.2 m := hm
        obtain rfl := Option.some.inj hr
        exact run_rt hm (YM.pp YT.c rfl) (fun m hm => ⟨⟨_, rfl⟩, ⟨rfl, (Out.pin rfl rfl (Out.nil)).eq hm.e, hm.h⟩⟩)
      · rw [if_neg (ne_t hc)] at hr
        replace hm : Sx [some (e_LI script), some (e_MS keys), some (D.loc o_rows.1), some (D.int k), some (e_T2QT2SOWQQW o_deal.1), some (e_MS chosen3), none, some (e_T2QT3ISOWQT2IQW due), some (e_MS chosen3), some (e_T2QT3ISOWQT2IQW told), none, some D.und, some D.und, none, some D.und] o_deal.2 m := hm
        refine run_pass ?_
        obtain ⟨lc, h_lc, hr⟩ := bnd hr
        obtain ⟨lc1, h_lc1, hr⟩ := bnd hr
        obtain ⟨named, h_named, hr⟩ := bnd hr
        refine run_asg hm (YM.op2 (YM.cast (YM.lcT (enc := e_T3ISOW) (eb := D.str) (pL := [some (e_LI script), some (e_MS keys), some (D.loc o_rows.1), some (D.int k), some (e_T2QT2SOWQQW o_deal.1), some (e_MS chosen3), none, some (e_T2QT3ISOWQT2IQW due), some (e_MS chosen3), some (e_T2QT3ISOWQT2IQW told), none, some D.und, some D.und, none, some D.und]) (pG := fun check => [some (e_LI script), some (e_MS keys), some (D.loc o_rows.1), some (D.int k), some (e_T2QT2SOWQQW o_deal.1), some (e_MS chosen3), none, some (e_T2QT3ISOWQT2IQW due), some (e_MS chosen3), some (e_T2QT3ISOWQT2IQW told), none, some (e_T3ISOW check), some D.und, none, some D.und]) (pC := fun check => [some (e_LI script), some (e_MS keys), some (D.loc o_rows.1), some (D.int k), some (e_T2QT2SOWQQW o_deal.1), some (e_MS chosen3), none, some (e_T2QT3ISOWQT2IQW due), some (e_MS chosen3), some (e_T2QT3ISOWQT2IQW told), none, some (e_T3ISOW check), some D.und, none, some D.und]) (pE := fun check => [some (e_LI script), some (e_MS keys), some (D.loc o_rows.1), some (D.int k), some (e_T2QT2SOWQQW o_deal.1), some (e_MS chosen3), none, some (e_T2QT3ISOWQT2IQW due), some (e_MS chosen3), some (e_T2QT3ISOWQT2IQW told), none, some (e_T3ISOW check), some D.und, none, some D.und]) (YI.vT (YM.pp (YT.ix (YT.var rfl rfl) YT.c rfl) (pu_QT3ISOW due.1)) (puM pu_T3ISOW _)) rfl rfl (fun _ _ => trivial) (fun check => YG.name (i := 11) (d := e_T3ISOW check) rfl) (fun check => YB.yes) (fun check _ => YM.pp (YT.ix (YT.var rfl rfl) YT.c rfl) rfl) (fun _ => rfl) (fun _ => rfl) h_lc) (cmap_L (e := D.str) (f := e_W) (g := fun z => (W.str z)) (fun z => rfl) lc)) (YM.lcO (enc := e_T2IQW) (eb := e_W) (pL := [some (e_LI script), some (e_MS keys), some (D.loc o_rows.1), some (D.int k), some (e_T2QT2SOWQQW o_deal.1), some (e_MS chosen3), none, some (e_T2QT3ISOWQT2IQW due), some (e_MS chosen3), some (e_T2QT3ISOWQT2IQW told), none, some D.und, some D.und, none, some D.und]) (YI.vT (YM.pp (YT.ix (YT.var rfl rfl) YT.c rfl) (pu_QT2IQW due.2)) (puM pu_T2IQW _)) rfl rfl (fun _ _ => trivial) (fun pair1 r hr m hm => by
    unfold t_law_c2 at hr
    refine lc_st (YG.name (i := 12) (d := e_T2IQW pair1) rfl) (YB.yes) hm (fun m hm => ?_)
    obtain ⟨it2, h_it2, hr⟩ := bnd hr
    obtain rfl := Option.some.inj hr
    exact lc_el hm rfl (YM.pp (YT.ix (YT.ix (YT.var rfl rfl) YT.c rfl) YT.c (ix_Q h_it2)) (pu_W it2)) (.keep (.keep (.keep (.keep (.keep (.keep (.drop (.keep (.keep (.keep (.drop (.keep (.keep (.drop (.keep Wk.nil))))))))))))))) rfl) h_lc1) (cat_L pu_W h_named)) (YG.name (i := 10) (d := e_MW named) rfl) (fun m hm => ?_)
        replace hm : Sx [some (e_LI script), some (e_MS keys), some (D.loc o_rows.1), some (D.int k), some (e_T2QT2SOWQQW o_deal.1), some (e_MS chosen3), none, some (e_T2QT3ISOWQT2IQW due), some (e_MS chosen3), some (e_T2QT3ISOWQT2IQW told), some (e_MW named), some D.und, some D.und, none, some D.und] o_deal.2 m := hm
        obtain ⟨names, h_names, hr⟩ := bnd hr
        refine run_asg hm (YM.call (YA.n rfl rfl YA.nil) (.namP rfl rfl (pu_T2QT3ISOWQT2IQW told) Gr.nil) (y_keys_of_part told _ _ h_names) rfl) (YG.name (i := 13) (d := e_QS names) rfl) (fun m hm => ?_)
        replace hm : Sx [some (e_LI script), some (e_MS keys), some (D.loc o_rows.1), some (D.int k), some (e_T2QT2SOWQQW o_deal.1), some (e_MS chosen3), none, some (e_T2QT3ISOWQT2IQW due), some (e_MS chosen3), some (e_T2QT3ISOWQT2IQW told), some (e_MW named), some D.und, some D.und, some (e_QS names), some D.und] o_deal.2 m := hm
        refine run_last ?_
        obtain ⟨either1, h_either1, hr⟩ := bnd hr
        refine run_if hm (YB.or (y := either1) (p' := [some (e_LI script), some (e_MS keys), some (D.loc o_rows.1), some (D.int k), some (e_T2QT2SOWQQW o_deal.1), some (e_MS chosen3), none, some (e_T2QT3ISOWQT2IQW due), some (e_MS chosen3), some (e_T2QT3ISOWQT2IQW told), some (e_MW named), some D.und, some D.und, some (e_QS names), some D.und]) (h' := o_deal.2) (YB.not (YB.v (YM.qb (YT.cb (YL.cons (YT.var rfl rfl) (YL.cons YT.c YL.nil)) (isi_k (k := "tuple") (n := "tuple") (b := true) rfl (by decide +kernel)) rfl)) rfl)) (fun hb => by rw [if_neg (ne_t hb)] at h_either1; obtain ⟨lc2, h_lc2, h_either1⟩ := bnd h_either1; obtain ⟨srt, h_srt, h_either1⟩ := bnd h_either1; obtain rfl := Option.some.inj h_either1; exact YB.bb (YM.opN rfl rfl (YM.cb (YA.v (YM.cb (YA.v (YM.lcT (enc := D.str) (eb := D.str) (pL := [some (e_LI script), some (e_MS keys), some (D.loc o_rows.1), some (D.int k), some (e_T2QT2SOWQQW o_deal.1), some (e_MS chosen3), none, some (e_T2QT3ISOWQT2IQW due), some (e_MS chosen3), some (e_T2QT3ISOWQT2IQW told), some (e_MW named), some D.und, some D.und, some (e_QS names), some D.und]) (pG := fun key => [some (e_LI script), some (e_MS keys), some (D.loc o_rows.1), some (D.int k), some (e_T2QT2SOWQQW o_deal.1), some (e_MS chosen3), none, some (e_T2QT3ISOWQT2IQW due), some (e_MS chosen3), some (e_T2QT3ISOWQT2IQW told), some (e_MW named), some D.und, some D.und, some (e_QS names), some (D.str key)]) (pC := fun key => [some (e_LI script), some (e_MS keys), some (D.loc o_rows.1), some (D.int k), some (e_T2QT2SOWQQW o_deal.1), some (e_MS chosen3), none, some (e_T2QT3ISOWQT2IQW due), some (e_MS chosen3), some (e_T2QT3ISOWQT2IQW told), some (e_MW named), some D.und, some D.und, some (e_QS names), some (D.str key)]) (pE := fun key => [some (e_LI script), some (e_MS keys), some (D.loc o_rows.1), some (D.int k), some (e_T2QT2SOWQQW o_deal.1), some (e_MS chosen3), none, some (e_T2QT3ISOWQT2IQW due), some (e_MS chosen3), some (e_T2QT3ISOWQT2IQW told), some (e_MW named), some D.und, some D.und, some (e_QS names), some (D.str key)]) (YI.nL rfl (puM (fun _ => rfl) _)) rfl rfl (fun m hm => hm.e.get rfl) (fun key => YG.name (i := 14) (d := D.str key) rfl) (fun key => YB.bb (YM.opQ (YT.var rfl rfl) (YT.var rfl rfl) (in_faL Fa.W (by decide) (W.str key) named))) (fun key _ => YM.varP rfl rfl rfl) (fun _ => rfl) (fun _ => rfl) h_lc2) YA.nil) (.val Ct.nil) (sort_A1 (sort_S h_srt))) YA.nil) (.val Ct.nil) (tuple_L (fun _ => rfl))) rfl rfl (ne_fa fa_QS (by decide) names srt))) (fun hb => by rw [if_pos hb] at h_either1; obtain rfl := Option.some.inj h_either1; exact ⟨rfl, rfl, (.keep (.keep (.keep (.keep (.keep (.keep (.drop (.keep (.keep (.keep (.keep (.keep (.keep (.keep (.keep Wk.nil)))))))))))))))⟩)) (fun hc m hm => ?_) (fun hc m hm => ?_)
        · rw [if_pos hc] at hr
          replace hm : Sx [some (e_LI script), some (e_MS keys), some (D.loc o_rows.1), some (D.int k), some (e_T2QT2SOWQQW o_deal.1), some (e_MS chosen3), none, some (e_T2QT3ISOWQT2IQW due), some (e_MS chosen3), some (e_T2QT3ISOWQT2IQW told), some (e_MW named), some D.und, some D.und, some (e_QS names), some D.und] o_deal.2 m := hm
          obtain rfl := Option.some.inj hr
          exact run_rt hm (YM.pp YT.c rfl) (fun m hm => ⟨⟨_, rfl⟩, ⟨rfl, (Out.pin rfl rfl (Out.nil)).eq hm.e, hm.h⟩⟩)
        · rw [if_neg (ne_t hc)] at hr
          replace hm : Sx [some (e_LI script), some (e_MS keys), some (D.loc o_rows.1), some (D.int k), some (e_T2QT2SOWQQW o_deal.1), some (e_MS chosen3), none, some (e_T2QT3ISOWQT2IQW due), some (e_MS chosen3), some (e_T2QT3ISOWQT2IQW told), some (e_MW named), some D.und, some D.und, some (e_QS names), some D.und] o_deal.2 m := hm
          refine run_pass ?_
          obtain rfl := Option.some.inj hr
          exact run_end ⟨.inl rfl, hm.wk (.keep (.keep (.keep (.drop (.drop (.drop (.drop (.drop (.drop (.drop (.drop (.keep (.keep (.drop (.keep Wk.nil)))))))))))))))⟩
  · intro hp he m hm
    subst he
    replace hm : Sx [some (e_LI script), some (e_MS keys), some (D.loc o_rows.1), none, none, none, none, none, none, none, none, some D.und, some D.und, none, some D.und] hp m := hm
    replace hr := (show _ = _ from hr)
    rw [rs_go] at hr
    refine run_last ?_
    obtain ⟨o_part2, h_o_part2, hr⟩ := bnd hr
    obtain rfl := Option.some.inj hr
    exact run_rt hm (YM.op2 (YM.call (YA.v (YM.tup (YA.v (YM.tup YA.nil rfl (by decide)) (YA.v (YM.tup YA.nil rfl (by decide)) YA.nil)) rfl (by simp)) YA.nil) (.val Gr.nil) (y_keys_of_part (([] : (List (Int × Str × (Option W)))), ([] : (List (Int × (List W))))) _ _ h_o_part2) rfl) (YM.tup YA.nil rfl (by decide)) (eq_fa fa_QS (by decide) o_part2 ([] : (List Str)))) (fun m hm => ⟨rfl, (Out.pin rfl rfl (Out.nil)).eq hm.e, hm.h⟩)
  · intro r1 he d m hq
    subst he
    obtain rfl := Option.some.inj hr
    exact hq
end Gen
/-! K03A: what the law draws -/
namespace Gen
open PySem E Y
open L2 (atI ixN)
theorem t_row (ns : List Int) (k : Int) (hk : 0 ≤ k) : ∃ r, t_law_row ns k = some r := by
  unfold t_law_row
  have c1 : ∃ c, (if decide ((0 : Int) < (ns.length : Int)) = true then (modO k (ns.length : Int)).bind fun remn => (atI ns remn).bind fun cell1 => some cell1 else some (0 : Int)) = some c := by
    by_cases h0 : (0 : Int) < ns.length
    · rw [if_pos (decide_eq_true h0), modO_eq h0, Option.bind_some, atI_nn (Int.emod_nonneg _ (by omega)) (Int.emod_lt_of_pos _ h0)]
      exact ⟨_, rfl⟩
    · rw [if_neg (by simpa using h0)]
      exact ⟨_, rfl⟩
  obtain ⟨c, e⟩ := c1
  rw [e, Option.bind_some]
  have c2 : ∃ c', (if decide (c < (0 : Int)) = true then (some ((1 : Int) - ((2 : Int) * c))).bind fun cell3 => some cell3 else some c) = some c' := by
    split <;> exact ⟨_, rfl⟩
  obtain ⟨c', e'⟩ := c2
  rw [e', Option.bind_some]
  split
  · exact ⟨_, rfl⟩
  · rw [Option.bind_some]
    generalize hz : (((c' * 48271) + ((k + 1) * 69621)) + (ns.length : Int)) % 2147483647 = z
    rw [mulO_l (by omega) (by omega)]
    exact ⟨_, rfl⟩
theorem key_of (row : Int) : ∃ key, t_law_key row 8 = some key ∧ key.length ≤ 8 := by
  unfold t_law_key
  rw [Option.bind_some, modO_eq (by omega), Option.bind_some, Option.bind_some, Option.bind_some, Option.bind_some, gd_of (by omega), Option.bind_some]
  obtain ⟨s', e3, hl⟩ := forS_ipre (tb := t_law_key_l1 "abcdefghijklmnopqrstuvwxyz0123456789") (fun p s => s.2.length = p.length) (rangeI 0 (1 + row % 8)) (rangeI 0 (1 + row % 8)) [] (s := (row / 8, "")) rfl (by rfl) (by
    rintro p x q ⟨s1, s2⟩ ex hl
    unfold t_law_key_l1
    dsimp only at hl ⊢
    obtain ⟨y, e2, hy⟩ := atS_of (z := "abcdefghijklmnopqrstuvwxyz0123456789") (i := s1 % 36) (by decide) (by omega) (by
      have : (Str.length "abcdefghijklmnopqrstuvwxyz0123456789") = 36 := by decide
      omega)
    have := (rangeI_at ex).2
    rw [e2, Option.bind_some, catSO_of (by omega), Option.bind_some, Option.bind_some]
    refine ⟨_, rfl, ?_⟩
    dsimp only
    rw [sl_add, List.length_append, List.length_singleton]
    omega)
  rw [e3, Option.bind_some]
  refine ⟨_, rfl, ?_⟩
  rw [hl, length_rangeI]
  omega
structure Ks (ks : List Str) : Prop where
  nd : ks.Nodup
  p : 0 < ks.length
  l : ks.length ≤ 8
  s : ∀ k ∈ ks, k.length ≤ 100
theorem keys_of (ns : List Int) : ∃ ks, t_law_keys ns 0 8 = some ks ∧ Ks ks := by
  unfold t_law_keys
  obtain ⟨r, er⟩ := t_row ns 0 (by omega)
  rw [Option.bind_some, er, Option.bind_some, modO_eq (by omega), Option.bind_some, Option.bind_some, gd_of (by omega), Option.bind_some]
  obtain ⟨s', e3, nd, hp, hl, hs⟩ := forS_ipre (tb := t_law_keys_l1 ns 0) (fun p s => s.Nodup ∧ (0 < p.length → 0 < s.length) ∧ s.length ≤ p.length ∧ ∀ k ∈ s, k.length ≤ 8 + 8 * p.length) (rangeI 0 (1 + r % 8)) (rangeI 0 (1 + r % 8)) [] (s := []) rfl ⟨.nil, fun h => h, Nat.le_refl _, by simp⟩ (by
    rintro p x q s ex ⟨nd, hp, hl, hs⟩
    have hx := rangeI_at ex
    unfold t_law_keys_l1
    obtain ⟨r1, e1⟩ := t_row ns (0 + 1 + x) (by omega)
    obtain ⟨key, ek, lk⟩ := key_of r1
    rw [e1, Option.bind_some, ek, Option.bind_some]
    have hk : ∃ key1 : Str, (if decide ((x % (3 : Int)) = (2 : Int)) = true then
        (atI s (0 : Int)).bind fun it => (catSO it key).bind fun cat => (cutSO cat none (some (8 : Int))).bind fun key2 => some key2
      else some key) = some key1 ∧ key1.length ≤ 8 + 8 * (p.length + 1) := by
      split
      · rename_i h
        have h := of_decide_eq_true h
        have := hp (by omega)
        have hz : ∃ z, atI s 0 = some z ∧ z ∈ s := ⟨_, atI_nn (by omega) (by omega), List.getElem_mem _⟩
        obtain ⟨z, ez, mz⟩ := hz
        have := hs z mz
        rw [ez, Option.bind_some, catSO_of (by omega), Option.bind_some, cutSO_of (by rw [sl_add]; omega)]
        refine ⟨_, rfl, ?_⟩
        have := L2.cutS_length (z ++ key) none (some 8)
        rw [sl_add] at this
        omega
      · exact ⟨_, rfl, by omega⟩
    obtain ⟨key1, ek1, lk1⟩ := hk
    rw [ek1, Option.bind_some]
    have lp : p.length < 9 := by omega
    have lpx : (p ++ [x]).length = p.length + 1 := by rw [List.length_append]; rfl
    split
    · rename_i h
      have h : key1 ∉ s := by
        intro m
        rw [memB_iff.mpr m] at h
        cases h
      rw [appO_eq (by omega), Option.bind_some, Option.bind_some]
      refine ⟨_, rfl, ?_, fun _ => by rw [List.length_append, List.length_singleton]; omega, by rw [lpx, List.length_append, List.length_singleton]; omega, fun k m => ?_⟩
      · rw [List.nodup_append]
        exact ⟨nd, by simp, fun a ma b mb e => h (by rw [← List.mem_singleton.mp mb, ← e]; exact ma)⟩
      · rw [lpx]
        rcases List.mem_append.mp m with m | m
        · have := hs k m; omega
        · rw [List.mem_singleton.mp m]; exact lk1
    · rename_i h
      have h : key1 ∈ s := by
        have : memB key1 s = true := by
          cases hb : memB key1 s with
          | true => rfl
          | false => rw [hb] at h; exact absurd rfl h
        exact memB_iff.mp this
      rw [Option.bind_some]
      exact ⟨_, rfl, nd, fun _ => List.length_pos_of_mem h, by rw [lpx]; omega, fun k m => by rw [lpx]; have := hs k m; omega⟩)
  rw [e3, Option.bind_some]
  rw [length_rangeI] at hp hl hs
  exact ⟨_, rfl, nd, hp (by omega), by omega, fun k m => by have := hs k m; omega⟩
theorem dig3 (r a b c : Int) (ha : 0 < a ∧ a < 18446744073709551616) (hb : 0 < b ∧ b < 18446744073709551616) (hc : 0 < c ∧ c < 18446744073709551616) :
    (t_law_digits r [a, b, c]).bind unp3 = some (r % a, r / a % b, r / a / b % c) := by
  unfold t_law_digits
  simp [forS, t_law_digits_l1, modO_eq ha.1, modO_eq hb.1, modO_eq hc.1, fdivO_eq ha.1 ha.2, fdivO_eq hb.1 hb.2, fdivO_eq hc.1 hc.2, appO_eq, unp3]
theorem dig4 (r a b c d : Int) (ha : 0 < a ∧ a < 18446744073709551616) (hb : 0 < b ∧ b < 18446744073709551616) (hc : 0 < c ∧ c < 18446744073709551616) (hd : 0 < d ∧ d < 18446744073709551616) :
    (t_law_digits r [a, b, c, d]).bind unp4 = some (r % a, r / a % b, r / a / b % c, r / a / b / c % d) := by
  unfold t_law_digits
  simp [forS, t_law_digits_l1, modO_eq ha.1, modO_eq hb.1, modO_eq hc.1, modO_eq hd.1, fdivO_eq ha.1 ha.2, fdivO_eq hb.1 hb.2, fdivO_eq hc.1 hc.2, fdivO_eq hd.1 hd.2, appO_eq, unp4]
theorem text_of (row n : Int) (h0 : 0 ≤ n) (h : n ≤ 30) : ∃ z, t_law_text row n = some z := by
  unfold t_law_text
  rw [Option.bind_some, gd_of (by omega), Option.bind_some]
  obtain ⟨s', e3, hl⟩ := forS_ipre (tb := t_law_text_l1) (fun p s => s.1.length = p.length) (rangeI 0 n) (rangeI 0 n) [] (s := ("", row)) rfl (by rfl) (by
    rintro p x q ⟨s1, s2⟩ ex hl
    unfold t_law_text_l1 t_law_sign
    dsimp only at hl ⊢
    rw [Option.bind_some]
    obtain ⟨y, e2, hy⟩ := atS_of (z := " !\"#$&'()*+,-./0123456789:;<=>?@ABCDEFGHIJKLMNOPQRSTUVWXYZ[\\]^_`abcdefghijklmnopqrstuvwxyz{|}~") (i := s2 / 7 % 94) (by decide) (by omega) (by
      have : (Str.length " !\"#$&'()*+,-./0123456789:;<=>?@ABCDEFGHIJKLMNOPQRSTUVWXYZ[\\]^_`abcdefghijklmnopqrstuvwxyz{|}~") = 94 := by decide
      omega)
    have := (rangeI_at ex).2
    rw [e2, Option.bind_some, Option.bind_some, catSO_of (by omega), Option.bind_some, Option.bind_some]
    refine ⟨_, rfl, ?_⟩
    dsimp only
    rw [sl_add, List.length_append, List.length_singleton]
    omega)
  rw [e3]
  exact ⟨_, rfl⟩
theorem value_of (row : Int) : ∃ w, t_law_value row = some w := by
  unfold t_law_value
  have e := dig3 row 5 2 1000000000000000 (by omega) (by omega) (by omega)
  obtain ⟨ds, e1, e2⟩ := Option.bind_eq_some_iff.mp e
  rw [e1, Option.bind_some, e2, Option.bind_some]
  dsimp only
  generalize row / 5 / 2 % 1000000000000000 = z
  split
  · obtain ⟨t, et⟩ := text_of (z / 21) (z % 21) (by omega) (by omega)
    rw [et]
    exact ⟨_, rfl⟩
  · rw [atI_nn (by omega) (show row % 5 < ([(0 : Int), z % 7, z % 2000, z, 1000000000000000 - z % 3].length : Int) by simp; omega), Option.bind_some]
    split <;> exact ⟨_, rfl⟩
/-- what a deed is: at least a word and one of the keys -/
def Dd (ks : List Str) (d : List W) : Prop := ∃ k ∈ ks, ∃ a r, d = a :: W.str k :: r
theorem deed_of {ks : List Str} (h : Ks ks) (row : Int) : ∃ d, t_law_deed ks row = some d ∧ Dd ks d := by
  unfold t_law_deed
  have hp := h.p
  have hl := h.l
  have e := dig4 row 8 ks.length 2 1000000001 (by omega) (by omega) (by omega) (by omega)
  obtain ⟨ds, e1, e2⟩ := Option.bind_eq_some_iff.mp e
  rw [e1, Option.bind_some, e2, Option.bind_some]
  dsimp only
  generalize row / 8 / (ks.length : Int) / 2 % 1000000001 = z
  have q0 := Int.emod_nonneg (row / 8) (show (ks.length : Int) ≠ 0 by omega)
  have q1 := Int.emod_lt_of_pos (row / 8) (show 0 < (ks.length : Int) by omega)
  generalize row / 8 % (ks.length : Int) = j at q0 q1
  rw [atI_nn q0 q1, Option.bind_some]
  have mk : ks[j.toNat]'(by omega) ∈ ks := List.getElem_mem _
  generalize ks[j.toNat]'(by omega) = key at mk
  split
  · exact ⟨_, rfl, key, mk, _, _, rfl⟩
  · split
    · obtain ⟨v, ev⟩ := value_of (row / 100000000000)
      rw [ev]
      exact ⟨_, rfl, key, mk, _, _, rfl⟩
    · split
      · exact ⟨_, rfl, key, mk, _, _, rfl⟩
      · rename_i h1 h2 h3
        simp only [decide_eq_true_eq] at h1 h2 h3
        rw [atI_nn (by omega) (show row % 8 - 5 < ([z, z % 9, (1000000000 : Int)].length : Int) by simp; omega), Option.bind_some]
        split <;> exact ⟨_, rfl, key, mk, _, _, rfl⟩
end Gen
/-! K03B: rows, deals, parts -/
namespace Gen
open PySem E Y
open L2 (atI ixN)
theorem inj_W : ∀ a b : W, e_W a = e_W b → a = b := fun a b h => by
  cases a <;> cases b <;> (unfold e_W at h; cases h) <;> rfl
theorem inj_rows : ∀ a b : List (Str × W), e_XSW a = e_XSW b → a = b := inj_Dic inj_str inj_W
def bx (d : List (Str × W)) : List Ob := [⟨BOXC, [("", e_XSW d)]⟩]
theorem bx_get (d : List (Str × W)) : boxO e_XSW (bx d) 0 = some d := boxO_eq inj_rows rfl
theorem rows_of {ks : List Str} (h : Ks ks) (ns : List Int) : ∃ d, t_law_rows ns 10 ks [] = some (0, bx d) := by
  unfold t_law_rows
  have hl := h.l
  rw [gd_of (by omega), Option.bind_some]
  obtain ⟨s', e3, d, hd, _⟩ := forS_ipre (tb := t_law_rows_l1 ns 10 ks []) (fun p s => ∃ d, s = bx d ∧ d.length ≤ p.length) (rangeI 0 ks.length) (rangeI 0 ks.length) [] (s := bx []) rfl ⟨_, rfl, by simp⟩ (by
    rintro p x q s ex ⟨d, rfl, hd⟩
    have hx := rangeI_at ex
    unfold t_law_rows_l1
    obtain ⟨r1, e1⟩ := t_row ns 10 (by omega)
    rw [e1, Option.bind_some, fdivO_eq (by omega) (by omega), Option.bind_some]
    split
    · obtain ⟨r2, e2⟩ := t_row ns (10 + 1 + x) (by omega)
      obtain ⟨v, ev⟩ := value_of r2
      rw [e2, Option.bind_some, ev, Option.bind_some, atI_nn (by omega) (by omega), Option.bind_some]
      show ∃ s', (((boxO e_XSW (bx d) 0).bind _).bind _) = some s' ∧ _
      rw [bx_get, Option.bind_some, show putO d _ v = some _ from gd_of (by omega), Option.bind_some, Option.bind_some]
      refine ⟨_, rfl, _, rfl, ?_⟩
      have := length_putL (xs := d) (k := ks[x.toNat]'(by omega)) (a := v)
      rw [List.length_append, List.length_singleton]
      omega
    · rw [Option.bind_some]
      exact ⟨_, rfl, d, rfl, by rw [List.length_append]; omega⟩)
  refine ⟨d, ?_⟩
  show (forS _ _ (bx [])).bind _ = _
  rw [e3, Option.bind_some, hd]
  rfl
structure Dl (ks : List Str) (cs : List (Str × Option W)) (ds : List (List W)) : Prop where
  c : ∀ c ∈ cs, c.1 ∈ ks
  d : ∀ d ∈ ds, Dd ks d
  lc : cs.length ≤ 4
  ld : ds.length ≤ 6
theorem deal_of {ks : List Str} (h : Ks ks) (d : List (Str × W)) (row more : Int) : ∃ cs ds, t_law_deal ks 0 row more (bx d) = some ((cs, ds), bx d) ∧ Dl ks cs ds := by
  unfold t_law_deal
  have hp := h.p
  have hl := h.l
  have e := dig3 row 5 7 3 (by omega) (by omega) (by omega)
  obtain ⟨os, e1, e2⟩ := Option.bind_eq_some_iff.mp e
  rw [e1, Option.bind_some, e2, Option.bind_some]
  dsimp only
  have u1 : 0 ≤ row % 5 ∧ row % 5 < 5 := by omega
  have hm : ∃ m, (if decide (row % 5 + row / 5 % 7 = 0) = true then some (1 : Int) else some (row / 5 % 7)) = some m ∧ 0 ≤ m ∧ m < 7 := by
    split
    · exact ⟨_, rfl, by omega, by omega⟩
    · exact ⟨_, rfl, by omega, by omega⟩
  obtain ⟨m, em, hm⟩ := hm
  rw [em, Option.bind_some, gd_of (by omega), Option.bind_some]
  obtain ⟨s', e3, hs1, hs2, hs3⟩ := forS_ipre (tb := t_law_deal_l1 ks 0 row (row % 5, row / 5 % 7, row / 5 / 7 % 3)) (fun p s => s.2 = bx d ∧ s.1.length = p.length ∧ ∀ c ∈ s.1, c.1 ∈ ks) (rangeI 0 (row % 5)) (rangeI 0 (row % 5)) [] (s := ([], bx d)) rfl ⟨rfl, rfl, by simp⟩ (by
    rintro p x q ⟨s1, s2⟩ ex ⟨rfl, h1, h2⟩
    dsimp only at h1 h2
    have hx := rangeI_at ex
    unfold t_law_deal_l1
    rw [fdivO_eq (by omega) (by omega), Option.bind_some]
    have e := dig3 (row / (107 + 10 * x)) ks.length 8 1000000000 (by omega) (by omega) (by omega)
    obtain ⟨os, e1, e2⟩ := Option.bind_eq_some_iff.mp e
    rw [e1, Option.bind_some, e2, Option.bind_some]
    generalize row / (107 + 10 * x) = r
    dsimp only
    have q0 := Int.emod_nonneg r (show (ks.length : Int) ≠ 0 by omega)
    have q1 := Int.emod_lt_of_pos r (show 0 < (ks.length : Int) by omega)
    have mk : ks[(r % (ks.length : Int)).toNat]'(by omega) ∈ ks := List.getElem_mem _
    rw [atI_nn q0 q1, Option.bind_some, bx_get, Option.bind_some, Option.bind_some]
    generalize ks[(r % (ks.length : Int)).toNat]'(by omega) = key at mk
    have hc : ∃ c, (if ((decide (row / 5 / 7 % 3 = (0 : Int))) && (decide (r / (ks.length : Int) % 8 < (2 : Int)))) = true then
        (atI [none, (some (r / (ks.length : Int) / 8 % 1000000000))] (r / (ks.length : Int) % 8)).bind fun check2 => some (check2.map fun z => (W.int z))
      else some (lookK d key)) = some c := by
      split
      · rename_i h
        simp only [Bool.and_eq_true, decide_eq_true_eq] at h
        rw [atI_nn (by omega) (by show _ < (2 : Int); omega)]
        exact ⟨_, rfl⟩
      · exact ⟨_, rfl⟩
    obtain ⟨c, ec⟩ := hc
    rw [ec, Option.bind_some, appO_eq (by omega), Option.bind_some]
    refine ⟨_, rfl, rfl, by rw [List.length_append, List.length_append, h1]; rfl, fun z m => ?_⟩
    rcases List.mem_append.mp m with m | m
    · exact h2 z m
    · rw [List.mem_singleton.mp m]; exact mk)
  rw [e3, Option.bind_some, gd_of (by omega), Option.bind_some]
  obtain ⟨s1, e4, hd1, hd2⟩ := forS_ipre (tb := t_law_deal_l2 ks row more) (fun p s => s.length = p.length ∧ ∀ c ∈ s, Dd ks c) (rangeI 0 m) (rangeI 0 m) [] (s := []) rfl ⟨rfl, by simp⟩ (by
    rintro p x q s ex ⟨h1, h2⟩
    have hx := rangeI_at ex
    unfold t_law_deal_l2
    rw [fdivO_eq (by omega) (by omega), Option.bind_some, mulO_l (by omega) (by omega), Option.bind_some]
    obtain ⟨dd, ed, hd⟩ := deed_of h (more / (x + 1) + x * row)
    rw [ed, Option.bind_some, appO_eq (by omega), Option.bind_some]
    refine ⟨_, rfl, by rw [List.length_append, List.length_append, h1]; rfl, fun z m => ?_⟩
    rcases List.mem_append.mp m with m | m
    · exact h2 z m
    · rw [List.mem_singleton.mp m]; exact hd)
  rw [e4, Option.bind_some, hs1]
  rw [length_rangeI] at hs2 hd1
  exact ⟨_, _, rfl, hs3, hd2, by omega, by omega⟩
/-! parts -/
theorem enumI_eq {α : Type} (xs : List α) : (enumI xs).map (·.2) = xs := by
  unfold enumI
  rw [List.map_map]
  show ((List.range xs.length).zip xs).map Prod.snd = xs
  exact List.map_snd_zip (by simp)
theorem enumI_snd {α : Type} {xs : List α} {x : Int × α} (h : x ∈ enumI xs) : x.2 ∈ xs := by
  rw [← enumI_eq xs]; exact List.mem_map_of_mem h
theorem length_enumI {α : Type} (xs : List α) : (enumI xs).length = xs.length := by unfold enumI; simp
theorem enumI_get {α : Type} {xs : List α} {i : Nat} (h : i < xs.length) : (enumI xs)[i]? = some ((i : Int), xs[i]) := by
  unfold enumI
  simp [List.getElem?_eq_getElem h, h]
/-- the law's loop over the places of a row is a filter of what enumerate tells -/
theorem loop_enum {α : Type} {tb : List (Int × α) → Int → Option (List (Int × α))} {xs : List α} (f : α → Bool) (hl : xs.length ≤ 1000)
    (step : ∀ (s : List (Int × α)) (k : Nat) (hk : k < xs.length), s.length ≤ k → tb s (k : Int) = some (if f xs[k] = true then s ++ [((k : Int), xs[k])] else s)) :
    forS tb (rangeI 0 xs.length) [] = some ((enumI xs).filter fun p => f p.2) := by
  obtain ⟨s', e, h⟩ := forS_ipre (tb := tb) (fun p s => s = ((enumI xs).take p.length).filter (fun p => f p.2)) (rangeI 0 xs.length) (rangeI 0 xs.length) [] (s := []) rfl (by simp) (by
    rintro p x q s ex rfl
    obtain ⟨hx, hn⟩ := rangeI_at ex
    subst hx
    have hk : p.length < xs.length := by omega
    have hlen : (((enumI xs).take p.length).filter fun p => f p.2).length ≤ p.length := by
      refine Nat.le_trans (List.length_filter_le ..) ?_
      rw [List.length_take]; omega
    rw [step _ p.length hk hlen]
    refine ⟨_, rfl, ?_⟩
    rw [List.length_append, List.length_singleton, take_succ_at (enumI_get hk), List.filter_append]
    cases hf : f xs[p.length] <;> simp [hf])
  rw [e, h, length_rangeI]
  congr 1
  rw [List.take_of_length_le (by rw [length_enumI]; omega)]
def kd (d : List W) : Str := match d with
  | _ :: .str k :: _ => k
  | _ => ""
theorem Dd.at {ks : List Str} {d : List W} (h : Dd ks d) : atI d 1 = some (W.str (kd d)) ∧ kd d ∈ ks := by
  obtain ⟨k, mk, a, r, rfl⟩ := h
  exact ⟨atI_nat (k := 1) (by simp), mk⟩
theorem memB_str (k : Str) (ks : List Str) : memB (W.str k) (ks.map fun z => W.str z) = memB k ks := by
  unfold memB
  congr 1
  simp
def pcs (cs : List (Str × Option W)) (ch : List Str) : List (Int × Str × Option W) := (enumI cs).filter fun p => memB p.2.1 ch
def pds (ds : List (List W)) (ch : List Str) : List (Int × List W) := (enumI ds).filter fun p => memB (kd p.2) ch
theorem law_part_of {ks : List Str} {cs : List (Str × Option W)} {ds : List (List W)} (h : Dl ks cs ds) (ch : List Str) : t_law_part (cs, ds) ch = some (pcs cs ch, pds ds ch) := by
  unfold t_law_part
  have l1 := h.lc
  have l2 := h.ld
  dsimp only
  rw [gd_of (by omega), Option.bind_some]
  rw [loop_enum (tb := t_law_part_l1 (cs, ds) ch) (fun c => memB c.1 ch) (by omega) (fun s k hk hs => by
    unfold t_law_part_l1
    dsimp only
    rw [atI_nat hk, Option.bind_some]
    split
    · rw [Option.bind_some, appO_eq (by omega)]
      rfl
    · rfl)]
  rw [Option.bind_some, gd_of (by omega), Option.bind_some]
  rw [loop_enum (tb := t_law_part_l2 (cs, ds) ch) (fun d => memB (kd d) ch) (by omega) (fun s k hk hs => by
    unfold t_law_part_l2
    dsimp only
    rw [atI_nat hk, Option.bind_some, (h.d _ (List.getElem_mem hk)).at.1, Option.bind_some, memB_str]
    split
    · rw [Option.bind_some, appO_eq (by omega)]
      rfl
    · rfl)]
  rfl
theorem fm_filter {α : Type} (f : α → Bool) : ∀ xs : List α, xs.filterMap (fun a => if f a = true then some a else none) = xs.filter f
  | [] => rfl
  | x :: xs => by
    rw [List.filterMap_cons, List.filter_cons]
    split <;> rename_i h <;> split <;> rename_i h2
    · simp [h2] at h
    · exact fm_filter f xs
    · simp [h2] at h; rw [h, fm_filter f xs]
    · simp [h2] at h
theorem part_of_is {ks : List Str} {cs : List (Str × Option W)} {ds : List (List W)} (h : Dl ks cs ds) (ch : List Str) : t_part_of (cs, ds) ch = some (pcs cs ch, pds ds ch) := by
  unfold t_part_of
  have l1 := h.lc
  have l2 := h.ld
  dsimp only
  rw [lcT_eq (by rw [length_enumI]; omega), Option.bind_some, lcOg_eq (by rw [length_enumI]; omega)]
  rw [lcO_fm (f := fun a => if memB (kd a.2) ch = true then some a else none) (fun a ma => by
    unfold t_part_of_c1
    rw [(h.d _ (enumI_snd ma)).at.1, Option.bind_some, memB_str]
    split <;> rfl), Option.bind_some, fm_filter]
  congr 2
  rw [List.map_id'']
  · rfl
  · intro x; rfl
theorem part_of_v2 (d : List (Str × Option W) × List (List W)) (ch : List Str) : t_part_of_v2 d ch = t_part_of d ch := rfl
theorem part_nil {ks : List Str} {cs : List (Str × Option W)} {ds : List (List W)} (h : Dl ks cs ds) : t_part_of (cs, ds) [] = some ([], []) := by
  rw [part_of_is h]
  congr 2
  · unfold pcs
    rw [List.filter_eq_nil_iff]
    intro a _
    simp [memB]
  · unfold pds
    rw [List.filter_eq_nil_iff]
    intro a _
    simp [memB]
end Gen
/-! K03C: keys of parts, the law -/
namespace Gen
open PySem E Y
open L2 (atI ixN)
theorem sortS_congr {xs ys : List Str} (p : xs.Perm ys) : sortS xs = sortS ys :=
  up_unique ((sortS_perm xs).trans (p.trans (sortS_perm ys).symm)) (sortS_up xs) (sortS_up ys)
theorem filter_perm {xs ks : List Str} (nd : ks.Nodup) (h : ∀ x ∈ xs, x ∈ ks) : (uniqS xs).Perm (ks.filter fun k => decide (k ∈ xs)) := by
  rw [List.perm_ext_iff_of_nodup (uniqS_nodup xs) (nd.filter _)]
  intro a
  rw [mem_uniqS, List.mem_filter, decide_eq_true_eq]
  exact ⟨fun m => ⟨h a m, m⟩, fun m => m.2⟩
def nmd (cs : List (Int × Str × Option W)) (ds : List (Int × List W)) : List Str := cs.map (·.2.1) ++ ds.map fun d => kd d.2
structure Pt (ks : List Str) (cs : List (Int × Str × Option W)) (ds : List (Int × List W)) : Prop where
  c : ∀ c ∈ cs, c.2.1 ∈ ks
  d : ∀ d ∈ ds, Dd ks d.2
  lc : cs.length ≤ 4
  ld : ds.length ≤ 6
theorem Dl.pt {ks : List Str} {cs : List (Str × Option W)} {ds : List (List W)} (h : Dl ks cs ds) (ch : List Str) : Pt ks (pcs cs ch) (pds ds ch) where
  c := fun c m => h.c _ (enumI_snd (List.mem_filter.mp m).1)
  d := fun d m => h.d _ (enumI_snd (List.mem_filter.mp m).1)
  lc := Nat.le_trans (List.length_filter_le ..) (by rw [length_enumI]; exact h.lc)
  ld := Nat.le_trans (List.length_filter_le ..) (by rw [length_enumI]; exact h.ld)
theorem Pt.mem {ks : List Str} {cs : List (Int × Str × Option W)} {ds : List (Int × List W)} (h : Pt ks cs ds) : ∀ x ∈ nmd cs ds, x ∈ ks := fun x m => by
  unfold nmd at m
  rcases List.mem_append.mp m with m | m
  · obtain ⟨c, mc, rfl⟩ := List.mem_map.mp m
    exact h.c c mc
  · obtain ⟨d, md, rfl⟩ := List.mem_map.mp m
    exact (h.d d md).at.2
theorem filt_true {α : Type} (xs : List α) : xs.filter (fun _ => true) = xs := by simp
theorem keys_part {ks : List Str} {cs : List (Int × Str × Option W)} {ds : List (Int × List W)} (h : Pt ks cs ds) : t_keys_of_part (cs, ds) = some (sortS (uniqS (nmd cs ds))) := by
  unfold t_keys_of_part
  have l1 := h.lc
  have l2 := h.ld
  dsimp only
  rw [lcT_eq (by omega), Option.bind_some, lcOg_eq (by omega)]
  rw [lcO_map (f := fun d => W.str (kd d.2)) (fun d md => by
    unfold t_keys_of_part_c1
    rw [(h.d _ md).at.1]
    rfl), Option.bind_some, filt_true, catO_eq (by simp; omega), Option.bind_some, lcT_eq (by simp; omega), Option.bind_some, filt_true, List.map_id']
  have e : (cs.map fun atx => atx.2.1).map (fun z => W.str z) ++ ds.map (fun d => W.str (kd d.2)) = (nmd cs ds).map fun z => W.str z := by
    unfold nmd
    rw [List.map_append, List.map_map, List.map_map]
    rfl
  rw [e]
  have e2 : e_MW ((nmd cs ds).map fun z => W.str z) = e_MS (nmd cs ds) := by
    show D.lst true (((nmd cs ds).map fun z => W.str z).map e_W) = D.lst true ((nmd cs ds).map D.str)
    rw [List.map_map]
    rfl
  rw [e2, invO_eq (inj_L inj_str), Option.bind_some]
  rw [show srtXO (nmd cs ds) = some _ from gd_of (by unfold nmd; simp; omega), Option.bind_some]
theorem law_named {ks : List Str} (hk : Ks ks) {cs : List (Int × Str × Option W)} {ds : List (Int × List W)} (h : Pt ks cs ds) :
    ((lcT (fun check => true) (fun check => check.2.1) cs).bind fun lc => (lcOg t_law_c2 ds).bind fun lc1 => catO (lc.map fun z => (W.str z)) lc1) = some ((nmd cs ds).map fun z => W.str z) := by
  have l1 := h.lc
  have l2 := h.ld
  rw [lcT_eq (by omega), Option.bind_some, lcOg_eq (by omega)]
  rw [lcO_map (f := fun d => W.str (kd d.2)) (fun d md => by
    unfold t_law_c2
    rw [(h.d _ md).at.1]
    rfl), Option.bind_some, filt_true, catO_eq (by simp; omega)]
  unfold nmd
  rw [List.map_append, List.map_map, List.map_map]
  rfl
theorem turn {ks : List Str} (hk : Ks ks) (ns : List Int) (d : List (Str × W)) (k : Int) (h0 : 0 ≤ k) (hl : List Ob) : t_law_l3 ns ks (0, hl) (bx d) k = some (.go (bx d)) := by
  unfold t_law_l3
  obtain ⟨r1, e1⟩ := t_row ns (20 + k) (by omega)
  obtain ⟨r2, e2⟩ := t_row ns (40 + k) (by omega)
  obtain ⟨r3, e3⟩ := t_row ns (55 + k) (by omega)
  rw [e1, Option.bind_some, e2, Option.bind_some]
  obtain ⟨cs, ds, ed, hd⟩ := deal_of hk d r1 r2
  rw [ed, Option.bind_some, e3, Option.bind_some]
  obtain ⟨ky, ek, _⟩ := key_of r3
  rw [ek, Option.bind_some, Option.bind_some]
  have hkl := hk.l
  rw [gd_of (by omega), Option.bind_some]
  obtain ⟨ch, ec, _⟩ := forS_ipre (tb := t_law_l1 ns ks k) (fun p s => 2 ≤ s.length ∧ s.length ≤ 2 + p.length) (rangeI 0 ks.length) (rangeI 0 ks.length) [] (s := ["zz", ky]) rfl ⟨by simp, by simp⟩ (by
    rintro p x q s ex ⟨h1, h2⟩
    have hx := rangeI_at ex
    unfold t_law_l1
    obtain ⟨r4, e4⟩ := t_row ns (70 + k) (by omega)
    rw [e4, Option.bind_some, fdivO_eq (by omega) (by omega), Option.bind_some]
    split
    · rw [atI_nn (by omega) (by omega), Option.bind_some, insO_eq (by omega) (by omega) (by omega), Option.bind_some, Option.bind_some]
      refine ⟨_, rfl, ?_, ?_⟩
      · rw [len_insL (by omega)]; omega
      · rw [len_insL (by omega), List.length_append, List.length_singleton]; omega
    · rw [Option.bind_some]
      exact ⟨_, rfl, h1, by rw [List.length_append]; omega⟩)
  have hp := hd.pt ch
  rw [ec, Option.bind_some, law_part_of hd ch, Option.bind_some, part_of_is hd ch, Option.bind_some]
  unfold t_law_is_pair
  rw [if_neg (by simp), Option.bind_some]
  rw [if_neg (by simp)]
  rw [part_of_v2, part_of_is hd ch, Option.bind_some, if_neg (by simp), part_nil hd, Option.bind_some, Option.bind_some, if_neg (by simp)]
  have ln := law_named hk hp
  simp only [Option.bind_eq_some_iff] at ln
  obtain ⟨lc, q1, lc1, q2, q3⟩ := ln
  dsimp only
  rw [q1, Option.bind_some, q2, Option.bind_some, q3, Option.bind_some, keys_part hp, Option.bind_some]
  rw [if_neg (by simp), lcT_eq (by omega), Option.bind_some]
  have fl : (ks.filter fun key => memB (W.str key) ((nmd (pcs cs ch) (pds ds ch)).map fun z => W.str z)).map (fun key => key) = ks.filter fun key => decide (key ∈ nmd (pcs cs ch) (pds ds ch)) := by
    rw [List.map_id']
    congr 1
    funext key
    rw [memB_str]
    rfl
  rw [fl]
  rw [show srtSO _ = some _ from gd_of (Nat.lt_of_le_of_lt (List.length_filter_le ..) (by omega)), Option.bind_some, Option.bind_some]
  rw [sortS_congr (filter_perm hk.nd hp.mem)]
  rw [if_neg (by simp)]
theorem t_true (ns : List Int) : ∃ H, t_law ns [] = some (true, H) := by
  unfold t_law
  obtain ⟨ks, ek, hk⟩ := keys_of ns
  rw [ek, Option.bind_some]
  obtain ⟨d, ed⟩ := rows_of hk ns
  rw [ed, Option.bind_some]
  have : forE (t_law_l3 ns ks (0, bx d)) (rangeI 0 12) (bx d) = some (.go (bx d)) := by
    obtain ⟨s', e, h⟩ := forE_inv (tb := t_law_l3 ns ks (0, bx d)) (fun s => s = bx d) (xs := rangeI 0 12) (s := bx d) rfl (fun s x m h => ⟨_, by rw [h]; exact turn hk ns d x (mem_rangeI.mp m).1 _, rfl⟩)
    rw [e, h]
  rw [this, Option.bind_some]
  have pe : Pt ks ([] : List (Int × Str × Option W)) ([] : List (Int × List W)) := ⟨by simp, by simp, by simp, by simp⟩
  rw [rs_go, keys_part pe, Option.bind_some]
  exact ⟨_, rfl⟩
theorem law_true : ∀ ns : List Int, ns.length ≤ 63 → ∃ ds hs, m_law [.lst false (ns.map .int)] [] = .ok (.bl true, ds, hs) := fun ns _ => by
  obtain ⟨H, e⟩ := t_true ns
  exact ⟨_, _, y_law ns [] (true, H) e⟩
end Gen
namespace Gen
open PySem L2 E PySem.Spec PyProof.Rows
/-! ### the top -/
theorem all_mk {l : PySem.W.OpenLaw} {w : World} {K : PySem.W.Frag} {h : Heap} {mg : Str → Option Value} {fa : Addr} (X : K.In h) (G : h.Ns mainGlobals mg) (hfa : mg "law" = some (.ref fa))
    {f_part_of : Addr} {od_part_of an_part_of : Option Addr} {sl_part_of : Array (Option Value)} {oc_part_of kV_part_of dc_part_of pm_part_of cd_part_of ct_part_of : Value}
    (a_part_of : PySem.W.nsIn K mainGlobals "part_of" = some (some (.ref f_part_of)))
    (l_part_of : K.lookup f_part_of = some ⟨oc_part_of, od_part_of, .func (PySem.W.fnOf "part_of" "part_of" (defArgs s_part_of) (defBody s_part_of) (defScope s_part_of) .none kV_part_of dc_part_of pm_part_of an_part_of cd_part_of ct_part_of), sl_part_of⟩) (c_part_of : PySem.W.codeIn K cd_part_of "part_of" = true) (kp_part_of : PySem.W.keepIn K (.ref f_part_of) = true)
    {f_keys_of_part : Addr} {od_keys_of_part an_keys_of_part : Option Addr} {sl_keys_of_part : Array (Option Value)} {oc_keys_of_part kV_keys_of_part dc_keys_of_part pm_keys_of_part cd_keys_of_part ct_keys_of_part : Value}
    (a_keys_of_part : PySem.W.nsIn K mainGlobals "keys_of_part" = some (some (.ref f_keys_of_part)))
    (l_keys_of_part : K.lookup f_keys_of_part = some ⟨oc_keys_of_part, od_keys_of_part, .func (PySem.W.fnOf "keys_of_part" "keys_of_part" (defArgs s_keys_of_part) (defBody s_keys_of_part) (defScope s_keys_of_part) .none kV_keys_of_part dc_keys_of_part pm_keys_of_part an_keys_of_part cd_keys_of_part ct_keys_of_part), sl_keys_of_part⟩) (c_keys_of_part : PySem.W.codeIn K cd_keys_of_part "keys_of_part" = true) (kp_keys_of_part : PySem.W.keepIn K (.ref f_keys_of_part) = true)
    {f_law_row : Addr} {od_law_row an_law_row : Option Addr} {sl_law_row : Array (Option Value)} {oc_law_row kV_law_row dc_law_row pm_law_row cd_law_row ct_law_row : Value}
    (a_law_row : PySem.W.nsIn K mainGlobals "_law_row" = some (some (.ref f_law_row)))
    (l_law_row : K.lookup f_law_row = some ⟨oc_law_row, od_law_row, .func (PySem.W.fnOf "_law_row" "_law_row" (defArgs s_law_row) (defBody s_law_row) (defScope s_law_row) .none kV_law_row dc_law_row pm_law_row an_law_row cd_law_row ct_law_row), sl_law_row⟩) (c_law_row : PySem.W.codeIn K cd_law_row "_law_row" = true) (kp_law_row : PySem.W.keepIn K (.ref f_law_row) = true)
    {f_law_digits : Addr} {od_law_digits an_law_digits : Option Addr} {sl_law_digits : Array (Option Value)} {oc_law_digits kV_law_digits dc_law_digits pm_law_digits cd_law_digits ct_law_digits : Value}
    (a_law_digits : PySem.W.nsIn K mainGlobals "_law_digits" = some (some (.ref f_law_digits)))
    (l_law_digits : K.lookup f_law_digits = some ⟨oc_law_digits, od_law_digits, .func (PySem.W.fnOf "_law_digits" "_law_digits" (defArgs s_law_digits) (defBody s_law_digits) (defScope s_law_digits) .none kV_law_digits dc_law_digits pm_law_digits an_law_digits cd_law_digits ct_law_digits), sl_law_digits⟩) (c_law_digits : PySem.W.codeIn K cd_law_digits "_law_digits" = true) (kp_law_digits : PySem.W.keepIn K (.ref f_law_digits) = true)
    {f_law_sign : Addr} {od_law_sign an_law_sign : Option Addr} {sl_law_sign : Array (Option Value)} {oc_law_sign kV_law_sign dc_law_sign pm_law_sign cd_law_sign ct_law_sign : Value}
    (a_law_sign : PySem.W.nsIn K mainGlobals "_law_sign" = some (some (.ref f_law_sign)))
    (l_law_sign : K.lookup f_law_sign = some ⟨oc_law_sign, od_law_sign, .func (PySem.W.fnOf "_law_sign" "_law_sign" (defArgs s_law_sign) (defBody s_law_sign) (defScope s_law_sign) .none kV_law_sign dc_law_sign pm_law_sign an_law_sign cd_law_sign ct_law_sign), sl_law_sign⟩) (c_law_sign : PySem.W.codeIn K cd_law_sign "_law_sign" = true) (kp_law_sign : PySem.W.keepIn K (.ref f_law_sign) = true)
    {f_law_key : Addr} {od_law_key an_law_key : Option Addr} {sl_law_key : Array (Option Value)} {oc_law_key kV_law_key dc_law_key pm_law_key cd_law_key ct_law_key : Value}
    (a_law_key : PySem.W.nsIn K mainGlobals "_law_key" = some (some (.ref f_law_key)))
    (l_law_key : K.lookup f_law_key = some ⟨oc_law_key, od_law_key, .func (PySem.W.fnOf "_law_key" "_law_key" (defArgs s_law_key) (defBody s_law_key) (defScope s_law_key) .none kV_law_key dc_law_key pm_law_key an_law_key cd_law_key ct_law_key), sl_law_key⟩) (c_law_key : PySem.W.codeIn K cd_law_key "_law_key" = true) (kp_law_key : PySem.W.keepIn K (.ref f_law_key) = true)
    {f_law_part : Addr} {od_law_part an_law_part : Option Addr} {sl_law_part : Array (Option Value)} {oc_law_part kV_law_part dc_law_part pm_law_part cd_law_part ct_law_part : Value}
    (a_law_part : PySem.W.nsIn K mainGlobals "_law_part" = some (some (.ref f_law_part)))
    (l_law_part : K.lookup f_law_part = some ⟨oc_law_part, od_law_part, .func (PySem.W.fnOf "_law_part" "_law_part" (defArgs s_law_part) (defBody s_law_part) (defScope s_law_part) .none kV_law_part dc_law_part pm_law_part an_law_part cd_law_part ct_law_part), sl_law_part⟩) (c_law_part : PySem.W.codeIn K cd_law_part "_law_part" = true) (kp_law_part : PySem.W.keepIn K (.ref f_law_part) = true)
    {f_law_is_pair : Addr} {od_law_is_pair an_law_is_pair : Option Addr} {sl_law_is_pair : Array (Option Value)} {oc_law_is_pair kV_law_is_pair dc_law_is_pair pm_law_is_pair cd_law_is_pair ct_law_is_pair : Value}
    (a_law_is_pair : PySem.W.nsIn K mainGlobals "_law_is_pair" = some (some (.ref f_law_is_pair)))
    (l_law_is_pair : K.lookup f_law_is_pair = some ⟨oc_law_is_pair, od_law_is_pair, .func (PySem.W.fnOf "_law_is_pair" "_law_is_pair" (defArgs s_law_is_pair) (defBody s_law_is_pair) (defScope s_law_is_pair) .none kV_law_is_pair dc_law_is_pair pm_law_is_pair an_law_is_pair cd_law_is_pair ct_law_is_pair), sl_law_is_pair⟩) (c_law_is_pair : PySem.W.codeIn K cd_law_is_pair "_law_is_pair" = true) (kp_law_is_pair : PySem.W.keepIn K (.ref f_law_is_pair) = true)
    {f_law_text : Addr} {od_law_text an_law_text : Option Addr} {sl_law_text : Array (Option Value)} {oc_law_text kV_law_text dc_law_text pm_law_text cd_law_text ct_law_text : Value}
    (a_law_text : PySem.W.nsIn K mainGlobals "_law_text" = some (some (.ref f_law_text)))
    (l_law_text : K.lookup f_law_text = some ⟨oc_law_text, od_law_text, .func (PySem.W.fnOf "_law_text" "_law_text" (defArgs s_law_text) (defBody s_law_text) (defScope s_law_text) .none kV_law_text dc_law_text pm_law_text an_law_text cd_law_text ct_law_text), sl_law_text⟩) (c_law_text : PySem.W.codeIn K cd_law_text "_law_text" = true) (kp_law_text : PySem.W.keepIn K (.ref f_law_text) = true)
    {f_law_keys : Addr} {od_law_keys an_law_keys : Option Addr} {sl_law_keys : Array (Option Value)} {oc_law_keys kV_law_keys dc_law_keys pm_law_keys cd_law_keys ct_law_keys : Value}
    (a_law_keys : PySem.W.nsIn K mainGlobals "_law_keys" = some (some (.ref f_law_keys)))
    (l_law_keys : K.lookup f_law_keys = some ⟨oc_law_keys, od_law_keys, .func (PySem.W.fnOf "_law_keys" "_law_keys" (defArgs s_law_keys) (defBody s_law_keys) (defScope s_law_keys) .none kV_law_keys dc_law_keys pm_law_keys an_law_keys cd_law_keys ct_law_keys), sl_law_keys⟩) (c_law_keys : PySem.W.codeIn K cd_law_keys "_law_keys" = true) (kp_law_keys : PySem.W.keepIn K (.ref f_law_keys) = true)
    {f_law_value : Addr} {od_law_value an_law_value : Option Addr} {sl_law_value : Array (Option Value)} {oc_law_value kV_law_value dc_law_value pm_law_value cd_law_value ct_law_value : Value}
    (a_law_value : PySem.W.nsIn K mainGlobals "_law_value" = some (some (.ref f_law_value)))
    (l_law_value : K.lookup f_law_value = some ⟨oc_law_value, od_law_value, .func (PySem.W.fnOf "_law_value" "_law_value" (defArgs s_law_value) (defBody s_law_value) (defScope s_law_value) .none kV_law_value dc_law_value pm_law_value an_law_value cd_law_value ct_law_value), sl_law_value⟩) (c_law_value : PySem.W.codeIn K cd_law_value "_law_value" = true) (kp_law_value : PySem.W.keepIn K (.ref f_law_value) = true)
    {f_law_deed : Addr} {od_law_deed an_law_deed : Option Addr} {sl_law_deed : Array (Option Value)} {oc_law_deed kV_law_deed dc_law_deed pm_law_deed cd_law_deed ct_law_deed : Value}
    (a_law_deed : PySem.W.nsIn K mainGlobals "_law_deed" = some (some (.ref f_law_deed)))
    (l_law_deed : K.lookup f_law_deed = some ⟨oc_law_deed, od_law_deed, .func (PySem.W.fnOf "_law_deed" "_law_deed" (defArgs s_law_deed) (defBody s_law_deed) (defScope s_law_deed) .none kV_law_deed dc_law_deed pm_law_deed an_law_deed cd_law_deed ct_law_deed), sl_law_deed⟩) (c_law_deed : PySem.W.codeIn K cd_law_deed "_law_deed" = true) (kp_law_deed : PySem.W.keepIn K (.ref f_law_deed) = true)
    {f_law_rows : Addr} {od_law_rows an_law_rows : Option Addr} {sl_law_rows : Array (Option Value)} {oc_law_rows kV_law_rows dc_law_rows pm_law_rows cd_law_rows ct_law_rows : Value}
    (a_law_rows : PySem.W.nsIn K mainGlobals "_law_rows" = some (some (.ref f_law_rows)))
    (l_law_rows : K.lookup f_law_rows = some ⟨oc_law_rows, od_law_rows, .func (PySem.W.fnOf "_law_rows" "_law_rows" (defArgs s_law_rows) (defBody s_law_rows) (defScope s_law_rows) .none kV_law_rows dc_law_rows pm_law_rows an_law_rows cd_law_rows ct_law_rows), sl_law_rows⟩) (c_law_rows : PySem.W.codeIn K cd_law_rows "_law_rows" = true) (kp_law_rows : PySem.W.keepIn K (.ref f_law_rows) = true)
    {f_law_deal : Addr} {od_law_deal an_law_deal : Option Addr} {sl_law_deal : Array (Option Value)} {oc_law_deal kV_law_deal dc_law_deal pm_law_deal cd_law_deal ct_law_deal : Value}
    (a_law_deal : PySem.W.nsIn K mainGlobals "_law_deal" = some (some (.ref f_law_deal)))
    (l_law_deal : K.lookup f_law_deal = some ⟨oc_law_deal, od_law_deal, .func (PySem.W.fnOf "_law_deal" "_law_deal" (defArgs s_law_deal) (defBody s_law_deal) (defScope s_law_deal) .none kV_law_deal dc_law_deal pm_law_deal an_law_deal cd_law_deal ct_law_deal), sl_law_deal⟩) (c_law_deal : PySem.W.codeIn K cd_law_deal "_law_deal" = true) (kp_law_deal : PySem.W.keepIn K (.ref f_law_deal) = true)
    {f_law : Addr} {od_law an_law : Option Addr} {sl_law : Array (Option Value)} {oc_law kV_law dc_law pm_law cd_law ct_law : Value}
    (a_law : PySem.W.nsIn K mainGlobals "law" = some (some (.ref f_law)))
    (l_law : K.lookup f_law = some ⟨oc_law, od_law, .func (PySem.W.fnOf "law" "law" (defArgs s_law) (defBody s_law) (defScope s_law) .none kV_law dc_law pm_law an_law cd_law ct_law), sl_law⟩) (c_law : PySem.W.codeIn K cd_law "law" = true) (kp_law : PySem.W.keepIn K (.ref f_law) = true)
    (z_enumerate : PySem.W.nsIn K mainGlobals "enumerate" = some none)
    (z_int : PySem.W.nsIn K mainGlobals "int" = some none)
    (z_isinstance : PySem.W.nsIn K mainGlobals "isinstance" = some none)
    (z_len : PySem.W.nsIn K mainGlobals "len" = some none)
    (z_list : PySem.W.nsIn K mainGlobals "list" = some none)
    (z_range : PySem.W.nsIn K mainGlobals "range" = some none)
    (z_sorted : PySem.W.nsIn K mainGlobals "sorted" = some none)
    (z_tuple : PySem.W.nsIn K mainGlobals "tuple" = some none) :
    ∃ fd : FuncData, (∀ (s : Shared) (v : Value), BindsTo s fd ⟨[v], []⟩ [("_law_script", v)]) ∧ ∀ base : Heap, K.In base → base.Ns mainGlobals mg → FnOk l.prog w K mg base CX0 6 fa fd ["_law_script"] (spLaw K) := by
  have e := hfa.symm.trans (PySem.W.mg_of X G a_law)
  cases e
  let CT : Nat → Addr := fun n => ([] : List Addr).getD n 0
  refine law_end (CT := CT) law_true ?_
  have F_part_of := fun_mk (st := s_part_of) l_part_of c_part_of kp_part_of
  have b_part_of := F_part_of.binds (ps := ["deal", "keys"]) fun _ _ _ _ _ _ us hl => match us, hl with | [_, _], _ => rfl
  have F_keys_of_part := fun_mk (st := s_keys_of_part) l_keys_of_part c_keys_of_part kp_keys_of_part
  have b_keys_of_part := F_keys_of_part.binds (ps := ["part"]) fun _ _ _ _ _ _ us hl => match us, hl with | [_], _ => rfl
  have F_law_row := fun_mk (st := s_law_row) l_law_row c_law_row kp_law_row
  have b_law_row := F_law_row.binds (ps := ["_law_script", "_law_k"]) fun _ _ _ _ _ _ us hl => match us, hl with | [_, _], _ => rfl
  have F_law_digits := fun_mk (st := s_law_digits) l_law_digits c_law_digits kp_law_digits
  have b_law_digits := F_law_digits.binds (ps := ["_law_row_here", "_law_sizes"]) fun _ _ _ _ _ _ us hl => match us, hl with | [_, _], _ => rfl
  have F_law_sign := fun_mk (st := s_law_sign) l_law_sign c_law_sign kp_law_sign
  have b_law_sign := F_law_sign.binds (ps := ["_law_number"]) fun _ _ _ _ _ _ us hl => match us, hl with | [_], _ => rfl
  have F_law_key := fun_mk (st := s_law_key) l_law_key c_law_key kp_law_key
  have b_law_key := F_law_key.binds (ps := ["_law_row_here", "_law_most"]) fun _ _ _ _ _ _ us hl => match us, hl with | [_, _], _ => rfl
  have F_law_part := fun_mk (st := s_law_part) l_law_part c_law_part kp_law_part
  have b_law_part := F_law_part.binds (ps := ["_law_deal_here", "_law_keys_here"]) fun _ _ _ _ _ _ us hl => match us, hl with | [_, _], _ => rfl
  have F_law_is_pair := fun_mk (st := s_law_is_pair) l_law_is_pair c_law_is_pair kp_law_is_pair
  have b_law_is_pair := F_law_is_pair.binds (ps := ["_law_data"]) fun _ _ _ _ _ _ us hl => match us, hl with | [_], _ => rfl
  have F_law_text := fun_mk (st := s_law_text) l_law_text c_law_text kp_law_text
  have b_law_text := F_law_text.binds (ps := ["_law_row_here", "_law_count"]) fun _ _ _ _ _ _ us hl => match us, hl with | [_, _], _ => rfl
  have F_law_keys := fun_mk (st := s_law_keys) l_law_keys c_law_keys kp_law_keys
  have b_law_keys := F_law_keys.binds (ps := ["_law_script", "_law_at", "_law_most"]) fun _ _ _ _ _ _ us hl => match us, hl with | [_, _, _], _ => rfl
  have F_law_value := fun_mk (st := s_law_value) l_law_value c_law_value kp_law_value
  have b_law_value := F_law_value.binds (ps := ["_law_row_here"]) fun _ _ _ _ _ _ us hl => match us, hl with | [_], _ => rfl
  have F_law_deed := fun_mk (st := s_law_deed) l_law_deed c_law_deed kp_law_deed
  have b_law_deed := F_law_deed.binds (ps := ["_law_keys_here", "_law_row_here"]) fun _ _ _ _ _ _ us hl => match us, hl with | [_, _], _ => rfl
  have F_law_rows := fun_mk (st := s_law_rows) l_law_rows c_law_rows kp_law_rows
  have b_law_rows := F_law_rows.binds (ps := ["_law_script", "_law_at", "_law_keys_here"]) fun _ _ _ _ _ _ us hl => match us, hl with | [_, _, _], _ => rfl
  have F_law_deal := fun_mk (st := s_law_deal) l_law_deal c_law_deal kp_law_deal
  have b_law_deal := F_law_deal.binds (ps := ["_law_keys_here", "_law_rows_here", "_law_row_here", "_law_more"]) fun _ _ _ _ _ _ us hl => match us, hl with | [_, _, _, _], _ => rfl
  have F_law := fun_mk (st := s_law) l_law c_law kp_law
  refine ⟨PySem.W.fnOf "law" "law" (defArgs s_law) (defBody s_law) (defScope s_law) .none kV_law dc_law pm_law an_law cd_law ct_law, fun s v => .of_eq rfl, fun base _ _ => ?_⟩
  have G_part_of : FnOk l.prog w K mg base CX0 1 f_part_of _ ["deal", "keys"] (spM K CT 2 m_part_of) := ok_part_of F_part_of (PySem.W.mg_none_of X G z_enumerate) (PySem.W.mg_none_of X G z_tuple)
  have G_keys_of_part : FnOk l.prog w K mg base CX0 1 f_keys_of_part _ ["part"] (spM K CT 1 m_keys_of_part) := ok_keys_of_part F_keys_of_part (PySem.W.mg_none_of X G z_sorted) (PySem.W.mg_none_of X G z_tuple)
  have G_law_row : FnOk l.prog w K mg base CX0 1 f_law_row _ ["_law_script", "_law_k"] (spM K CT 2 m_law_row) := ok_law_row F_law_row (PySem.W.mg_none_of X G z_int) (PySem.W.mg_none_of X G z_len)
  have G_law_digits : FnOk l.prog w K mg base CX0 1 f_law_digits _ ["_law_row_here", "_law_sizes"] (spM K CT 2 m_law_digits) := ok_law_digits F_law_digits (PySem.W.mg_none_of X G z_int)
  have G_law_sign : FnOk l.prog w K mg base CX0 1 f_law_sign _ ["_law_number"] (spM K CT 1 m_law_sign) := ok_law_sign F_law_sign (PySem.W.mg_none_of X G z_int)
  have G_law_key : FnOk l.prog w K mg base CX0 1 f_law_key _ ["_law_row_here", "_law_most"] (spM K CT 2 m_law_key) := ok_law_key F_law_key (PySem.W.mg_none_of X G z_int) (PySem.W.mg_none_of X G z_range)
  have G_law_part : FnOk l.prog w K mg base CX0 1 f_law_part _ ["_law_deal_here", "_law_keys_here"] (spM K CT 2 m_law_part) := ok_law_part F_law_part (PySem.W.mg_none_of X G z_len) (PySem.W.mg_none_of X G z_range) (PySem.W.mg_none_of X G z_tuple)
  have G_law_is_pair : FnOk l.prog w K mg base CX0 1 f_law_is_pair _ ["_law_data"] (spM K CT 1 m_law_is_pair) := ok_law_is_pair F_law_is_pair (PySem.W.mg_none_of X G z_isinstance) (PySem.W.mg_none_of X G z_len) (PySem.W.mg_none_of X G z_tuple)
  have G_law_text : FnOk l.prog w K mg base CX0 2 f_law_text _ ["_law_row_here", "_law_count"] (spM K CT 2 m_law_text) := ok_law_text F_law_text G_law_sign (PySem.W.mg_of X G a_law_sign) kp_law_sign b_law_sign (PySem.W.mg_none_of X G z_int) (PySem.W.mg_none_of X G z_range)
  have G_law_keys : FnOk l.prog w K mg base CX0 2 f_law_keys _ ["_law_script", "_law_at", "_law_most"] (spM K CT 3 m_law_keys) := ok_law_keys F_law_keys G_law_key (PySem.W.mg_of X G a_law_key) kp_law_key b_law_key G_law_row (PySem.W.mg_of X G a_law_row) kp_law_row b_law_row (PySem.W.mg_none_of X G z_int) (PySem.W.mg_none_of X G z_range)
  have G_law_value : FnOk l.prog w K mg base CX0 3 f_law_value _ ["_law_row_here"] (spM K CT 1 m_law_value) := ok_law_value F_law_value G_law_digits (PySem.W.mg_of X G a_law_digits) kp_law_digits b_law_digits G_law_text (PySem.W.mg_of X G a_law_text) kp_law_text b_law_text
  have G_law_deed : FnOk l.prog w K mg base CX0 4 f_law_deed _ ["_law_keys_here", "_law_row_here"] (spM K CT 2 m_law_deed) := ok_law_deed F_law_deed G_law_digits (PySem.W.mg_of X G a_law_digits) kp_law_digits b_law_digits G_law_value (PySem.W.mg_of X G a_law_value) kp_law_value b_law_value (PySem.W.mg_none_of X G z_len)
  have G_law_rows : FnOk l.prog w K mg base CX0 4 f_law_rows _ ["_law_script", "_law_at", "_law_keys_here"] (spM K CT 3 m_law_rows) := ok_law_rows F_law_rows G_law_row (PySem.W.mg_of X G a_law_row) kp_law_row b_law_row G_law_value (PySem.W.mg_of X G a_law_value) kp_law_value b_law_value (PySem.W.mg_none_of X G z_int) (PySem.W.mg_none_of X G z_len) (PySem.W.mg_none_of X G z_range)
  have G_law_deal : FnOk l.prog w K mg base CX0 5 f_law_deal _ ["_law_keys_here", "_law_rows_here", "_law_row_here", "_law_more"] (spM K CT 4 m_law_deal) := ok_law_deal F_law_deal G_law_deed (PySem.W.mg_of X G a_law_deed) kp_law_deed b_law_deed G_law_digits (PySem.W.mg_of X G a_law_digits) kp_law_digits b_law_digits (PySem.W.mg_none_of X G z_len) (PySem.W.mg_none_of X G z_range) (PySem.W.mg_none_of X G z_tuple)
  exact ok_law F_law G_law_deal (PySem.W.mg_of X G a_law_deal) kp_law_deal b_law_deal G_law_is_pair (PySem.W.mg_of X G a_law_is_pair) kp_law_is_pair b_law_is_pair G_law_key (PySem.W.mg_of X G a_law_key) kp_law_key b_law_key G_law_keys (PySem.W.mg_of X G a_law_keys) kp_law_keys b_law_keys G_law_part (PySem.W.mg_of X G a_law_part) kp_law_part b_law_part G_law_row (PySem.W.mg_of X G a_law_row) kp_law_row b_law_row G_law_rows (PySem.W.mg_of X G a_law_rows) kp_law_rows b_law_rows (PySem.W.mg_none_of X G z_int) (PySem.W.mg_none_of X G z_isinstance) G_keys_of_part (PySem.W.mg_of X G a_keys_of_part) kp_keys_of_part b_keys_of_part (PySem.W.mg_none_of X G z_len) (PySem.W.mg_none_of X G z_list) G_part_of (PySem.W.mg_of X G a_part_of) kp_part_of b_part_of (PySem.W.mg_none_of X G z_range) (PySem.W.mg_none_of X G z_sorted) (PySem.W.mg_none_of X G z_tuple)
end Gen
open PySem PySem.W PyProof.Rows
set_option maxRecDepth 100000 in
set_option maxHeartbeats 0 in
theorem PySem.Challenge.cw_crosskeep_k03_parts_of_deals_holds : PySem.Challenge.rw_crosskeep_k03_parts_of_deals.Holds := by
  w_on; o_law; k_head; (case hw => w_witness2)
  k_fill
  refine L2.walk_of (l := PySem.Challenge.rw_crosskeep_k03_parts_of_deals) (n := 63) (k := 6) (x := "_law_script") (CX := fun _ => L2.CX0) (sp := fun w => E.spLaw _) rfl (by decide) rfl ⟨rfl, by decide, by decide⟩ (fun w h Y => PySem.W.kIn_of Y) ?F (fun _ _ a ns hl _ hS => ⟨a, ns, rfl, hS, hl, fun _ => rfl⟩) (fun _ _ _ _ _ h => h)
  case F =>
    intro w mg fa h KX G hmg
    refine' Gen.all_mk KX G hmg ?a_part_of ?l_part_of ?c_part_of ?kp_part_of ?a_keys_of_part ?l_keys_of_part ?c_keys_of_part ?kp_keys_of_part ?a_law_row ?l_law_row ?c_law_row ?kp_law_row ?a_law_digits ?l_law_digits ?c_law_digits ?kp_law_digits ?a_law_sign ?l_law_sign ?c_law_sign ?kp_law_sign ?a_law_key ?l_law_key ?c_law_key ?kp_law_key ?a_law_part ?l_law_part ?c_law_part ?kp_law_part ?a_law_is_pair ?l_law_is_pair ?c_law_is_pair ?kp_law_is_pair ?a_law_text ?l_law_text ?c_law_text ?kp_law_text ?a_law_keys ?l_law_keys ?c_law_keys ?kp_law_keys ?a_law_value ?l_law_value ?c_law_value ?kp_law_value ?a_law_deed ?l_law_deed ?c_law_deed ?kp_law_deed ?a_law_rows ?l_law_rows ?c_law_rows ?kp_law_rows ?a_law_deal ?l_law_deal ?c_law_deal ?kp_law_deal ?a_law ?l_law ?c_law ?kp_law ?z_enumerate ?z_int ?z_isinstance ?z_len ?z_list ?z_range ?z_sorted ?z_tuple
    (case a_part_of => k_is); (case l_part_of => k_is); (case c_part_of => k_is); (case kp_part_of => k_is); (case a_keys_of_part => k_is); (case l_keys_of_part => k_is); (case c_keys_of_part => k_is); (case kp_keys_of_part => k_is); (case a_law_row => k_is); (case l_law_row => k_is); (case c_law_row => k_is); (case kp_law_row => k_is); (case a_law_digits => k_is); (case l_law_digits => k_is); (case c_law_digits => k_is); (case kp_law_digits => k_is); (case a_law_sign => k_is); (case l_law_sign => k_is); (case c_law_sign => k_is); (case kp_law_sign => k_is); (case a_law_key => k_is); (case l_law_key => k_is); (case c_law_key => k_is); (case kp_law_key => k_is); (case a_law_part => k_is); (case l_law_part => k_is); (case c_law_part => k_is); (case kp_law_part => k_is); (case a_law_is_pair => k_is); (case l_law_is_pair => k_is); (case c_law_is_pair => k_is); (case kp_law_is_pair => k_is); (case a_law_text => k_is); (case l_law_text => k_is); (case c_law_text => k_is); (case kp_law_text => k_is); (case a_law_keys => k_is); (case l_law_keys => k_is); (case c_law_keys => k_is); (case kp_law_keys => k_is); (case a_law_value => k_is); (case l_law_value => k_is); (case c_law_value => k_is); (case kp_law_value => k_is); (case a_law_deed => k_is); (case l_law_deed => k_is); (case c_law_deed => k_is); (case kp_law_deed => k_is); (case a_law_rows => k_is); (case l_law_rows => k_is); (case c_law_rows => k_is); (case kp_law_rows => k_is); (case a_law_deal => k_is); (case l_law_deal => k_is); (case c_law_deal => k_is); (case kp_law_deal => k_is); (case a_law => k_is); (case l_law => k_is); (case c_law => k_is); (case kp_law => k_is); (case z_enumerate => k_is); (case z_int => k_is); (case z_isinstance => k_is); (case z_len => k_is); (case z_list => k_is); (case z_range => k_is); (case z_sorted => k_is); (case z_tuple => k_is)
