import PyProof.Rows.All
import Wide.All
import OpenK.AllK
import Wide.FinOn
import HandS.ForMost
import HandS.Deep
import HandS.TupAny
import HandS.Wide
import KE.DataEq
import HandS.Text
import HandS.Dict
import HandS.NoneIn
import HandS.Exc
import HandS.IsInst
import HandS.SortInts
import HandS.Conv
import HandS.TupLe
import HandS.Defaults
import HandS.Rev
import HandS.Iter
import HandS.SetBool
import HandS.TupSets
import HandS.SetKeys
import HandS.SetFor
import HandS.Strs
import PyProof.StrOps2
import HandS.Property
import HandS.Zip
import HandS.SortRule
import HandS.Small
import HandS.More
import HandS.WordsDict
import HandS.SetTxt0
import HandS.Walk
import KE.KEqDict
import HandS.TupMul
import KE.SortData
import KE.DataCmp
import HandS.Style
import HandS.CallLocal
import HandS.Replace
import PyProof.LongRange
import HandS.ExcOwn
import HandS.TryOnly
import HandS.WordsExc
import HandS.ExcInit
import KE.KSuper
import KE.KExcSuper
import HandS.ExcIs
import HandS.ExcField
import KE.KExcIs
import KE.RegKSuper
import PySem.Challenge.RW_crosskeep_k15_malformed_lines
set_option Elab.async false
set_option linter.all false
set_option maxRecDepth 100000
set_option maxHeartbeats 40000000
set_option maxHeartbeats 0 in
open PySem PySem.W in
open_top hd for PySem.Challenge.rw_crosskeep_k15_malformed_lines
namespace E
open PySem L2
inductive D where
  | non | bl (b:Bool) | int (i:Int) | str (x:Str)
  | tup (xs:List D) | lst (o:Bool) (xs:List D) | dic (o t:Bool) (kvs:List (D×D)) | loc (n:Nat) | ty (n:String) | fn (n:String) | und
mutual
@[simp] def D.pure: D→Bool
  | .tup xs=>pureL xs
  | .lst o xs=>!o&&pureL xs
  | .dic o _ kvs=>!o&&pureK kvs
  | .und=>false
  | .non=>true
  | .bl _=>true
  | .int _=>true
  | .str _=>true
  | .loc _=>true
  | .ty _=>true
  | .fn _=>true
def pureL: List D→Bool
  | []=>true
  | x::xs=>x.pure&&pureL xs
def pureK: List (D×D)→Bool
  | []=>true
  | (_,x)::xs=>x.pure&&pureK xs
end
mutual
@[simp] def D.fz: D→D
  | .tup xs=>.tup (fzL xs)
  | .lst _ xs=>.lst false (fzL xs)
  | .dic _ t kvs=>.dic false t (fzK kvs)
  | .non=>.non
  | .bl b=>.bl b
  | .int i=>.int i
  | .str x=>.str x
  | .loc n=>.loc n
  | .ty n=>.ty n
  | .fn n=>.fn n
  | .und=>.und
def fzL: List D→List D
  | []=>[]
  | x::xs=>x.fz::fzL xs
def fzK: List (D×D)→List (D×D)
  | []=>[]
  | (k,x)::xs=>(k,x.fz)::fzK xs
end
mutual
def D.toPy: D→Option PyData
  | .non=>some .none
  | .bl b=>some (.bool b)
  | .int i=>some (.int i)
  | .str x=>some (.str x)
  | .tup xs=>(toPyL xs).map .tuple
  | .lst _ xs=>(toPyL xs).map .list
  | _=>none
def toPyL:List D→Option (List PyData)
  | []=>some []
  | x::xs=>match x.toPy,toPyL xs with
    | some a,some b=>some (a::b)
    | _,_=>none
end
structure Wd where
  F:Addr→Prop
  ι:List Addr
def KL(K:PySem.W.Frag)(a:Addr)(xs:List V): Prop :=
  ∃ (o:Obj) (its:Array Value) (n:Nat),K.lookup a=some o∧o.cls=.type "list"∧o.dict=none∧o.data=.seq its n∧its.size≤sizeLine∧Vals xs its.toList
def KT(K:PySem.W.Frag)(a:Addr)(xs:List V): Prop :=
  ∃ (o:Obj) (its:Array Value) (n:Nat),K.lookup a=some o∧o.cls=.type "tuple"∧o.data=.seq its n∧its.size≤sizeLine∧Vals xs its.toList
def FzL(K:PySem.W.Frag)(W:Wd)(H:Hp)(a:Addr)(xs:List V): Prop:=(W.F a∧Rd H a (.lst xs))∨KL K a xs
def FzT(K:PySem.W.Frag)(W:Wd)(H:Hp)(a:Addr)(xs:List V): Prop:=(W.F a∧Rd H a (.tup xs))∨KT K a xs
theorem FzL.sq{K:PySem.W.Frag}{W:Wd}{H:Hp}{a:Addr}{xs:List V}(h:FzL K W H a xs): SqL K H a xs:=by
  rcases h with ⟨_,h⟩ | h
  · exact .inl h
  · exact .inr h
theorem FzT.sq{K:PySem.W.Frag}{W:Wd}{H:Hp}{a:Addr}{xs:List V}(h:FzT K W H a xs): SqT K H a xs:=by
  rcases h with ⟨_,h⟩ | h
  · exact .inl h
  · exact .inr h
def kD: Key→D
  | .inl i=>.int i
  | .inr x=>.str x
def tEnt(x:List Int×Addr×Value): DictEntry:=⟨reduceHash (Builtin.Tuple.tupleHashOf (x.1.map hashInt)),.ref x.2.1,x.2.2⟩
def DtP (a:Addr) (kvs:List (List Int×Addr×V)) (h:Heap):Prop:=(a==sysModules)=false∧kvs.length≤sizeLine ∧
  ∃ xs:List (List Int×Addr×Value),Paired (fun(p:List Int×Addr×V) (q:List Int×Addr×Value)=>p.1=q.1∧p.2.1=q.2.1∧RelV p.2.2 q.2.2) kvs xs ∧
    ∃ o es ep,h.get? a=some o∧o.ExactDict∧o.data=.dict es ep∧es.toList=xs.map tEnt∧(xs.map (·.1)).Nodup
def DtO(a:Addr)(kvs:List (List Int×Addr×V)): HO:=.ext (DtP a kvs)
def kDX(ks:List Int): D:=.tup (ks.map D.int)
mutual
inductive RepD (K:PySem.W.Frag) (W:Wd) (H:Hp):V→D→List Addr→Prop
  | non:RepD K W H .non .non []
  | bl {b}:RepD K W H (.bl b) (.bl b) []
  | int {i}:RepD K W H (.int i) (.int i) []
  | str {x}:RepD K W H (.str x) (.str x) []
  | loc {n a}:W.ι[n]?=some a→RepD K W H (.ref a) (.loc n) []
  | ty {n}:RepD K W H (.ty n) (.ty n) []
  | fn {n:String} {a}:PySem.W.nsIn K mainGlobals (Str.ofString n)=some (some (.ref a))→RepD K W H (.ref a) (.fn n) []
  | tup {a vs ds fp}:FzT K W H a vs→RepL K W H vs ds fp→RepD K W H (.ref a) (.tup ds) fp
  | lstF {a vs ds}:FzL K W H a vs→RepL K W H vs ds []→RepD K W H (.ref a) (.lst false ds) []
  | lstO {a vs ds fp}:H a=some (.lst vs)→RepL K W H vs ds fp→RepD K W H (.ref a) (.lst true ds) (a::fp)
  | dkF {a} {kvs:List (Key×V)} {dd:List (D×D)}:W.F a→H a=some (.dK kvs)→kvs.map (fun p=>kD p.1)=dd.map (·.1)→RepL K W H (kvs.map (·.2)) (dd.map (·.2)) []→RepD K W H (.ref a) (.dic false false dd) []
  | dtF {a} {kvs:List (List Int×Addr×V)} {dd:List (D×D)}:W.F a→H a=some (DtO a kvs)→kvs.map (fun p=>kDX p.1)=dd.map (·.1)→(∀ p∈kvs,FzT K W H p.2.1 (p.1.map V.int))→RepL K W H (kvs.map (·.2.2)) (dd.map (·.2)) []→RepD K W H (.ref a) (.dic false true dd) []
  | dkO {a fp} {kvs:List (Key×V)} {dd:List (D×D)}:H a=some (.dK kvs)→kvs.map (fun p=>kD p.1)=dd.map (·.1)→RepL K W H (kvs.map (·.2)) (dd.map (·.2)) fp→RepD K W H (.ref a) (.dic true false dd) (a::fp)
  | dtO {a fp} {kvs:List (List Int×Addr×V)} {dd:List (D×D)}:H a=some (DtO a kvs)→kvs.map (fun p=>kDX p.1)=dd.map (·.1)→(∀ p∈kvs,FzT K W H p.2.1 (p.1.map V.int))→RepL K W H (kvs.map (·.2.2)) (dd.map (·.2)) fp→RepD K W H (.ref a) (.dic true true dd) (a::fp)
inductive RepL (K:PySem.W.Frag) (W:Wd) (H:Hp):List V→List D→List Addr→Prop
  | nil:RepL K W H [] [] []
  | cons {v d f vs ds g}:RepD K W H v d f→RepL K W H vs ds g→RepL K W H (v::vs) (d::ds) (f++g)
end
structure Ext (W:Wd) (H:Hp) (W':Wd) (H':Hp) (fp:List Addr):Prop where
  fm:∀ a,W.F a→W'.F a
  im:∀ (n:Nat) a,W.ι[n]?=some a→W'.ι[n]?=some a
  keep:∀ a o,H a=some o→a ∉ fp→H' a=some o
  fnew:∀ a,W'.F a→W.F a∨a∈fp∨H a=none
  there:∀ a,H' a=none→H a=none
def Own(W:Wd)(H:Hp)(fp:List Addr): Prop:=∀ a∈fp,¬ W.F a∧H a≠none
def Fix(W:Wd)(H:Hp): Prop:=∀ a,W.F a→H a≠none
theorem Ext.refl(W:Wd)(H:Hp)(fp:List Addr): Ext W H W H fp:=⟨fun _ h=>h,fun _ _ h=>h,fun _ _ h _=>h,fun _ h=>.inl h,fun _ h=>h⟩
theorem Ext.trans{W W1 W2:Wd}{H H1 H2:Hp}{fp fq:List Addr}(e:Ext W H W1 H1 fp)(f:Ext W1 H1 W2 H2 fq)(s:∀ a∈fq,a∈fp∨H a=none): Ext W H W2 H2 fp where
  fm:=fun a h=>f.fm a (e.fm a h)
  im:=fun n a h=>f.im n a (e.im n a h)
  keep:=fun a o h q=>f.keep a o (e.keep a o h q) fun z=>by
    rcases s a z with z | z
    · exact q z
    · rw[h] at z;cases z
  fnew:=fun a h=>by
    rcases f.fnew a h with z | z | z
    · exact e.fnew a z
    · rcases s a z with y | y
      · exact .inr (.inl y)
      · exact .inr (.inr y)
    · exact .inr (.inr (e.there a z))
  there:=fun a h=>e.there a (f.there a h)
theorem Ext.sub{W W1:Wd}{H H1:Hp}{fp fq:List Addr}(e:Ext W H W1 H1 fp)(s:∀ a∈fp,a∈fq): Ext W H W1 H1 fq where
  fm:=e.fm
  im:=e.im
  keep:=fun a o h q=>e.keep a o h fun z=>q (s a z)
  fnew:=fun a h=>by
    rcases e.fnew a h with z | z | z
    · exact .inl z
    · exact .inr (.inl (s a z))
    · exact .inr (.inr z)
  there:=e.there
theorem Own.app{W:Wd}{H:Hp}{f g:List Addr}: Own W H (f++g)↔Own W H f∧Own W H g:=by
  unfold Own
  constructor
  · intro h
    exact⟨fun a m=>h a (List.mem_append_left _ m),fun a m=>h a (List.mem_append_right _ m)⟩
  · rintro⟨h,k⟩ a m
    rcases List.mem_append.mp m with m | m
    · exact h a m
    · exact k a m
theorem Own.nil{W:Wd}{H:Hp}: Own W H []:=fun a m=>by cases m
theorem Own.ext{W W1:Wd}{H H1:Hp}{fp g:List Addr}(o:Own W H g)(e:Ext W H W1 H1 fp)(d:∀ a∈g,a ∉ fp): Own W1 H1 g:=fun a m=>by
  obtain⟨h1,h2⟩:=o a m
  refine⟨fun z=>?_,fun z=>h2 (e.there a z)⟩
  rcases e.fnew a z with y | y | y
  · exact h1 y
  · exact d a m y
  · exact h2 y
section
variable {K:PySem.W.Frag} {W W':Wd} {H H':Hp} {fp:List Addr}
theorem rd_ext{a:Addr}{o:HO}(h:Rd H a o)(k:∀ o,H a=some o→H' a=some o): Rd H' a o:=by
  rcases h with h | ⟨u,h⟩
  · exact .inl (k _ h)
  · exact .inr ⟨u,k _ h⟩
def Off(W:Wd)(fp:List Addr): Prop:=∀ a∈fp,¬ W.F a
theorem FzL.ext{a:Addr}{xs:List V}(h:FzL K W H a xs)(e:Ext W H W' H' fp)(o:Off W fp): FzL K W' H' a xs:=by
  rcases h with ⟨h1,h2⟩ | h
  · exact .inl ⟨e.fm a h1,rd_ext h2 fun u q=>e.keep a u q fun m=>o a m h1⟩
  · exact .inr h
theorem FzT.ext{a:Addr}{xs:List V}(h:FzT K W H a xs)(e:Ext W H W' H' fp)(o:Off W fp): FzT K W' H' a xs:=by
  rcases h with ⟨h1,h2⟩ | h
  · exact .inl ⟨e.fm a h1,rd_ext h2 fun u q=>e.keep a u q fun m=>o a m h1⟩
  · exact .inr h
mutual
theorem RepD.ext(e:Ext W H W' H' fp)(o:Off W fp): ∀ {v:V} {d:D} {g:List Addr},RepD K W H v d g→(∀ a∈g,a ∉ fp)→RepD K W' H' v d g
  | _,_,_,.non,_=>.non
  | _,_,_,.bl,_=>.bl
  | _,_,_,.int,_=>.int
  | _,_,_,.str,_=>.str
  | _,_,_,.loc h,_=>.loc (e.im _ _ h)
  | _,_,_,.ty,_=>.ty
  | _,_,_,.fn h,_=>.fn h
  | _,_,_,.tup h l,n=>.tup (h.ext e o) (RepL.ext e o l n)
  | _,_,_,.lstF h l,n=>.lstF (h.ext e o) (RepL.ext e o l n)
  | _,_,_,.lstO h l,n=>.lstO (e.keep _ _ h (n _ (List.mem_cons_self ..))) (RepL.ext e o l fun a m=>n a (List.mem_cons_of_mem _ m))
  | _,_,_,.dkF f h k l,n=>.dkF (e.fm _ f) (e.keep _ _ h fun m=>o _ m f) k (RepL.ext e o l n)
  | _,_,_,.dtF f h k t l,n=>.dtF (e.fm _ f) (e.keep _ _ h fun m=>o _ m f) k (fun p m=>(t p m).ext e o) (RepL.ext e o l n)
  | _,_,_,.dkO h k l,n=>.dkO (e.keep _ _ h (n _ (List.mem_cons_self ..))) k (RepL.ext e o l fun a m=>n a (List.mem_cons_of_mem _ m))
  | _,_,_,.dtO h k t l,n=>.dtO (e.keep _ _ h (n _ (List.mem_cons_self ..))) k (fun p m=>(t p m).ext e o) (RepL.ext e o l fun a m=>n a (List.mem_cons_of_mem _ m))
theorem RepL.ext(e:Ext W H W' H' fp)(o:Off W fp): ∀ {vs:List V} {ds:List D} {g:List Addr},RepL K W H vs ds g→(∀ a∈g,a ∉ fp)→RepL K W' H' vs ds g
  | _,_,_,.nil,_=>.nil
  | _,_,_,.cons h l,n=>.cons (RepD.ext e o h fun a m=>n a (List.mem_append_left _ m)) (RepL.ext e o l fun a m=>n a (List.mem_append_right _ m))
end
mutual
theorem RepD.pure: ∀ {v:V} {d:D} {g:List Addr},RepD K W H v d g→d.pure=true→g=[]
  | _,_,_,.non,_=>rfl
  | _,_,_,.bl,_=>rfl
  | _,_,_,.int,_=>rfl
  | _,_,_,.str,_=>rfl
  | _,_,_,.loc _,_=>rfl
  | _,_,_,.ty,_=>rfl
  | _,_,_,.fn _,_=>rfl
  | _,_,_,.tup _ l,p=>RepL.pure l p
  | _,_,_,.lstF _ _,_=>rfl
  | _,_,_,.lstO _ _,p=>by simp[D.pure] at p
  | _,_,_,.dkF _ _ _ _,_=>rfl
  | _,_,_,.dtF _ _ _ _ _,_=>rfl
  | _,_,_,.dkO _ _ _,p=>by simp[D.pure] at p
  | _,_,_,.dtO _ _ _ _,p=>by simp[D.pure] at p
theorem RepL.pure: ∀ {vs:List V} {ds:List D} {g:List Addr},RepL K W H vs ds g→pureL ds=true→g=[]
  | _,_,_,.nil,_=>rfl
  | _,_,_,.cons h l,p=>by
    have p':_∧_:=Bool.and_eq_true_iff.mp p
    rw[RepD.pure h p'.1,RepL.pure l p'.2]
    rfl
end
theorem fzL_map: ∀ {ds:List D},fzL ds=ds.map D.fz
  | []=>rfl
  | d::ds=>by rw[fzL,List.map_cons,fzL_map]
theorem fzK_map: ∀ {kvs:List (D×D)},fzK kvs=kvs.map fun p=>(p.1,p.2.fz)
  | []=>rfl
  | (k,d)::r=>by rw[fzK,List.map_cons,fzK_map]
mutual
theorem fz_pure: ∀ d:D,d≠.und→(∀ d',d'=d→True)→d.pure=true→d.fz=d
  | .non,_,_,_=>rfl
  | .bl _,_,_,_=>rfl
  | .int _,_,_,_=>rfl
  | .str _,_,_,_=>rfl
  | .loc _,_,_,_=>rfl
  | .ty _,_,_,_=>rfl
  | .fn _,_,_,_=>rfl
  | .und,h,_,_=>rfl
  | .tup xs,_,_,p=>by
    have p':pureL xs=true:=by simpa [D.pure] using p
    rw[D.fz,fzL_pure xs p']
  | .lst o xs,_,_,p=>by
    have p':o=false∧pureL xs=true:=by simpa [D.pure] using p
    rw[D.fz,fzL_pure xs p'.2,p'.1]
  | .dic o t xs,_,_,p=>by
    have p':o=false∧pureK xs=true:=by simpa [D.pure] using p
    rw[D.fz,fzK_pure xs p'.2,p'.1]
theorem fzL_pure: ∀ ds:List D,pureL ds=true→fzL ds=ds
  | [],_=>rfl
  | d::ds,p=>by
    have p':d.pure=true∧pureL ds=true:=by simpa [pureL] using p
    rw[fzL,fz_pure d (by intro e;subst e;exact absurd p'.1 (by simp[D.pure])) (fun _ _=>trivial) p'.1,fzL_pure ds p'.2]
theorem fzK_pure: ∀ ds:List (D×D),pureK ds=true→fzK ds=ds
  | [],_=>rfl
  | (k,d)::ds,p=>by
    have p':d.pure=true∧pureK ds=true:=by simpa [pureK] using p
    rw[fzK,fz_pure d (by intro e;subst e;exact absurd p'.1 (by simp[D.pure])) (fun _ _=>trivial) p'.1,fzK_pure ds p'.2]
end
end
end E
namespace E
open PySem L2
structure Ob where
  cls:Nat
  fs:List (String×D)
structure Mem where
  env:List D
  hs:List Ob
inductive Res (α:Type) where
  | ok (a:α)
  | exc (x:D) (m:Mem)
  | fail
def Res.bind{α β:Type}(r:Res α)(f:α→Res β): Res β:=match r with
  | .ok a=>f a
  | .exc x m=>.exc x m
  | .fail=>.fail
@[simp] theorem Res.bind_ok{α β:Type}(a:α)(f:α→Res β): (Res.ok a).bind f=f a:=rfl
@[simp] theorem Res.bind_fail{α β:Type}(f:α→Res β): (Res.fail:Res α).bind f=.fail:=rfl
@[simp] theorem Res.bind_exc{α β:Type}(x:D)(m:Mem)(f:α→Res β): (Res.exc x m:Res α).bind f=.exc x m:=rfl
theorem Res.bind_eq{α β:Type}{r:Res α}{f:α→Res β}{b:β}(h:r.bind f=.ok b): ∃ a,r=.ok a∧f a=.ok b:=by
  cases r with
  | ok a=>exact⟨a,rfl,h⟩
  | exc x m=>cases h
  | fail=>cases h
abbrev M(α:Type):= Mem→Res (α×Mem)
abbrev MQ(α:Type):= Mem→Res α
def Res.of{α:Type}: Option α→Res α
  | some a=>.ok a
  | none=>.fail
@[simp] theorem Res.of_some{α:Type}(a:α): Res.of (some a)=.ok a:=rfl
@[simp] theorem Res.of_none{α:Type}: Res.of (none:Option α)=.fail:=rfl
theorem Res.of_eq{α:Type}{o:Option α}{a:α}(h:Res.of o=.ok a): o=some a:=by
  cases o with
  | none=>cases h
  | some b=>cases h;rfl
noncomputable def cdec(p:Prop): Bool:=@decide p (Classical.propDecidable p)
theorem cdec_of{p:Prop}(h:p): cdec p=true:=@decide_eq_true p (Classical.propDecidable p) h
theorem of_cdec{p:Prop}(h:cdec p=true): p:=@of_decide_eq_true p (Classical.propDecidable p) h
def Res.when{α:Type}(b:Bool)(r:Res α): Res α:=if b=true then r else .fail
@[simp] theorem Res.when_true{α:Type}(r:Res α): Res.when true r=r:=rfl
@[simp] theorem Res.when_false{α:Type}(r:Res α): Res.when false r=.fail:=rfl
theorem Res.when_eq{α:Type}{b:Bool}{r:Res α}{a:α}(h:Res.when b r=.ok a): b=true∧r=.ok a:=by
  cases b with
  | false=>cases h
  | true=>exact⟨rfl,h⟩
section
variable {K:PySem.W.Frag} {W W':Wd} {H H':Hp} {fp:List Addr}
mutual
theorem RepD.frz(f:∀ a,W.F a→W'.F a)(i:W'.ι=W.ι): ∀ {v:V} {d:D} {g:List Addr},RepD K W H v d g→(∀ a∈g,W'.F a)→RepD K W' H v d.fz []
  | _,_,_,.non,_=>.non
  | _,_,_,.bl,_=>.bl
  | _,_,_,.int,_=>.int
  | _,_,_,.str,_=>.str
  | _,_,_,.loc h,_=>.loc (by rw[i];exact h)
  | _,_,_,.ty,_=>.ty
  | _,_,_,.fn h,_=>.fn h
  | _,_,_,.tup h l,n=>.tup (h.imp (fun q=>⟨f _ q.1,q.2⟩) id) (RepL.frz f i l n)
  | _,_,_,.lstF h l,n=>.lstF (h.imp (fun q=>⟨f _ q.1,q.2⟩) id) (RepL.frz f i l n)
  | _,_,_,.lstO h l,n=>.lstF (.inl ⟨n _ (List.mem_cons_self ..),.inl h⟩) (RepL.frz f i l fun a m=>n a (List.mem_cons_of_mem _ m))
  | _,_,_,.dkF g h k l,n=>by
    refine .dkF (f _ g) h ?_ ?_
    · rw[k,fzK_map,List.map_map];rfl
    · have:=RepL.frz f i l n
      rw[fzL_map] at this
      rw[fzK_map,List.map_map]
      rw[List.map_map] at this
      exact this
  | _,_,_,.dtF g h k t l,n=>by
    refine .dtF (f _ g) h ?_ (fun p m=>(t p m).imp (fun q=>⟨f _ q.1,q.2⟩) id) ?_
    · rw[k,fzK_map,List.map_map];rfl
    · have:=RepL.frz f i l n
      rw[fzL_map] at this
      rw[fzK_map,List.map_map]
      rw[List.map_map] at this
      exact this
  | _,_,_,.dkO h k l,n=>by
    refine .dkF (n _ (List.mem_cons_self ..)) h ?_ ?_
    · rw[k,fzK_map,List.map_map];rfl
    · have:=RepL.frz f i l fun a m=>n a (List.mem_cons_of_mem _ m)
      rw[fzL_map] at this
      rw[fzK_map,List.map_map]
      rw[List.map_map] at this
      exact this
  | _,_,_,.dtO h k t l,n=>by
    refine .dtF (n _ (List.mem_cons_self ..)) h ?_ (fun p m=>(t p m).imp (fun q=>⟨f _ q.1,q.2⟩) id) ?_
    · rw[k,fzK_map,List.map_map];rfl
    · have:=RepL.frz f i l fun a m=>n a (List.mem_cons_of_mem _ m)
      rw[fzL_map] at this
      rw[fzK_map,List.map_map]
      rw[List.map_map] at this
      exact this
theorem RepL.frz(f:∀ a,W.F a→W'.F a)(i:W'.ι=W.ι): ∀ {vs:List V} {ds:List D} {g:List Addr},RepL K W H vs ds g→(∀ a∈g,W'.F a)→RepL K W' H vs (fzL ds) []
  | _,_,_,.nil,_=>.nil
  | _,_,_,.cons h l,n=>.cons (f:=[]) (g:=[]) (RepD.frz f i h fun a m=>n a (List.mem_append_left _ m)) (RepL.frz f i l fun a m=>n a (List.mem_append_right _ m))
end
def Wd.fixed(W:Wd)(g:List Addr): Wd:=⟨fun a=>W.F a∨a∈g,W.ι⟩
theorem Ext.fixed{g:List Addr}(s:∀ a∈g,a∈fp): Ext W H (W.fixed g) H fp :=
  ⟨fun _ h=>.inl h,fun _ _ h=>h,fun _ _ h _=>h,fun a h=>h.elim .inl fun m=>.inr (.inl (s a m)),fun _ h=>h⟩
theorem RepD.fixed{v:V}{d:D}{g:List Addr}(r:RepD K W H v d g): RepD K (W.fixed g) H v d.fz []:=RepD.frz (W':=W.fixed g) (fun _ h=>Or.inl h) rfl r fun _ m=>Or.inr m
inductive RepS (K:PySem.W.Frag) (W:Wd) (H:Hp):L2.St→List D→List Addr→Prop
  | nil:RepS K W H [] [] []
  | und {x σ env g}:RepS K W H σ env g→RepS K W H (x::σ) (.und::env) g
  | cons {v σ d env f g}:RepD K W H v d f→RepS K W H σ env g→RepS K W H (some v::σ) (d::env) (f++g)
theorem RepS.ext(e:Ext W H W' H' fp)(o:Off W fp){σ:L2.St}{env:List D}{g:List Addr}(h:RepS K W H σ env g)(n:∀ a∈g,a ∉ fp): RepS K W' H' σ env g:=by
  induction h with
  | nil=>exact .nil
  | und _ ih=>exact .und (ih n)
  | cons r _ ih=>exact .cons (r.ext e o fun a m=>n a (List.mem_append_left _ m)) (ih fun a m=>n a (List.mem_append_right _ m))
theorem RepD.nund{v:V}{g:List Addr}(h:RepD K W H v .und g): False:=by cases h
theorem RepS.at {σ:L2.St} {env:List D} {g:List Addr} (h:RepS K W H σ env g):∀ {i:Nat} {d:D},env[i]?=some d→d≠.und →
    ∃ v A f B,g=A++f++B∧σ[i]?=some (some v)∧RepD K W H v d f ∧
      ∀ {W':Wd} {H':Hp} {fq:List Addr} {v':V} {d':D} {f':List Addr},Ext W H W' H' fq→Off W fq→(∀ a∈A++B,a ∉ fq)→RepD K W' H' v' d' f'→RepS K W' H' (σ.set i (some v')) (env.set i d') (A++f'++B):=by
  induction h with
  | nil=>intro i d e;simp at e
  | @und x σ env g hs ih =>
    intro i d e nd
    cases i with
    | zero=>simp at e;exact absurd e.symm nd
    | succ i =>
      obtain⟨v,A,f,B,e1,e2,e3,k⟩:=ih (by simpa using e) nd
      exact⟨v,A,f,B,e1,by simpa using e2,e3,fun a b c d=>.und (k a b c d)⟩
  | @cons v σ d0 env f g r hs ih =>
    intro i d e nd
    cases i with
    | zero =>
      obtain rfl:d0=d:=by simpa using e
      refine⟨v,[],f,g,rfl,rfl,r,fun a b c q=>?_⟩
      exact .cons q (hs.ext a b fun z m=>c z (by simpa using m))
    | succ i =>
      obtain⟨v',A,f',B,e1,e2,e3,k⟩:=ih (by simpa using e) nd
      refine⟨v',f++A,f',B,by rw[e1];simp,by simpa using e2,e3,fun a b c q=>?_⟩
      have:=RepS.cons (r.ext a b fun z m=>c z (by simp[m])) (k a b (fun z m=>c z (by
        rcases List.mem_append.mp m with m | m
        · simp[m]
        · simp[m])) q)
      simpa using this
theorem RepS.put{σ:L2.St}{env:List D}{g:List Addr}(h:RepS K W H σ env g): ∀ {i:Nat},i<env.length →
    ∃ A f B,g=A++f++B∧∀ {v':V} {d':D} {f':List Addr},RepD K W H v' d' f'→RepS K W H (σ.set i (some v')) (env.set i d') (A++f'++B):=by
  induction h with
  | nil=>intro i e;simp at e
  | @und x σ env g hs ih =>
    intro i e
    cases i with
    | zero=>exact⟨[],[],g,rfl,fun q=>.cons q hs⟩
    | succ i =>
      obtain⟨A,f,B,e1,k⟩:=ih (by simpa using e)
      exact⟨A,f,B,e1,fun q=>.und (k q)⟩
  | @cons v σ d0 env f g r hs ih =>
    intro i e
    cases i with
    | zero=>exact⟨[],f,g,rfl,fun q=>.cons q hs⟩
    | succ i =>
      obtain⟨A,f',B,e1,k⟩:=ih (by simpa using e)
      refine⟨f++A,f',B,by rw[e1];simp,fun q=>?_⟩
      have:=RepS.cons r (k q)
      simpa using this
theorem RepS.length{σ:L2.St}{env:List D}{g:List Addr}(h:RepS K W H σ env g): σ.length=env.length:=by
  induction h with
  | nil=>rfl
  | und _ ih=>simp[ih]
  | cons _ _ ih=>simp[ih]
abbrev BOXC: Nat:=1000000
abbrev LOCKC: Nat:=1000001
inductive RepH (K:PySem.W.Frag) (CT:Nat→Addr) (W:Wd) (H:Hp):List Addr→List Ob→List Addr→Prop
  | nil:RepH K CT W H [] [] []
  | box {a d f ι hs g}:RepD K W H (.ref a) d (a::f)→RepH K CT W H ι hs g→RepH K CT W H (a::ι) (⟨BOXC,[("",d)]⟩::hs) ((a::f)++g)
  | lk {a od} {kvs:List (Key×V)} {dd:List (D×D)} {ι hs g}:W.F a→a ∉ ι→H a=some (.frz od (.dK kvs))→kvs.map (fun p=>kD p.1)=dd.map (·.1)→RepL K W H (kvs.map (·.2)) (dd.map (·.2)) []→RepH K CT W H ι hs g→RepH K CT W H (a::ι) (⟨LOCKC,[("",.dic true false dd)]⟩::hs) g
  | cons {a c dx fvs fs f ι hs g}:c<BOXC→H a=some (.ins (CT c) dx fvs)→fvs.map (·.1)=fs.map (fun p=>Str.ofString p.1)→RepL K W H (fvs.map (·.2)) (fs.map (·.2)) f→RepH K CT W H ι hs g→RepH K CT W H (a::ι) (⟨c,fs⟩::hs) ((a::f)++g)
theorem RepH.ext{CT:Nat→Addr}(e:Ext W H W' H' fp)(o:Off W fp){ι:List Addr}{hs:List Ob}{g:List Addr}(h:RepH K CT W H ι hs g)(n:∀ a∈g,a ∉ fp): RepH K CT W' H' ι hs g:=by
  induction h with
  | nil=>exact .nil
  | box h1 _ ih=>exact .box (h1.ext e o fun a m=>n a (by simp at m ⊢;rcases m with m | m <;> simp[m])) (ih fun a m=>n a (List.mem_append_right _ m))
  | lk f0 n0 h1 h2 h3 _ ih=>exact .lk (e.fm _ f0) n0 (e.keep _ _ h1 fun z=>o _ z f0) h2 (h3.ext e o fun a z=>nomatch z) (ih n)
  | cons h0 h1 h2 h3 _ ih =>
    refine .cons h0 (e.keep _ _ h1 (n _ (by simp))) h2 (h3.ext e o fun a m=>n a (by simp[m])) (ih fun a m=>n a ?_)
    exact List.mem_append_right _ m
structure Rel (K:PySem.W.Frag) (CT:Nat→Addr) (W:Wd) (H:Hp) (σ:L2.St) (m:Mem) (fp:List Addr):Prop where
  s:∃ f g,fp=f++g∧RepS K W H σ m.env f∧RepH K CT W H W.ι m.hs g
  nd:fp.Nodup
  own:Own W H fp
  fix:Fix W H
theorem Rel.off{CT:Nat→Addr}{σ:L2.St}{m:Mem}(r:Rel K CT W H σ m fp): Off W fp:=fun a m=>(r.own a m).1
theorem Rel.ext{CT:Nat→Addr}{σ:L2.St}{m:Mem}{fq:List Addr}(r:Rel K CT W H σ m fp)(e:Ext W H W' H' fq)(o:Off W fq)(n:∀ a∈fp,a ∉ fq)(i:W'.ι=W.ι)(x:Fix W' H'): Rel K CT W' H' σ m fp:=by
  obtain⟨f,g,rfl,h1,h2⟩:=r.s
  refine⟨⟨f,g,rfl,h1.ext e o fun a m=>n a (List.mem_append_left _ m),?_⟩,r.nd,r.own.ext e n,x⟩
  rw[i]
  exact h2.ext e o fun a m=>n a (List.mem_append_right _ m)
end
section
variable (K:PySem.W.Frag) (CT:Nat→Addr)
structure Post (W:Wd) (H:Hp) (σ:L2.St) (fp:List Addr) (v:V) (d:D) (m':Mem) (W':Wd) (H':Hp) (fp' fd:List Addr):Prop where
  rel:Rel K CT W' H' σ m' fp'
  rep:RepD K W' H' v d fd
  nd:(fp'++fd).Nodup
  own:Own W' H' fd
  ext:Ext W H W' H' fp
  sub:∀ a∈fp'++fd,a∈fp∨H a=none
def tM(e:M D): TE:=fun σ H Q=>∃ W m fp d m',Rel K CT W H σ m fp∧e m=.ok (d,m')∧∀ v W' H' fp' fd,Post K CT W H σ fp v d m' W' H' fp' fd→Q v H'
structure PostQ (W:Wd) (H:Hp) (σ:L2.St) (m:Mem) (fp:List Addr) (v:V) (d:D) (W':Wd) (H':Hp) (fd:List Addr):Prop where
  rel:Rel K CT W' H' σ m fp
  rep:RepD K W' H' v d fd
  ext:Ext W H W' H' []
  sub:∀ a∈fd,a∈fp
def tQ(e:MQ D): TE:=fun σ H Q=>∃ W m fp d,Rel K CT W H σ m fp∧e m=.ok d∧∀ v W' H' fd,PostQ K CT W H σ m fp v d W' H' fd→Q v H'
structure PostL (W:Wd) (H:Hp) (σ:L2.St) (fp:List Addr) (vs:List V) (ds:List D) (m':Mem) (W':Wd) (H':Hp) (fp' fd:List Addr):Prop where
  rel:Rel K CT W' H' σ m' fp'
  rep:RepL K W' H' vs ds fd
  nd:(fp'++fd).Nodup
  own:Own W' H' fd
  ext:Ext W H W' H' fp
  sub:∀ a∈fp'++fd,a∈fp∨H a=none
end
def ME(X:Cx)(CT:Nat→Addr)(e:Expr)(m:M D): Prop:=PE X e (tM X.K CT m)
def MEQ(X:Cx)(CT:Nat→Addr)(e:Expr)(q:MQ D): Prop:=PE X e (tQ X.K CT q)
theorem pe_weak{X:Cx}{e:Expr}{t t':TE}(h:PE X e t)(k:∀ σ H Q,t' σ H Q→t σ H Q): PE X e t':=⟨fun pins s σ H Q I q=>h.run pins s σ H Q I (k σ H Q q)⟩
theorem pt_weak{X:Cx}{e:Expr}{t t':TT}(h:PT X e t)(k:∀ σ H Q,t' σ H Q→t σ H Q): PT X e t':=⟨fun pins s σ H Q I q=>h.run pins s σ H Q I (k σ H Q q)⟩
theorem pw_weak{X:Cx}{e:Expr}{t t':TT}(h:PW X e t)(k:∀ σ H Q,t' σ H Q→t σ H Q): PW X e t':=⟨fun w pins s σ H Q I q=>h.run w pins s σ H Q I (k σ H Q q)⟩
theorem pa_weak{X:Cx}{e:List Expr}{t t':TA}(h:PA X e t)(k:∀ σ H Q,t' σ H Q→t σ H Q): PA X e t':=⟨fun p pins s σ H Q I q=>h.run p pins s σ H Q I (k σ H Q q)⟩
theorem ps_weak{X:Cx}{e:Stmt}{t t':TS}(h:PS X e t)(k:∀ D σ H,t' D σ H→t D σ H): PS X e t':=⟨fun pins s σ H D I q=>h.run pins s σ H D I (k D σ H q)⟩
theorem pss_weak{X:Cx}{e:List Stmt}{t t':TS}(h:PSs X e t)(k:∀ D σ H,t' D σ H→t D σ H): PSs X e t':=⟨fun pins s σ H D I q=>h.run pins s σ H D I (k D σ H q)⟩
section
variable {K:PySem.W.Frag} {CT:Nat→Addr} {W W' W1 W2:Wd} {H H' H1 H2:Hp} {σ:L2.St} {m m' m1 m2:Mem} {fp fp' fd fp1 fp2 fd1 fd2:List Addr} {v v1 v2:V} {d d1 d2:D}
theorem Post.mk0(r:Rel K CT W H σ m fp)(h:RepD K W H v d []): Post K CT W H σ fp v d m W H fp [] :=
  ⟨r,h,by rw[List.append_nil];exact r.nd,Own.nil,Ext.refl _ _ _,fun a z=>.inl (by simpa using z)⟩
theorem PostQ.mk0(r:Rel K CT W H σ m fp)(h:RepD K W H v d fd)(s:∀ a∈fd,a∈fp): PostQ K CT W H σ m fp v d W H fd:=⟨r,h,Ext.refl _ _ _,s⟩
end
def mqC(d:D): MQ D:=fun _=>.ok d
def mqVar(i:Nat): MQ D:=fun m=>match m.env[i]? with
  | some .und=>.fail
  | some d=>.ok d
  | none=>.fail
theorem mqVar_eq{i:Nat}{m:Mem}{d:D}(h:mqVar i m=.ok d): m.env[i]?=some d∧d≠.und:=by
  unfold mqVar at h
  split at h
  · cases h
  · rename_i d' hd e
    cases h
    exact⟨e,hd⟩
  · cases h
def mP(q:MQ D): M D:=fun m=>(q m).bind fun d=>Res.when d.pure (.ok (d,m))
def mVar(i:Nat): M D:=fun m=>(mqVar i m).bind fun d=>if d.pure=true then .ok (d,m) else .ok (d.fz,{ m with env:=m.env.set i d.fz })
section
variable {X:Cx} {CT:Nat→Addr} {e:Expr}
theorem meq_c{v:V}{d:D}(h:PE X e (tC v))(r:∀ W H,RepD X.K W H v d []): MEQ X CT e (mqC d):=pe_weak h fun σ H Q ⟨W,m,fp,d',rel,e,k⟩=>by
  cases e
  exact k v W H [] (PostQ.mk0 rel (r W H) fun a m=>by cases m)
theorem meq_int{i:Int}{j pos}: MEQ X CT (.Constant (.int i) j pos) (mqC (.int i)):=meq_c pe_int fun _ _=>.int
theorem meq_bl{b:Bool}{j pos}: MEQ X CT (.Constant (.bool b) j pos) (mqC (.bl b)):=meq_c pe_bl fun _ _=>.bl
theorem meq_non{j pos}: MEQ X CT (.Constant .none j pos) (mqC .non):=meq_c pe_non fun _ _=>.non
theorem meq_str{x:Str}{j pos}: MEQ X CT (.Constant (.str x) j pos) (mqC (.str x)):=meq_c pe_str fun _ _=>.str
theorem meq_var{i:Nat}(h:PE X e (tVar i)): MEQ X CT e (mqVar i):=pe_weak h fun σ H Q ⟨W,m,fp,d,rel,e,k⟩=>by
  obtain⟨e1,e2⟩:=mqVar_eq e
  obtain⟨f,g,rfl,h1,h2⟩:=rel.s
  obtain⟨v,A,f1,B,rfl,s,r,_⟩:=h1.at e1 e2
  exact⟨v,s,k v W H f1 (PostQ.mk0 rel r fun a z=>by simp[z])⟩
theorem me_p{q:MQ D}(h:MEQ X CT e q): ME X CT e (mP q):=pe_weak h fun σ H Q ⟨W,m,fp,d,m',rel,e,k⟩=>by
  obtain⟨d1,e1,e2⟩:=Res.bind_eq e
  obtain⟨p,e3⟩:=Res.when_eq e2
  cases e3
  refine⟨W,m,fp,d,rel,e1,fun v W' H' fd q=>?_⟩
  obtain rfl:=q.rep.pure p
  exact k v W' H' fp [] ⟨q.rel,q.rep,by rw[List.append_nil];exact q.rel.nd,Own.nil,q.ext.sub (fun a m=>by cases m),fun a z=>.inl (by simpa using z)⟩
theorem me_var {i:Nat} (h:PE X e (tVar i)):ME X CT e (mVar i):=pe_weak h fun σ H Q ⟨W,m,fp,d,m',rel,e,k⟩=>by
  obtain⟨d1,e1,e2⟩:=Res.bind_eq e
  obtain⟨e3,nu⟩:=mqVar_eq e1
  obtain⟨f,g,rfl,h1,h2⟩:=rel.s
  obtain⟨v,A,f1,B,rfl,s,r,kk⟩:=h1.at e3 nu
  refine⟨v,s,?_⟩
  by_cases p:d1.pure=true
  · rw[if_pos p] at e2
    cases e2
    obtain rfl:=r.pure p
    exact k v W H _ [] (Post.mk0 rel r)
  · rw[if_neg p] at e2
    cases e2
    have hs:σ.set i (some v)=σ:=by
      apply List.ext_getElem?
      intro j
      rw[List.getElem?_set]
      split
      · rename_i ej;subst ej
        have:i<σ.length:=(List.getElem?_eq_some_iff.mp s).1
        rw[if_pos this,s]
      · rfl
    have nd:=rel.nd
    have x:Ext W H (W.fixed f1) H f1:=Ext.fixed fun a m=>m
    have of1:Off W f1:=fun a m=>rel.off a (by simp[m])
    have dA:∀ a∈A++B,a ∉ f1:=fun a ma mf=>by
      simp only[List.nodup_append,List.append_assoc] at nd
      rcases List.mem_append.mp ma with ma | ma
      · exact nd.2.2 a ma a (by simp[mf]) rfl
      · exact nd.2.1.2.2 a mf a (by simp[ma]) rfl
    have dg:∀ a∈g,a ∉ f1:=fun a ma mf=>by
      simp only[List.nodup_append,List.append_assoc] at nd
      exact nd.2.1.2.2 a mf a (by simp[ma]) rfl
    have ns:RepS X.K (W.fixed f1) H σ (m.env.set i d1.fz) (A++[]++B):=by
      have:=kk (v':=v) x of1 dA r.fixed
      rw[hs] at this
      exact this
    have sub:∀ a∈(A++[]++B)++g,a∈A++f1++B++g:=fun a z=>by
      simp only[List.append_nil,List.mem_append] at z ⊢
      rcases z with (z | z) | z
      · exact .inl (.inl (.inl z))
      · exact .inl (.inr z)
      · exact .inr z
    have nd2:((A++[]++B)++g).Nodup:=by
      simp only[List.nodup_append,List.append_assoc,List.append_nil] at nd ⊢
      refine⟨nd.1,nd.2.1.2.1,fun a ma b mb=>nd.2.2 a ma b (by simp only[List.mem_append] at mb ⊢;exact .inr mb)⟩
    have own2:Own (W.fixed f1) H ((A++[]++B)++g):=fun a z=>by
      refine⟨fun y=>?_,(rel.own a (sub a z)).2⟩
      rcases y with y | y
      · exact(rel.own a (sub a z)).1 y
      · simp only[List.append_nil,List.mem_append] at z
        rcases z with z | z
        · exact dA a (List.mem_append.mpr z) y
        · exact dg a z y
    have fx:Fix (W.fixed f1) H:=fun a y=>by
      rcases y with y | y
      · exact rel.fix a y
      · exact(rel.own a (by simp[y])).2
    refine k v (W.fixed f1) H _ [] ⟨⟨⟨_,g,rfl,ns,h2.ext x of1 dg⟩,nd2,own2,fx⟩,r.fixed,?_,Own.nil,x.sub (fun a z=>by simp[z]),fun a z=>.inl (sub a (by simpa using z))⟩
    rw[List.append_nil]
    exact nd2
end
end E
namespace E
open PySem L2
structure New (K:PySem.W.Frag) (W:Wd) (H:Hp) (v:V) (d:D) (W':Wd) (H':Hp) (fd:List Addr):Prop where
  rep:RepD K W' H' v d fd
  ext:Ext W H W' H' []
  ι:W'.ι=W.ι
  fix:Fix W' H'
  nd:fd.Nodup
  own:Own W' H' fd
  fresh:∀ a∈fd,H a=none
section
variable {K:PySem.W.Frag} {CT:Nat→Addr} {W W' W1 W2:Wd} {H H' H1 H2:Hp} {σ:L2.St} {m m' m1 m2:Mem} {fp fp' fd fp1 fp2 fd1 fd2 g:List Addr} {v v1 v2:V} {d d1 d2:D}
theorem off_nil: Off W []:=fun a m=>by cases m
theorem New.sc(x:Fix W H)(h:RepD K W H v d []): New K W H v d W H []:=⟨h,Ext.refl _ _ _,rfl,x,List.nodup_nil,Own.nil,fun a m=>by cases m⟩
theorem ext_upd{p:Addr}{o:HO}(hp:H p=none): Ext W H W (upd H p o) []:=⟨fun _ h=>h,fun _ _ h=>h,fun a u h _=>by rw[upd_ne (ne_of_none h hp)];exact h,fun _ h=>.inl h,fun a h=>by
  by_cases e:a=p
  · subst e;exact hp
  · rw[upd_ne e] at h;exact h⟩
theorem fix_upd{p:Addr}{o:HO}(x:Fix W H): Fix W (upd H p o):=fun a h=>by
  by_cases e:a=p
  · subst e;rw[upd_same];exact fun z=>by cases z
  · rw[upd_ne e];exact x a h
theorem ext_updF{p:Addr}{o:HO}(hp:H p=none): Ext W H (W.fixed [p]) (upd H p o) []:=⟨fun _ h=>.inl h,fun _ _ h=>h,(ext_upd (W:=W) hp).keep,fun a h=>by
  rcases h with h | h
  · exact .inl h
  · obtain rfl:a=p:=by simpa using h
    exact .inr (.inr hp),(ext_upd (W:=W) hp).there⟩
theorem fix_updF{p:Addr}{o:HO}(x:Fix W H): Fix (W.fixed [p]) (upd H p o):=fun a h=>by
  rcases h with h | h
  · exact fix_upd x a h
  · obtain rfl:a=p:=by simpa using h
    rw[upd_same];exact fun z=>by cases z
theorem New.tup{p:Addr}{vs:List V}{ds:List D}(x:Fix W H)(hp:H p=none)(h:RepL K W H vs ds []): New K W H (.ref p) (.tup ds) (W.fixed [p]) (upd H p (.tup vs)) [] :=
  ⟨.tup (.inl ⟨.inr (by simp),.inl upd_same⟩) (h.ext (ext_updF hp) off_nil fun a m=>by cases m),ext_updF hp,rfl,fix_updF x,List.nodup_nil,Own.nil,fun a m=>by cases m⟩
theorem New.lst{p:Addr}{vs:List V}{ds:List D}(x:Fix W H)(hp:H p=none)(h:RepL K W H vs ds []): New K W H (.ref p) (.lst true ds) W (upd H p (.lst vs)) [p] :=
  ⟨.lstO upd_same (h.ext (ext_upd hp) off_nil fun a m=>by cases m),ext_upd hp,rfl,fix_upd x,by simp,fun a m=>by
    obtain rfl:a=p:=by simpa using m
    exact⟨fun z=>x a z hp,by rw[upd_same];exact fun z=>by cases z⟩,fun a m=>by
    obtain rfl:a=p:=by simpa using m
    exact hp⟩
theorem New.post{m':Mem}(n:New K W1 H1 v d W' H' fd)(r:Rel K CT W1 H1 σ m' fp1)(e:Ext W H W1 H1 fp)(s:∀ a∈fp1,a∈fp∨H a=none): Post K CT W H σ fp v d m' W' H' fp1 fd where
  rel:=r.ext n.ext off_nil (fun a _ z=>by cases z) n.ι n.fix
  rep:=n.rep
  nd:=by
    rw[List.nodup_append]
    refine⟨r.nd,n.nd,fun a ma b mb z=>?_⟩
    subst z
    exact(r.own a ma).2 (n.fresh a mb)
  own:=n.own
  ext:=e.trans n.ext fun a z=>by cases z
  sub:=fun a z=>by
    rcases List.mem_append.mp z with z | z
    · exact s a z
    · exact .inr (e.there a (n.fresh a z))
theorem New.postQ(n:New K W1 H1 v d W' H' fd)(p:d.pure=true)(r:Rel K CT W1 H1 σ m fp)(e:Ext W H W1 H1 []): PostQ K CT W H σ m fp v d W' H' [] where
  rel:=r.ext n.ext off_nil (fun a _ z=>by cases z) n.ι n.fix
  rep:=by have:=n.rep.pure p;subst this;exact n.rep
  ext:=e.trans n.ext fun a z=>by cases z
  sub:=fun a z=>by cases z
theorem RepD.lst{o:Bool}{ds:List D}(h:RepD K W H v (.lst o ds) g): ∃ a vs g',v=.ref a∧SqL K H a vs∧RepL K W H vs ds g'∧∀ a∈g',a∈g:=by
  cases h with
  | lstF h l=>exact⟨_,_,[],rfl,h.sq,l,fun a m=>m⟩
  | lstO h l=>exact⟨_,_,_,rfl,.inl (.inl h),l,fun a m=>List.mem_cons_of_mem _ m⟩
theorem RepD.tupl{ds:List D}(h:RepD K W H v (.tup ds) g): ∃ a vs,v=.ref a∧SqT K H a vs∧FzT K W H a vs∧RepL K W H vs ds g:=by
  cases h with
  | tup h l=>exact⟨_,_,rfl,h.sq,h,l⟩
theorem RepL.length{vs:List V}{ds:List D}: ∀ {g:List Addr},RepL K W H vs ds g→vs.length=ds.length:=by
  induction vs generalizing ds with
  | nil=>intro g h;cases h;rfl
  | cons v vs ih=>intro g h;cases h with
    | cons _ l=>simp[ih l]
theorem RepL.get {vs:List V} {ds:List D}:∀ {g:List Addr},RepL K W H vs ds g→∀ {i:Nat} {d:D},ds[i]?=some d→∃ v f,vs[i]?=some v∧RepD K W H v d f∧∀ a∈f,a∈g:=by
  induction vs generalizing ds with
  | nil=>intro g h i d e;cases h;simp at e
  | cons v vs ih=>intro g h i d e;cases h with
    | cons r l =>
      cases i with
      | zero =>
        simp at e;subst e
        exact⟨v,_,rfl,r,fun a m=>List.mem_append_left _ m⟩
      | succ i =>
        obtain⟨v',f,e1,r',s⟩:=ih l (by simpa using e)
        exact⟨v',f,by simpa using e1,r',fun a m=>List.mem_append_right _ (s a m)⟩
theorem RepL.app{vs ws:List V}{ds es:List D}: ∀ {f g:List Addr},RepL K W H vs ds f→RepL K W H ws es g→RepL K W H (vs++ws) (ds++es) (f++g):=by
  induction vs generalizing ds with
  | nil=>intro f g h k;cases h;exact k
  | cons v vs ih=>intro f g h k;cases h with
    | cons r l =>
      have:=RepL.cons r (ih l k)
      simpa using this
theorem RepL.pick {vs:List V} {ds:List D}:RepL K W H vs ds []→∀ n k,RepL K W H ((vs.drop n).take k) ((ds.drop n).take k) []:=by
  induction vs generalizing ds with
  | nil=>intro h n k;cases h;simp;exact .nil
  | cons v vs ih =>
    intro h n k
    generalize hg:([]:List Addr)=g at h
    cases h with
    | cons r l =>
      obtain⟨rfl,rfl⟩:=List.nil_eq_append_iff.mp hg
      cases n with
      | succ n=>simpa using ih l n k
      | zero =>
        cases k with
        | zero=>simp;exact .nil
        | succ k =>
          have:=ih l 0 k
          simp only[List.drop_zero,List.take_succ_cons] at this ⊢
          exact RepL.cons (f:=[]) (g:=[]) r this
mutual
theorem RepD.dp: ∀ {v:V} {d:D} {g:List Addr},RepD K W H v d g→∀ {p:PyData},d.toPy=some p→Dp K H v p
  | _,_,_,.non,_,e=>by cases e;exact .non
  | _,_,_,.bl,_,e=>by cases e;exact .bl _
  | _,_,_,.int,_,e=>by cases e;exact .int _
  | _,_,_,.str,_,e=>by cases e;exact .str _
  | _,_,_,.loc _,_,e=>by cases e
  | _,_,_,.ty,_,e=>by cases e
  | _,_,_,.fn _,_,e=>by cases e
  | _,_,_,.tup h l,p,e=>by
    simp only[D.toPy,Option.map_eq_some_iff] at e
    obtain⟨ps,e1,rfl⟩:=e
    exact .tup h.sq (RepL.dp l e1)
  | _,_,_,.lstF h l,p,e=>by
    simp only[D.toPy,Option.map_eq_some_iff] at e
    obtain⟨ps,e1,rfl⟩:=e
    exact .lst h.sq (RepL.dp l e1)
  | _,_,_,.lstO h l,p,e=>by
    simp only[D.toPy,Option.map_eq_some_iff] at e
    obtain⟨ps,e1,rfl⟩:=e
    exact .lst (.inl (.inl h)) (RepL.dp l e1)
  | _,_,_,.dkF _ _ _ _,_,e=>by cases e
  | _,_,_,.dtF _ _ _ _ _,_,e=>by cases e
  | _,_,_,.dkO _ _ _,_,e=>by cases e
  | _,_,_,.dtO _ _ _ _,_,e=>by cases e
theorem RepL.dp: ∀ {vs:List V} {ds:List D} {g:List Addr},RepL K W H vs ds g→∀ {ps:List PyData},toPyL ds=some ps→DpAll K H vs ps
  | _,_,_,.nil,_,e=>by cases e;exact .nil
  | _,_,_,.cons (d:=d) (ds:=ds) h l,ps,e=>by
    unfold toPyL at e
    split at e
    · rename_i a b e1 e2
      cases e
      exact .cons (RepD.dp h e1) (RepL.dp l e2)
    · cases e
end
end
def OpD(X:Cx)(f:Value→Value→Sem Value)(g:D→D→Res D): Prop :=
  ∃ r:R2,OpR X f r∧∀ W H x y d1 d2 f1 f2 d Q,Fix W H→RepD X.K W H x d1 f1→RepD X.K W H y d2 f2→g d1 d2=.ok d→(∀ v W' H' fd,New X.K W H v d W' H' fd→Q v H')→r x y H Q
theorem OpR.or{X:Cx}{f:Value→Value→Sem Value}{r1 r2:R2}(h1:OpR X f r1)(h2:OpR X f r2): OpR X f (fun x y H Q=>r1 x y H Q∨r2 x y H Q):=fun pins s σ H x y v u Q I rx ry h=>by
  rcases h with h | h
  · exact h1 pins s σ H x y v u Q I rx ry h
  · exact h2 pins s σ H x y v u Q I rx ry h
def opElse(g1 g2:D→D→Res D): D→D→Res D:=fun a b=>match g1 a b with
  | .ok d=>.ok d
  | _=>g2 a b
theorem OpD.or{X:Cx}{f:Value→Value→Sem Value}{g1 g2:D→D→Res D}(h1:OpD X f g1)(h2:OpD X f g2): OpD X f (opElse g1 g2):=by
  obtain⟨r1,o1,k1⟩:=h1
  obtain⟨r2,o2,k2⟩:=h2
  refine⟨_,OpR.or o1 o2,fun W H x y d1 d2 f1 f2 d Q x0 a b e k=>?_⟩
  unfold opElse at e
  split at e
  · rename_i d' e1
    cases e
    exact .inl (k1 W H x y d1 d2 f1 f2 d Q x0 a b e1 k)
  · exact .inr (k2 W H x y d1 d2 f1 f2 d Q x0 a b e k)
@[simp] def dAddI: D→D→Res D
  | .int i,.int j=>.ok (.int (i+j))
  | _,_=>.fail
@[simp] def dAdd: D→D→Res D
  | .int i,.int j=>.ok (.int (i+j))
  | .str i,.str j=>.when (decide (i.length+j.length≤sizeLine)) (.ok (.str (i++j)))
  | .tup xs,.tup ys=>.when (pureL xs&&pureL ys&&decide (xs.length+ys.length≤sizeLine)) (.ok (.tup (xs++ys)))
  | .lst _ xs,.lst _ ys=>.when (pureL xs&&pureL ys&&decide (xs.length+ys.length≤sizeLine)) (.ok (.lst true (xs++ys)))
  | _,_=>.fail
@[simp] def dSub: D→D→Res D
  | .int i,.int j=>.ok (.int (i - j))
  | _,_=>.fail
noncomputable def small(i:Int): Bool:=cdec (-18446744073709551616<i∧i<18446744073709551616)
@[simp] noncomputable def dMul: D→D→Res D
  | .int i,.int j=>.when (small i||small j) (.ok (.int (i*j)))
  | _,_=>.fail
noncomputable def wide(j:Int): Bool:=cdec (j<((2 ^ 8000:Nat):Int))
@[simp] noncomputable def dFdiv: D→D→Res D
  | .int i,.int j=>.when (decide (0<j)&&wide j) (.ok (.int (i / j)))
  | _,_=>.fail
@[simp] def dMod: D→D→Res D
  | .int i,.int j=>.when (decide (0<j)) (.ok (.int (i % j)))
  | _,_=>.fail
@[simp] def dPow: D→D→Res D
  | .int i,.int j=>.when (decide (0≤j∧j≤1000000∧i.natAbs<2 ^ 64)) (.ok (.int (i ^ j.toNat)))
  | _,_=>.fail
@[simp] def dLt: D→D→Res D
  | .int i,.int j=>.ok (.bl (decide (i<j)))
  | .str i,.str j=>.ok (.bl (decide (i.cps.toList<j.cps.toList)))
  | _,_=>.fail
@[simp] def dLe: D→D→Res D
  | .int i,.int j=>.ok (.bl (decide (i≤j)))
  | _,_=>.fail
@[simp] def dGt: D→D→Res D
  | .int i,.int j=>.ok (.bl (decide (j<i)))
  | _,_=>.fail
@[simp] def dGe: D→D→Res D
  | .int i,.int j=>.ok (.bl (decide (j≤i)))
  | _,_=>.fail
def shp(p:PyData): Bool:=p.plain&&decide (p.depth≤64)
theorem shp_of{p:PyData}(h:shp p=true): p.plain=true∧p.depth≤64:=by
  unfold shp at h
  rw[Bool.and_eq_true,decide_eq_true_eq] at h
  exact h
@[simp] def dEq(a b:D): Res D:=match a.toPy,b.toPy with
  | some p,some q=>.when (shp p&&shp q) (.ok (.bl (PyData.eqv p q)))
  | _,_=>.fail
@[simp] def dNe(a b:D): Res D:=match a.toPy,b.toPy with
  | some p,some q=>.when (shp p&&shp q) (.ok (.bl (!PyData.eqv p q)))
  | _,_=>.fail
@[simp] def isNone: D→Bool
  | .non=>true
  | _=>false
@[simp] def dIs: D→D→Res D
  | a,.non=>.ok (.bl (isNone a))
  | _,_=>.fail
@[simp] def dIsNot: D→D→Res D
  | a,.non=>.ok (.bl (!isNone a))
  | _,_=>.fail
section
variable {X:Cx}
theorem opd_I{f:Value→Value→Sem Value}{k:Int→Int→V}{kd:Int→Int→D}{g:D→D→Res D}(h:OpR X f (rI0 k))(hk:∀ i j W H,RepD X.K W H (k i j) (kd i j) [])(hg:∀ a b d,g a b=.ok d→∃ i j,a=.int i∧b=.int j∧d=kd i j): OpD X f g:=by
  refine⟨_,h,fun W H x y d1 d2 f1 f2 d Q x0 a b e q=>?_⟩
  obtain⟨i,j,rfl,rfl,rfl⟩:=hg _ _ _ e
  cases a;cases b
  exact⟨i,j,rfl,rfl,q _ W H [] (New.sc x0 (hk i j W H))⟩
theorem opd_IC{f:Value→Value→Sem Value}{C:Int→Int→Prop}{k:Int→Int→V}{kd:Int→Int→D}{g:D→D→Res D}(h:OpR X f (rI C k))(hk:∀ i j W H,RepD X.K W H (k i j) (kd i j) [])(hg:∀ a b d,g a b=.ok d→∃ i j,a=.int i∧b=.int j∧C i j∧d=kd i j): OpD X f g:=by
  refine⟨_,h,fun W H x y d1 d2 f1 f2 d Q x0 a b e q=>?_⟩
  obtain⟨i,j,rfl,rfl,c,rfl⟩:=hg _ _ _ e
  cases a;cases b
  exact⟨i,j,rfl,rfl,c,q _ W H [] (New.sc x0 (hk i j W H))⟩
theorem od_sub: OpD X (binaryOp .Sub) dSub:=opd_I (kd:=fun i j=>.int (i - j)) op_sub (fun _ _ _ _=>.int) fun a b d e=>by
  unfold dSub at e;split at e <;> cases e;exact⟨_,_,rfl,rfl,rfl⟩
theorem od_mul: OpD X (binaryOp .Mult) dMul:=opd_IC (kd:=fun i j=>.int (i*j)) op_mul (fun _ _ _ _=>.int) fun a b d e=>by
  unfold dMul at e;split at e
  · obtain⟨h,e⟩:=Res.when_eq e
    cases e
    refine⟨_,_,rfl,rfl,?_,rfl⟩
    rcases Bool.or_eq_true_iff.mp h with h | h
    · exact .inl (of_cdec h)
    · exact .inr (of_cdec h)
  · cases e
theorem od_fdiv: OpD X (binaryOp .FloorDiv) dFdiv:=opd_IC (kd:=fun i j=>.int (i / j)) op_fdivW (fun _ _ _ _=>.int) fun a b d e=>by
  unfold dFdiv at e;split at e
  · obtain⟨h,e⟩:=Res.when_eq e
    cases e
    rw[Bool.and_eq_true] at h
    have h1:(0:Int)<_:=of_decide_eq_true h.1
    have h2:=of_cdec h.2
    exact⟨_,_,rfl,rfl,wide_div (b:=8000) h1 (by generalize (2 ^ 8000:Nat)=N at h2 ⊢;omega) (by decide) (by decide),rfl⟩
  · cases e
theorem od_mod: OpD X (binaryOp .Mod) dMod:=opd_IC (kd:=fun i j=>.int (i % j)) op_mod (fun _ _ _ _=>.int) fun a b d e=>by
  unfold dMod at e;split at e
  · obtain⟨h,e⟩:=Res.when_eq e
    cases e
    exact⟨_,_,rfl,rfl,of_decide_eq_true h,rfl⟩
  · cases e
theorem od_pow: OpD X (binaryOp .Pow) dPow:=opd_IC (kd:=fun i j=>.int (i ^ j.toNat)) op_pow (fun _ _ _ _=>.int) fun a b d e=>by
  unfold dPow at e;split at e
  · obtain⟨h,e⟩:=Res.when_eq e
    cases e
    have h':=decide_eq_true_eq.mp h
    exact⟨_,_,rfl,rfl,h',rfl⟩
  · cases e
def rCatS(K:PySem.W.Frag): R2:=fun x y H Q=>∃ l b xs zs,x=.ref l∧y=.ref b∧SqL K H l xs∧SqL K H b zs∧xs.length+zs.length≤sizeLine∧∀ p,H p=none→Q (.ref p) (upd H p (.lst (xs++zs)))
theorem op_catS: OpR X (binaryOp .Add) (rCatS X.K):=by
  intro pins s σ H x y v u Q I rx ry h
  obtain⟨l,b,xs,zs,rfl,rfl,hl,hb,hz,q⟩:=h
  cases rx
  cases ry
  obtain⟨i1,r1,⟨⟨c1,dd1,data1,sl1⟩,n1,ho1,hc1,_,hd1⟩,_⟩:=I.list hl
  obtain⟨i2,r2,⟨⟨c2,dd2,data2,sl2⟩,n2,ho2,hc2,_,hd2⟩,_⟩:=I.list hb
  simp only at hc1 hd1 hc2 hd2
  subst hc1 hd1 hc2 hd2
  have ea:i1.toArray++i2.toArray=(i1++i2).toArray:=by simp
  have hlen:i1.toArray.size+i2.toArray.size≤sizeLine:=by
    rw[List.size_toArray,List.size_toArray,← r1.length,← r2.length]
    exact hz
  refine concat_meets ⟨_,ho1,rfl⟩ ⟨_,ho2,rfl⟩ noFill_list_add seq_list_add PySem.F.slot_list_add PySem.F.entry_list_add (PySem.F.args_list_add_2 _ _) (PyProof.Rows.list_addW l b i1.toArray i2.toArray n1 n2 dd1 dd2 sl1 sl2 hlen) ⟨ho1,ho2,?_⟩
  rw[ea]
  exact⟨.ref _,_,I.lnew (t':=s.toks) (r1.append r2) (by rw[List.length_append];exact hz),rfl,q _ I.fresh⟩
theorem od_add: OpD X (binaryOp .Add) dAdd:=by
  refine⟨_,OpR.or op_add (OpR.or op_add_str (OpR.or op_catA op_catS)),fun W H x y d1 d2 f1 f2 d Q x0 a b e q=>?_⟩
  unfold dAdd at e;split at e
  · cases e;cases a;cases b
    exact .inl ⟨_,_,rfl,rfl,q _ W H [] (New.sc x0 .int)⟩
  · obtain⟨h,e⟩:=Res.when_eq e
    cases e;cases a;cases b
    exact .inr (.inl ⟨_,_,rfl,rfl,of_decide_eq_true h,q _ W H [] (New.sc x0 .str)⟩)
  · obtain⟨h,e⟩:=Res.when_eq e
    cases e
    simp only[Bool.and_eq_true,decide_eq_true_eq] at h
    obtain⟨⟨h2,h3⟩,h4⟩:=h
    obtain⟨a1,vs1,rfl,s1,z1,l1⟩:=a.tupl
    obtain⟨a2,vs2,rfl,s2,z2,l2⟩:=b.tupl
    obtain rfl:=l1.pure h2
    obtain rfl:=l2.pure h3
    have l:=l1.app l2
    refine .inr (.inr (.inl ⟨a1,a2,vs1,vs2,rfl,rfl,s1,s2,by rw[l1.length,l2.length];exact h4,fun z=>?_,fun _ z=>?_,fun _ _ p hp=>?_⟩))
    · subst z
      have e2:_=[]:=List.length_eq_zero_iff.mp l1.length.symm
      subst e2
      rw[List.nil_append] at q
      exact q _ W H [] (New.sc x0 (.tup z2 l2))
    · subst z
      have e2:_=[]:=List.length_eq_zero_iff.mp l2.length.symm
      subst e2
      rw[List.append_nil] at q
      exact q _ W H [] (New.sc x0 (.tup z1 l1))
    · exact q _ _ _ _ (New.tup x0 hp l)
  · obtain⟨h,e⟩:=Res.when_eq e
    cases e
    simp only[Bool.and_eq_true,decide_eq_true_eq] at h
    obtain⟨⟨h2,h3⟩,h4⟩:=h
    obtain⟨a1,vs1,g1,rfl,s1,l1,_⟩:=a.lst
    obtain⟨a2,vs2,g2,rfl,s2,l2,_⟩:=b.lst
    obtain rfl:=l1.pure h2
    obtain rfl:=l2.pure h3
    exact .inr (.inr (.inr ⟨_,_,_,_,rfl,rfl,s1,s2,by rw[l1.length,l2.length];exact h4,fun p hp=>q _ _ _ _ (New.lst x0 hp (l1.app l2))⟩))
  · cases e
def rEqP(K:PySem.W.Frag): R2:=fun x y H Q=>∃ d e,Dp K H x d∧Dp K H y e∧shp d=true∧shp e=true∧Q (.bl (PyData.eqv d e)) H
def rNeP(K:PySem.W.Frag): R2:=fun x y H Q=>∃ d e,Dp K H x d∧Dp K H y e∧shp d=true∧shp e=true∧Q (.bl (!PyData.eqv d e)) H
theorem op_eqP(hu:X.A.units+64<cLine): OpR X (compareOp .Eq) (rEqP X.K):=by
  intro pins s σ H x y v u Q I rx ry h
  obtain⟨d,e,hd,he,sd,se,q⟩:=h
  obtain⟨as,r1⟩:=Dp.reads I d x v hd rx
  obtain⟨bs,r2⟩:=Dp.reads I e y u he ry
  have:=(shp_of sd).2
  exact SeqAt.eq_plain r1 r2 (shp_of sd).1 (shp_of se).1 (by omega) ⟨.bl _,H,I,rfl,q⟩
theorem op_neP(hu:X.A.units+64<cLine): OpR X (compareOp .NotEq) (rNeP X.K):=by
  intro pins s σ H x y v u Q I rx ry h
  obtain⟨d,e,hd,he,sd,se,q⟩:=h
  obtain⟨as,r1⟩:=Dp.reads I d x v hd rx
  obtain⟨bs,r2⟩:=Dp.reads I e y u he ry
  have:=(shp_of sd).2
  exact SeqAt.ne_plain r1 r2 (shp_of sd).1 (shp_of se).1 (by omega) ⟨.bl _,H,I,rfl,q⟩
theorem od_eq(hu:X.A.units+64<cLine): OpD X (compareOp .Eq) dEq:=by
  refine⟨_,op_eqP hu,fun W H x y d1 d2 f1 f2 d Q x0 a b e q=>?_⟩
  unfold dEq at e;split at e
  · rename_i p p' e1 e2
    obtain⟨h,e⟩:=Res.when_eq e
    cases e
    rw[Bool.and_eq_true] at h
    exact⟨p,p',a.dp e1,b.dp e2,h.1,h.2,q _ W H [] (New.sc x0 .bl)⟩
  · cases e
theorem od_ne(hu:X.A.units+64<cLine): OpD X (compareOp .NotEq) dNe:=by
  refine⟨_,op_neP hu,fun W H x y d1 d2 f1 f2 d Q x0 a b e q=>?_⟩
  unfold dNe at e;split at e
  · rename_i p p' e1 e2
    obtain⟨h,e⟩:=Res.when_eq e
    cases e
    rw[Bool.and_eq_true] at h
    exact⟨p,p',a.dp e1,b.dp e2,h.1,h.2,q _ W H [] (New.sc x0 .bl)⟩
  · cases e
theorem isNone_rep{K:PySem.W.Frag}{W:Wd}{H:Hp}{x:V}{d:D}{g:List Addr}(h:RepD K W H x d g): decide (x=.non)=isNone d:=by
  cases h <;> simp[isNone]
theorem od_is: OpD X (compareOp .Is) dIs:=by
  refine⟨_,op_isN,fun W H x y d1 d2 f1 f2 d Q x0 a b e q=>?_⟩
  unfold dIs at e;split at e
  · cases e
    cases b
    refine⟨rfl,?_⟩
    rw[isNone_rep a]
    exact q _ W H [] (New.sc x0 .bl)
  · cases e
theorem od_isnot: OpD X (compareOp .IsNot) dIsNot:=by
  refine⟨_,op_notN,fun W H x y d1 d2 f1 f2 d Q x0 a b e q=>?_⟩
  unfold dIsNot at e;split at e
  · cases e
    cases b
    refine⟨rfl,?_⟩
    rw[isNone_rep a]
    exact q _ W H [] (New.sc x0 .bl)
  · cases e
end
end E
namespace E
open PySem L2
section
variable (K:PySem.W.Frag) (CT:Nat→Addr)
structure PostB (W:Wd) (H:Hp) (σ:L2.St) (fp:List Addr) (v:V) (d:D) (m':Mem) (W':Wd) (H':Hp) (fp' fd:List Addr):Prop where
  rel:Rel K CT W' H' σ m' fp'
  rep:RepD K W' H' v d fd
  ext:Ext W H W' H' fp
  sub:∀ a∈fp',a∈fp∨H a=none
def tB'(e:M D): TE:=fun σ H Q=>∃ W m fp d m',Rel K CT W H σ m fp∧e m=.ok (d,m')∧∀ v W' H' fp' fd,PostB K CT W H σ fp v d m' W' H' fp' fd→Q v H'
end
def MEB(X:Cx)(CT:Nat→Addr)(e:Expr)(m:M D): Prop:=PE X e (tB' X.K CT m)
def mB(q:MQ D): M D:=fun m=>(q m).bind fun d=>.ok (d,m)
section
variable {X:Cx} {CT:Nat→Addr} {e a b:Expr} {pos:Pos}
theorem meb_v{q:M D}(h:ME X CT e q): MEB X CT e q:=pe_weak h fun σ H Q ⟨W,m,fp,d,m',rel,e,k⟩ =>
  ⟨W,m,fp,d,m',rel,e,fun v W' H' fp' fd p=>k v W' H' fp' fd ⟨p.rel,p.rep,p.ext,fun a z=>p.sub a (List.mem_append_left _ z)⟩⟩
theorem meb_q{q:MQ D}(h:MEQ X CT e q): MEB X CT e (mB q):=pe_weak h fun σ H Q ⟨W,m,fp,d,m',rel,e,k⟩=>by
  obtain⟨d1,e1,e2⟩:=Res.bind_eq e
  cases e2
  exact⟨W,m,fp,d,rel,e1,fun v W' H' fd p=>k v W' H' fp fd ⟨p.rel,p.rep,p.ext.sub (fun a z=>by cases z),fun a z=>.inl z⟩⟩
def mOp2(g:D→D→Res D)(ma mb:M D): M D:=fun m=>(ma m).bind fun r1=>(mb r1.2).bind fun r2=>(g r1.1 r2.1).bind fun d=>.ok (d,r2.2)
def mOpN(g:D→D→Res D)(i:Nat)(mb:M D): M D:=fun m=>(mqVar i m).bind fun _=>(mb m).bind fun r2=>(mqVar i r2.2).bind fun d1=>(g d1 r2.1).bind fun d=>.ok (d,r2.2)
def mqOp2(g:D→D→Res D)(qa qb:MQ D): MQ D:=fun m=>(qa m).bind fun d1=>(qb m).bind fun d2=>(g d1 d2).bind fun d=>Res.when d.pure (.ok d)
theorem fin2{K:PySem.W.Frag}{W W1 W2:Wd}{H H1 H2:Hp}{fp fp1 fd1:List Addr}{σ:L2.St}{v:V}{d:D}{m1:Mem}(p:Post K CT W H σ fp v d m1 W1 H1 fp1 fd1)(e:Ext W1 H1 W2 H2 fp1): RepD K W2 H2 v d fd1 :=
  p.rep.ext e p.rel.off fun a ma mf=>by
    have:=p.nd
    rw[List.nodup_append] at this
    exact this.2.2 a mf a ma rfl
theorem subT{H H1:Hp}{fp fp1 fp2:List Addr}(s1:∀ a∈fp1,a∈fp∨H a=none)(s2:∀ a∈fp2,a∈fp1∨H1 a=none)(t:∀ a,H1 a=none→H a=none): ∀ a∈fp2,a∈fp∨H a=none:=fun a z=>by
  rcases s2 a z with y | y
  · exact s1 a y
  · exact .inr (t a y)
theorem pe2{r:R2}{f:Value→Value→Sem Value}{g:D→D→Res D}{ma mb:M D}{t:TE→TE→Prop}
    (hr:∀ W H x y d1 d2 f1 f2 d Q,Fix W H→RepD X.K W H x d1 f1→RepD X.K W H y d2 f2→g d1 d2=.ok d→(∀ v W' H' fd,New X.K W H v d W' H' fd→Q v H')→r x y H Q) :
    ∀ σ H Q,tM X.K CT (mOp2 g ma mb) σ H Q→tOp r (tM X.K CT ma) (tB' X.K CT mb) σ H Q:=fun σ H Q ⟨W,m,fp,d,m',rel,e,k⟩=>by
  obtain⟨⟨d1,m1⟩,e1,e⟩:=Res.bind_eq e
  obtain⟨⟨d2,m2⟩,e2,e⟩:=Res.bind_eq e
  obtain⟨d3,e3,e⟩:=Res.bind_eq e
  cases e
  refine⟨W,m,fp,d1,m1,rel,e1,fun v1 W1 H1 fp1 fd1 P1=>⟨W1,m1,fp1,d2,m2,P1.rel,e2,fun v2 W2 H2 fp2 fd2 P2=>?_⟩⟩
  have s1:∀ a∈fp1,a∈fp∨H a=none:=fun a z=>P1.sub a (List.mem_append_left _ z)
  exact hr W2 H2 v1 v2 d1 d2 fd1 fd2 d Q P2.rel.fix (fin2 P1 P2.ext) P2.rep e3 fun v W' H' fd n=>k v W' H' fp2 fd (n.post P2.rel (P1.ext.trans P2.ext s1) (subT s1 P2.sub P1.ext.there))
theorem peN{r:R2}{g:D→D→Res D}{i:Nat}{mb:M D}
    (hr:∀ W H x y d1 d2 f1 f2 d Q,Fix W H→RepD X.K W H x d1 f1→RepD X.K W H y d2 f2→g d1 d2=.ok d→(∀ v W' H' fd,New X.K W H v d W' H' fd→Q v H')→r x y H Q) :
    ∀ σ H Q,tM X.K CT (mOpN g i mb) σ H Q→tOp r (tVar i) (tB' X.K CT mb) σ H Q:=fun σ H Q ⟨W,m,fp,d,m',rel,e,k⟩=>by
  obtain⟨d0,e0,e⟩:=Res.bind_eq e
  obtain⟨⟨d2,m2⟩,e2,e⟩:=Res.bind_eq e
  obtain⟨d1,e1,e⟩:=Res.bind_eq e
  obtain⟨d3,e3,e⟩:=Res.bind_eq e
  cases e
  obtain⟨q1,q2⟩:=mqVar_eq e1
  obtain⟨q3,q4⟩:=mqVar_eq e0
  obtain⟨v1,hv⟩:∃ v,σ[i]?=some (some v):=by
    obtain⟨f,g,rfl,h1,h2⟩:=rel.s
    obtain⟨v,_,_,_,_,s,_⟩:=h1.at q3 q4
    exact⟨v,s⟩
  refine⟨v1,hv,W,m,fp,d2,m2,rel,e2,fun v2 W2 H2 fp2 fd2 P2=>?_⟩
  obtain⟨f,g',rfl,h1,h2⟩:=P2.rel.s
  obtain⟨v1',A,f1,B,rfl,s,r1,_⟩:=h1.at q1 q2
  rw[hv] at s
  cases s
  exact hr W2 H2 v1 v2 d1 d2 f1 fd2 d Q P2.rel.fix r1 P2.rep e3 fun v W' H' fd n=>k v W' H' _ fd (n.post P2.rel P2.ext P2.sub)
theorem peQ{r:R2}{g:D→D→Res D}{qa qb:MQ D}
    (hr:∀ W H x y d1 d2 f1 f2 d Q,Fix W H→RepD X.K W H x d1 f1→RepD X.K W H y d2 f2→g d1 d2=.ok d→(∀ v W' H' fd,New X.K W H v d W' H' fd→Q v H')→r x y H Q) :
    ∀ σ H Q,tQ X.K CT (mqOp2 g qa qb) σ H Q→tOp r (tQ X.K CT qa) (tQ X.K CT qb) σ H Q:=fun σ H Q ⟨W,m,fp,d,rel,e,k⟩=>by
  obtain⟨d1,e1,e⟩:=Res.bind_eq e
  obtain⟨d2,e2,e⟩:=Res.bind_eq e
  obtain⟨d3,e3,e⟩:=Res.bind_eq e
  obtain⟨p,e⟩:=Res.when_eq e
  cases e
  refine⟨W,m,fp,d1,rel,e1,fun v1 W1 H1 fd1 P1=>⟨W1,m,fp,d2,P1.rel,e2,fun v2 W2 H2 fd2 P2=>?_⟩⟩
  exact hr W2 H2 v1 v2 d1 d2 fd1 fd2 d Q P2.rel.fix (P1.rep.ext P2.ext off_nil fun a _ z=>by cases z) P2.rep e3 fun v W' H' fd n=>k v W' H' [] (n.postQ p P2.rel (P1.ext.trans P2.ext fun a z=>by cases z))
def mOpQ(g:D→D→Res D)(qa qb:MQ D): M D:=fun m=>(qa m).bind fun d1=>(qb m).bind fun d2=>(g d1 d2).bind fun d=>.ok (d,m)
theorem peQV{r:R2}{g:D→D→Res D}{qa qb:MQ D}
    (hr:∀ W H x y d1 d2 f1 f2 d Q,Fix W H→RepD X.K W H x d1 f1→RepD X.K W H y d2 f2→g d1 d2=.ok d→(∀ v W' H' fd,New X.K W H v d W' H' fd→Q v H')→r x y H Q) :
    ∀ σ H Q,tM X.K CT (mOpQ g qa qb) σ H Q→tOp r (tQ X.K CT qa) (tQ X.K CT qb) σ H Q:=fun σ H Q ⟨W,m,fp,d,m',rel,e,k⟩=>by
  obtain⟨d1,e1,e⟩:=Res.bind_eq e
  obtain⟨d2,e2,e⟩:=Res.bind_eq e
  obtain⟨d3,e3,e⟩:=Res.bind_eq e
  cases e
  refine⟨W,m,fp,d1,rel,e1,fun v1 W1 H1 fd1 P1=>⟨W1,m,fp,d2,P1.rel,e2,fun v2 W2 H2 fd2 P2=>?_⟩⟩
  exact hr W2 H2 v1 v2 d1 d2 fd1 fd2 d Q P2.rel.fix (P1.rep.ext P2.ext off_nil fun a _ z=>by cases z) P2.rep e3 fun v W' H' fd n=>k v W' H' _ fd (n.post P2.rel ((P1.ext.trans P2.ext fun a z=>by cases z).sub fun a z=>by cases z) fun a z=>.inl z)
variable {op:Operator} {cop:CmpOp} {g:D→D→Res D} {ma mb:M D} {qa qb:MQ D} {i:Nat}
theorem me_bin(o:OpD X (binaryOp op) g)(ha:ME X CT a ma)(hb:MEB X CT b mb): ME X CT (.BinOp a op b pos) (mOp2 g ma mb):=by
  obtain⟨r,h,k⟩:=o
  exact pe_weak (pe_op h ha hb) (pe2 (t:=fun _ _=>True) (f:=binaryOp op) k)
theorem me_binN(o:OpD X (binaryOp op) g)(ha:PE X a (tVar i))(hb:MEB X CT b mb): ME X CT (.BinOp a op b pos) (mOpN g i mb):=by
  obtain⟨r,h,k⟩:=o
  exact pe_weak (pe_op h ha hb) (peN k)
theorem me_binQ(o:OpD X (binaryOp op) g)(ha:MEQ X CT a qa)(hb:MEQ X CT b qb): ME X CT (.BinOp a op b pos) (mOpQ g qa qb):=by
  obtain⟨r,h,k⟩:=o
  exact pe_weak (pe_op h ha hb) (peQV k)
theorem meq_bin(o:OpD X (binaryOp op) g)(ha:MEQ X CT a qa)(hb:MEQ X CT b qb): MEQ X CT (.BinOp a op b pos) (mqOp2 g qa qb):=by
  obtain⟨r,h,k⟩:=o
  exact pe_weak (pe_op h ha hb) (peQ k)
theorem me_cmp(o:OpD X (compareOp cop) g)(ha:ME X CT a ma)(hb:MEB X CT b mb)(hm:behindInMarks cop b=false): ME X CT (.Compare a [cop] [b] pos) (mOp2 g ma mb):=by
  obtain⟨r,h,k⟩:=o
  exact pe_weak (pe_cmpR h ha hb hm) (pe2 (t:=fun _ _=>True) (f:=compareOp cop) k)
theorem meq_cmp(o:OpD X (compareOp cop) g)(ha:MEQ X CT a qa)(hb:MEQ X CT b qb)(hm:behindInMarks cop b=false): MEQ X CT (.Compare a [cop] [b] pos) (mqOp2 g qa qb):=by
  obtain⟨r,h,k⟩:=o
  exact pe_weak (pe_cmpR h ha hb hm) (peQ k)
end
section
variable (K:PySem.W.Frag) (CT:Nat→Addr)
structure PostT (W:Wd) (H:Hp) (σ:L2.St) (fp:List Addr) (m':Mem) (W':Wd) (H':Hp) (fp':List Addr):Prop where
  rel:Rel K CT W' H' σ m' fp'
  ext:Ext W H W' H' fp
  sub:∀ a∈fp',a∈fp∨H a=none
def tT(e:M Bool): TT:=fun σ H Q=>∃ W m fp b m',Rel K CT W H σ m fp∧e m=.ok (b,m')∧∀ W' H' fp',PostT K CT W H σ fp m' W' H' fp'→Q b H'
end
def MT(X:Cx)(CT:Nat→Addr)(e:Expr)(m:M Bool): Prop:=PT X e (tT X.K CT m)
def MW(X:Cx)(CT:Nat→Addr)(e:Expr)(m:M Bool): Prop:=PW X e (tT X.K CT m)
@[simp] def D.isB: D→Res Bool
  | .bl b=>.ok b
  | _=>.fail
@[simp] def D.tru: D→Res Bool
  | .non=>.ok false
  | .bl b=>.ok b
  | .int i=>.ok (i != 0)
  | .str y=>.when (decide (y.length≤sizeLine)) (.ok ((y.length:Int) != 0))
  | .lst _ xs=>.ok (!xs.isEmpty)
  | .tup xs=>.ok (!xs.isEmpty)
  | _=>.fail
def mtB(e:M D): M Bool:=fun m=>(e m).bind fun r=>r.1.isB.bind fun b=>.ok (b,r.2)
def mtV(e:M D): M Bool:=fun m=>(e m).bind fun r=>r.1.tru.bind fun b=>.ok (b,r.2)
def mtAnd(a b:M Bool): M Bool:=fun m=>(a m).bind fun r=>if r.1=true then b r.2 else .ok (false,r.2)
def mtOr(a b:M Bool): M Bool:=fun m=>(a m).bind fun r=>if r.1=true then .ok (true,r.2) else b r.2
def mtNot(a:M Bool): M Bool:=fun m=>(a m).bind fun r=>.ok (!r.1,r.2)
section
variable {X:Cx} {CT:Nat→Addr} {e a b:Expr} {pos:Pos} {op:Operator} {cop:CmpOp} {g:D→D→Res D} {ma mb:M D} {qa qb:MQ D} {i:Nat}
theorem isB_rep{K:PySem.W.Frag}{W:Wd}{H:Hp}{x:V}{d:D}{f:List Addr}{c:Bool}(h:RepD K W H x d f)(e:d.isB=.ok c): x=.bl c:=by
  cases h <;> simp[D.isB] at e
  subst e;rfl
theorem isEmpty_rep{K:PySem.W.Frag}{W:Wd}{H:Hp}{vs:List V}{ds:List D}{f:List Addr}(h:RepL K W H vs ds f): vs.isEmpty=ds.isEmpty:=by
  cases h <;> rfl
theorem tru_rep{K:PySem.W.Frag}{W:Wd}{H:Hp}{x:V}{d:D}{f:List Addr}{c:Bool}(h:RepD K W H x d f)(e:d.tru=.ok c): TruV K x H c:=by
  cases h with
  | non=>cases e;rfl
  | bl=>cases e;rfl
  | int=>cases e;rfl
  | str =>
    obtain⟨h,e⟩:=Res.when_eq e
    cases e
    exact⟨of_decide_eq_true h,rfl⟩
  | loc h=>cases e
  | ty=>cases e
  | fn=>cases e
  | tup h l =>
    cases e
    refine .inr (.inl ⟨_,h.sq,?_⟩)
    rw[isEmpty_rep l]
  | lstF h l =>
    cases e
    refine .inl ⟨_,h.sq,?_⟩
    rw[isEmpty_rep l]
  | lstO h l =>
    cases e
    refine .inl ⟨_,.inl (.inl h),?_⟩
    rw[isEmpty_rep l]
  | dkF=>cases e
  | dtF=>cases e
  | dkO=>cases e
  | dtO=>cases e
theorem mt_cmp(o:OpD X (compareOp cop) g)(ha:ME X CT a ma)(hb:MEB X CT b mb)(hm:behindInMarks cop b=false): MT X CT (.Compare a [cop] [b] pos) (mtB (mOp2 g ma mb)):=by
  obtain⟨r,h,k⟩:=o
  refine pt_weak (pt_cmpR h ha hb hm) fun σ H Q ⟨W,m,fp,c,m',rel,e,q⟩=>?_
  obtain⟨⟨d,m1⟩,e1,e⟩:=Res.bind_eq e
  obtain⟨c',e2,e⟩:=Res.bind_eq e
  cases e
  refine pe2 (t:=fun _ _=>True) (f:=compareOp cop) k σ H _ ⟨W,m,fp,d,_,rel,e1,fun v W' H' fp' fd p=>?_⟩
  exact⟨c,isB_rep p.rep e2,q W' H' fp' ⟨p.rel,p.ext,fun a z=>p.sub a (List.mem_append_left _ z)⟩⟩
theorem mt_cmpQ(o:OpD X (compareOp cop) g)(ha:MEQ X CT a qa)(hb:MEQ X CT b qb)(hm:behindInMarks cop b=false): MT X CT (.Compare a [cop] [b] pos) (mtB (mOpQ g qa qb)):=by
  obtain⟨r,h,k⟩:=o
  refine pt_weak (pt_cmpR h ha hb hm) fun σ H Q ⟨W,m,fp,c,m',rel,e,q⟩=>?_
  obtain⟨⟨d,m1⟩,e1,e⟩:=Res.bind_eq e
  obtain⟨c',e2,e⟩:=Res.bind_eq e
  cases e
  refine peQV k σ H _ ⟨W,m,fp,d,_,rel,e1,fun v W' H' fp' fd p=>?_⟩
  exact⟨c,isB_rep p.rep e2,q W' H' fp' ⟨p.rel,p.ext,fun a z=>p.sub a (List.mem_append_left _ z)⟩⟩
theorem mt_v(ha:MEB X CT a ma)(he:∀ whole,isTrue a X.env whole=(do let v ← whole;standAt a.pos;holding [v] (truthy v)):=by intro _;rfl): MT X CT a (mtV ma) :=
  pt_weak (pt_truth ha he) fun σ H Q ⟨W,m,fp,c,m',rel,e,q⟩=>by
    obtain⟨⟨d,m1⟩,e1,e⟩:=Res.bind_eq e
    obtain⟨c',e2,e⟩:=Res.bind_eq e
    cases e
    exact⟨W,m,fp,d,_,rel,e1,fun v W' H' fp' fd p=>⟨c,tru_rep p.rep e2,q W' H' fp' ⟨p.rel,p.ext,p.sub⟩⟩⟩
end
end E
namespace E
open PySem L2
section
variable {X:Cx} {CT:Nat→Addr} {e a b c:Expr} {rest:List Expr} {pos:Pos} {op:Operator} {cop:CmpOp} {g:D→D→Res D} {ma mb:M D} {qa qb qc:MQ D} {ta tb:M Bool} {i:Nat}
theorem PostT.trans{K:PySem.W.Frag}{W W1 W2:Wd}{H H1 H2:Hp}{fp fp1 fp2:List Addr}{σ:L2.St}{m1 m2:Mem}(p:PostT K CT W H σ fp m1 W1 H1 fp1)(q:PostT K CT W1 H1 σ fp1 m2 W2 H2 fp2): PostT K CT W H σ fp m2 W2 H2 fp2 :=
  ⟨q.rel,p.ext.trans q.ext p.sub,subT p.sub q.sub p.ext.there⟩
theorem PostT.post{K:PySem.W.Frag}{W W1 W2:Wd}{H H1 H2:Hp}{fp fp1 fp2 fd:List Addr}{σ:L2.St}{m1 m2:Mem}{v:V}{d:D}(p:PostT K CT W H σ fp m1 W1 H1 fp1)(q:Post K CT W1 H1 σ fp1 v d m2 W2 H2 fp2 fd): Post K CT W H σ fp v d m2 W2 H2 fp2 fd :=
  ⟨q.rel,q.rep,q.nd,q.own,p.ext.trans q.ext p.sub,subT p.sub q.sub p.ext.there⟩
theorem Post.t{K:PySem.W.Frag}{W W1:Wd}{H H1:Hp}{fp fp1 fd:List Addr}{σ:L2.St}{m1:Mem}{v:V}{d:D}(p:Post K CT W H σ fp v d m1 W1 H1 fp1 fd): PostT K CT W H σ fp m1 W1 H1 fp1 :=
  ⟨p.rel,p.ext,fun a z=>p.sub a (List.mem_append_left _ z)⟩
theorem PostT.postB{K:PySem.W.Frag}{W W1 W2:Wd}{H H1 H2:Hp}{fp fp1 fp2 fd:List Addr}{σ:L2.St}{m1 m2:Mem}{v:V}{d:D}(p:PostT K CT W H σ fp m1 W1 H1 fp1)(q:PostB K CT W1 H1 σ fp1 v d m2 W2 H2 fp2 fd): PostB K CT W H σ fp v d m2 W2 H2 fp2 fd :=
  ⟨q.rel,q.rep,p.ext.trans q.ext p.sub,subT p.sub q.sub p.ext.there⟩
theorem mw_and1(h:MT X CT a ta): MW X CT (.BoolOp .And [a] pos) ta:=pw_and1 h
theorem mw_or1(h:MT X CT a ta): MW X CT (.BoolOp .Or [a] pos) ta:=pw_or1 h
theorem mw_and(ha:MT X CT a ta)(hb:MW X CT (.BoolOp .And (b::rest) pos) tb): MW X CT (.BoolOp .And (a::b::rest) pos) (mtAnd ta tb) :=
  pw_weak (pw_and ha hb) fun σ H Q ⟨W,m,fp,c,m',rel,e,q⟩=>by
    obtain⟨⟨c1,m1⟩,e1,e⟩:=Res.bind_eq e
    refine⟨W,m,fp,c1,m1,rel,e1,fun W1 H1 fp1 p=>?_⟩
    cases c1 with
    | true =>
      refine iteT ⟨W1,m1,fp1,c,m',p.rel,e,fun W2 H2 fp2 p2=>q W2 H2 fp2 (p.trans p2)⟩
    | false =>
      cases e
      exact iteF (q W1 H1 fp1 p)
theorem mw_or(ha:MT X CT a ta)(hb:MW X CT (.BoolOp .Or (b::rest) pos) tb): MW X CT (.BoolOp .Or (a::b::rest) pos) (mtOr ta tb) :=
  pw_weak (pw_or ha hb) fun σ H Q ⟨W,m,fp,c,m',rel,e,q⟩=>by
    obtain⟨⟨c1,m1⟩,e1,e⟩:=Res.bind_eq e
    refine⟨W,m,fp,c1,m1,rel,e1,fun W1 H1 fp1 p=>?_⟩
    cases c1 with
    | false =>
      refine iteF ⟨W1,m1,fp1,c,m',p.rel,e,fun W2 H2 fp2 p2=>q W2 H2 fp2 (p.trans p2)⟩
    | true =>
      cases e
      exact iteT (q W1 H1 fp1 p)
theorem mt_w(h:MW X CT a ta): MT X CT a ta:=h.pt
theorem mt_not(h:MT X CT a ta): MT X CT (.UnaryOp .Not a pos) (mtNot ta) :=
  pt_weak (pt_not h) fun σ H Q ⟨W,m,fp,c,m',rel,e,q⟩=>by
    obtain⟨⟨c1,m1⟩,e1,e⟩:=Res.bind_eq e
    cases e
    exact⟨W,m,fp,c1,m1,rel,e1,fun W1 H1 fp1 p=>q W1 H1 fp1 p⟩
def mAnd(a b:M D): M D:=fun m=>(a m).bind fun r=>r.1.isB.bind fun c=>if c=true then b r.2 else .ok (.bl false,r.2)
def mOr(a b:M D): M D:=fun m=>(a m).bind fun r=>r.1.isB.bind fun c=>if c=true then .ok (.bl true,r.2) else b r.2
def mNot(a:M D): M D:=fun m=>(a m).bind fun r=>r.1.isB.bind fun c=>.ok (.bl (!c),r.2)
def mIf(t:M Bool)(a b:M D): M D:=fun m=>(t m).bind fun r=>if r.1=true then a r.2 else b r.2
theorem Post.bl{K:PySem.W.Frag}{W W1:Wd}{H H1:Hp}{fp fp1 fd:List Addr}{σ:L2.St}{m1:Mem}{v:V}{d:D}(p:Post K CT W H σ fp v d m1 W1 H1 fp1 fd){v':V}{d':D}(r:RepD K W1 H1 v' d' []): Post K CT W H σ fp v' d' m1 W1 H1 fp1 [] :=
  p.t.post (Post.mk0 p.rel r)
theorem me_one{op}(h:ME X CT a ma): ME X CT (.BoolOp op [a] pos) ma:=pe_one h
theorem me_and(ha:ME X CT a ma)(hb:ME X CT (.BoolOp .And (b::rest) pos) mb): ME X CT (.BoolOp .And (a::b::rest) pos) (mAnd ma mb) :=
  pe_weak (pe_and ha hb) fun σ H Q ⟨W,m,fp,d,m',rel,e,q⟩=>by
    obtain⟨⟨d1,m1⟩,e1,e⟩:=Res.bind_eq e
    obtain⟨c,e2,e⟩:=Res.bind_eq e
    refine⟨W,m,fp,d1,m1,rel,e1,fun v1 W1 H1 fp1 fd1 p=>⟨c,isB_rep p.rep e2,?_⟩⟩
    cases c with
    | true=>exact iteT ⟨W1,m1,fp1,d,m',p.rel,e,fun v2 W2 H2 fp2 fd2 p2=>q v2 W2 H2 fp2 fd2 (p.t.post p2)⟩
    | false =>
      cases e
      exact iteF (q _ W1 H1 fp1 [] (p.bl .bl))
theorem me_not(ha:ME X CT a ma): ME X CT (.UnaryOp .Not a pos) (mNot ma) :=
  pe_weak (pe_not ha) fun σ H Q ⟨W,m,fp,d,m',rel,e,q⟩=>by
    obtain⟨⟨d1,m1⟩,e1,e⟩:=Res.bind_eq e
    obtain⟨c,e2,e⟩:=Res.bind_eq e
    cases e
    exact⟨W,m,fp,d1,m1,rel,e1,fun v1 W1 H1 fp1 fd1 p=>⟨c,isB_rep p.rep e2,q _ W1 H1 fp1 [] (p.bl .bl)⟩⟩
def UnD(X:Cx)(f:Value→Sem Value)(g:D→Res D): Prop :=
  ∃ r:V→Hp→VK→Prop,UnR X f r∧∀ W H x d1 f1 d Q,Fix W H→RepD X.K W H x d1 f1→g d1=.ok d→(∀ v W' H' fd,New X.K W H v d W' H' fd→Q v H')→r x H Q
def mOp1(g:D→Res D)(ma:M D): M D:=fun m=>(ma m).bind fun r=>(g r.1).bind fun d=>.ok (d,r.2)
def mqOp1(g:D→Res D)(qa:MQ D): MQ D:=fun m=>(qa m).bind fun d1=>(g d1).bind fun d=>Res.when d.pure (.ok d)
@[simp] def dNeg: D→Res D
  | .int i=>.ok (.int (-i))
  | _=>.fail
theorem ud_neg: UnD X (unaryOp .USub) dNeg:=⟨_,un_neg,fun W H x d1 f1 d Q x0 a e k=>by
  cases a <;> simp[dNeg] at e
  subst e
  exact⟨_,rfl,k _ W H [] (New.sc x0 .int)⟩⟩
theorem meq_un{op:UnaryOp}{g:D→Res D}(o:UnD X (unaryOp op) g)(ha:MEQ X CT a qa): MEQ X CT (.UnaryOp op a pos) (mqOp1 g qa):=by
  obtain⟨r,h,k⟩:=o
  refine pe_weak (pe_un h ha) fun σ H Q ⟨W,m,fp,d,rel,e,q⟩=>?_
  obtain⟨d1,e1,e⟩:=Res.bind_eq e
  obtain⟨d2,e2,e⟩:=Res.bind_eq e
  obtain⟨p0,e⟩:=Res.when_eq e
  cases e
  exact⟨W,m,fp,d1,rel,e1,fun v1 W1 H1 fd1 p=>k W1 H1 v1 d1 fd1 d _ p.rel.fix p.rep e2 fun v W' H' fd n=>q v W' H' [] (n.postQ p0 p.rel p.ext)⟩
@[simp] def toKey: D→Option Key
  | .int i=>some (.inl i)
  | .str x=>some (.inr x)
  | _=>none
theorem toKey_kD(k:Key): toKey (kD k)=some k:=by cases k <;> rfl
def valD: List (D×D)→Key→Option D
  | [],_=>none
  | (q,d)::r,k=>if toKey q=some k then some d else valD r k
theorem valD_rep {K:PySem.W.Frag} {W:Wd} {H:Hp}:∀ {kvs:List (Key×V)} {dd:List (D×D)} {f:List Addr},kvs.map (fun p=>kD p.1)=dd.map (·.1)→RepL K W H (kvs.map (·.2)) (dd.map (·.2)) f→∀ k:Key,
    (valD dd k=none∧valV kvs k=none)∨∃ d v f',valD dd k=some d∧valV kvs k=some v∧RepD K W H v d f'∧∀ a∈f',a∈f
  | [],[],_,_,_,k=>.inl ⟨rfl,rfl⟩
  | [],_::_,_,h,_,_=>by cases h
  | _::_,[],_,h,_,_=>by cases h
  | (q, v)::kvs,(p,d)::dd,_,h,l,k=>by
    rw[List.map_cons,List.map_cons] at h
    injection h with h1 h2
    have h1:kD q=p:=h1
    subst h1
    rw[List.map_cons,List.map_cons] at l
    cases l with
    | @cons _ _ f0 _ _ g r l =>
      by_cases e:q=k
      · subst e
        refine .inr ⟨d,v,f0,?_,valV_pos rfl,r,fun a m=>List.mem_append_left _ m⟩
        rw[valD,if_pos (toKey_kD q)]
      · rw[valD,if_neg (by rw[toKey_kD];exact fun z=>e (Option.some.inj z)),valV_neg (p:=(q,v)) e]
        rcases valD_rep h2 l k with n | ⟨d',v',f',e1,e2,r',s⟩
        · exact .inl n
        · exact .inr ⟨d',v',f',e1,e2,r',fun a m=>List.mem_append_right _ (s a m)⟩
theorem RepD.dict{K:PySem.W.Frag}{W:Wd}{H:Hp}{x:V}{o:Bool}{dd:List (D×D)}{f:List Addr}(r:RepD K W H x (.dic o false dd) f):
    ∃ a kvs f',x=.ref a∧H a=some (.dK kvs)∧kvs.map (fun p=>kD p.1)=dd.map (·.1)∧RepL K W H (kvs.map (·.2)) (dd.map (·.2)) f'∧∀ b∈f',b∈f:=by
  cases r with
  | dkF _ h k l=>exact⟨_,_,_,rfl,h,k,l,fun b m=>by cases m⟩
  | dkO h k l=>exact⟨_,_,_,rfl,h,k,l,fun b m=>List.mem_cons_of_mem _ m⟩
theorem key_rep{K:PySem.W.Frag}{W:Wd}{H:Hp}{y:V}{d:D}{f:List Addr}{k:Key}(r:RepD K W H y d f)(e:toKey d=some k): y=kV k:=by
  cases r <;> simp at e
  · subst e;rfl
  · subst e;rfl
theorem dget_rep{K:PySem.W.Frag}{W:Wd}{H:Hp}{x y:V}{o:Bool}{dd:List (D×D)}{d2:D}{f f2:List Addr}{k:Key}(a:RepD K W H x (.dic o false dd) f)(b:RepD K W H y d2 f2)(e:toKey d2=some k):
    ∃ p,x=.ref p∧((valD dd k=none∧DGet H p y none)∨∃ d v f',valD dd k=some d∧DGet H p y (some v)∧RepD K W H v d f'∧∀ a∈f',a∈f):=by
  obtain⟨p,kvs,f',rfl,h,hk,l,s⟩:=a.dict
  obtain rfl:=key_rep b e
  refine⟨p,rfl,?_⟩
  rcases valD_rep hk l k with ⟨n1,n2⟩ | ⟨d,v,f0,e1,e2,r,s0⟩
  · exact .inl ⟨n1,by rw[← n2];exact DGet.k h⟩
  · exact .inr ⟨d,v,f0,e1,by rw[← e2];exact DGet.k h,r,fun a m=>s a (s0 a m)⟩
def rIxD: R2:=fun x y H Q=>∃ a v,x=.ref a∧DGet H a y (some v)∧Q v H
theorem ix_dic{X:Cx}(hu:X.A.units+64<cLine): IxR X rIxD:=by
  intro value slice pins s σ H x y v u Q I rx ry h hs
  obtain⟨a,z,rfl,g,q⟩:=h
  obtain rfl:v=Value.ref a:=rx
  exact PyProof.Rows.tail_any (dict_typeIs I g) PySem.F.slot_dict_getitem.lookup (d_getItem (by omega) I g ry fun w' s3 I3 rw'=>⟨z,H,I3,rw',q⟩) hs
@[simp] def dIx: D→D→Res D
  | .lst _ xs,.int i=>Res.of (atI xs i)
  | .tup xs,.int i=>Res.of (atI xs i)
  | .str z,.int i=>Res.when (decide (z.length≤sizeLine)) ((Res.of (atI z.cps.toList i)).bind fun c=>.ok (.str ⟨#[c]⟩))
  | .dic _ false dd,k=>(Res.of (toKey k)).bind fun q=>Res.of (valD dd q)
  | _,_=>.fail
theorem atI_rep{K:PySem.W.Frag}{W:Wd}{H:Hp}{vs:List V}{ds:List D}{g:List Addr}(l:RepL K W H vs ds g){i:Int}{d:D}(e:atI ds i=some d): ∃ v f,atI vs i=some v∧RepD K W H v d f∧∀ a∈f,a∈g:=by
  unfold atI at e ⊢
  rw[l.length]
  cases h:ixN ds.length i with
  | none=>rw[h] at e;cases e
  | some j =>
    rw[h] at e
    obtain⟨v,f,h1,h2,h3⟩:=l.get e
    exact⟨v,f,h1,h2,h3⟩
theorem ix_rep{W:Wd}{H:Hp}{x y:V}{d1 d2 d:D}{f1 f2:List Addr}{Q:VK}(a:RepD X.K W H x d1 f1)(b:RepD X.K W H y d2 f2)(e:dIx d1 d2=.ok d)(k:∀ v f,RepD X.K W H v d f→(∀ a∈f,a∈f1)→Q v H): ((rIxL X.K x y H Q∨rIxT X.K x y H Q)∨rIxS x y H Q)∨rIxD x y H Q:=by
  unfold dIx at e;split at e
  · have e:=Res.of_eq e
    cases b
    obtain⟨p,vs,g',rfl,s,l,sb⟩:=a.lst
    obtain⟨v,f,h1,h2,h3⟩:=atI_rep l e
    exact .inl (.inl (.inl ⟨p,vs,_,v,rfl,rfl,s,h1,k v f h2 fun a m=>sb a (h3 a m)⟩))
  · have e:=Res.of_eq e
    cases b
    obtain⟨p,vs,rfl,s,z,l⟩:=a.tupl
    obtain⟨v,f,h1,h2,h3⟩:=atI_rep l e
    exact .inl (.inl (.inr ⟨p,vs,_,v,rfl,rfl,s,h1,k v f h2 h3⟩))
  · obtain⟨hl,e⟩:=Res.when_eq e
    obtain⟨c,e1,e⟩:=Res.bind_eq e
    cases e
    cases a
    cases b
    exact .inl (.inr ⟨_,_,c,rfl,rfl,of_decide_eq_true hl,Res.of_eq e1,k _ [] .str fun a m=>nomatch m⟩)
  · obtain⟨q,e1,e⟩:=Res.bind_eq e
    obtain⟨p,rfl,g⟩:=dget_rep a b (Res.of_eq e1)
    have e:=Res.of_eq e
    rcases g with ⟨n,_⟩ | ⟨d',v,f',e2,g,r,s⟩
    · rw[n] at e;cases e
    · rw[e2] at e
      cases e
      exact .inr ⟨p,v,rfl,g,k v f' r s⟩
  · cases e
def mqIx(qa qb:MQ D): MQ D:=fun m=>(qa m).bind fun d1=>(qb m).bind fun d2=>dIx d1 d2
theorem meq_ix(hu:X.A.units+64<cLine)(ha:MEQ X CT a qa)(hb:MEQ X CT b qb)(hs:PlainIx b): MEQ X CT (.Subscript a b pos) (mqIx qa qb) :=
  pe_weak (pe_ix (((ix_list.or ix_tup).or ix_str).or (ix_dic hu)) ha hb hs) fun σ H Q ⟨W,m,fp,d,rel,e,q⟩=>by
    obtain⟨d1,e1,e⟩:=Res.bind_eq e
    obtain⟨d2,e2,e⟩:=Res.bind_eq e
    refine⟨W,m,fp,d1,rel,e1,fun v1 W1 H1 fd1 P1=>⟨W1,m,fp,d2,P1.rel,e2,fun v2 W2 H2 fd2 P2=>?_⟩⟩
    exact ix_rep (P1.rep.ext P2.ext off_nil fun a _ z=>by cases z) P2.rep e fun v f r s=>q v W2 H2 f ⟨P2.rel,r,P1.ext.trans P2.ext (fun a z=>by cases z),fun a z=>P1.sub a (s a z)⟩
def mIx(ma mb:M D): M D:=fun m=>(ma m).bind fun r1=>(mb r1.2).bind fun r2=>(dIx r1.1 r2.1).bind fun d=>Res.when d.pure (.ok (d,r2.2))
def mIxN(i:Nat)(mb:M D): M D:=fun m=>(mqVar i m).bind fun _=>(mb m).bind fun r2=>(mqVar i r2.2).bind fun d1=>(dIx d1 r2.1).bind fun d=>Res.when d.pure (.ok (d,r2.2))
theorem postB_val{K:PySem.W.Frag}{W W1:Wd}{H H1:Hp}{fp fp1 fd f:List Addr}{σ:L2.St}{m1:Mem}{v v':V}{d d':D}(p:PostB K CT W H σ fp v d m1 W1 H1 fp1 fd)(r:RepD K W1 H1 v' d' f)(h:d'.pure=true): Post K CT W H σ fp v' d' m1 W1 H1 fp1 []:=by
  obtain rfl:=r.pure h
  exact PostT.post ⟨p.rel,p.ext,p.sub⟩ (Post.mk0 p.rel r)
theorem me_ix(hu:X.A.units+64<cLine)(ha:ME X CT a ma)(hb:MEB X CT b mb)(hs:PlainIx b): ME X CT (.Subscript a b pos) (mIx ma mb) :=
  pe_weak (pe_ix (((ix_list.or ix_tup).or ix_str).or (ix_dic hu)) ha hb hs) fun σ H Q ⟨W,m,fp,d,m',rel,e,q⟩=>by
    obtain⟨⟨d1,m1⟩,e1,e⟩:=Res.bind_eq e
    obtain⟨⟨d2,m2⟩,e2,e⟩:=Res.bind_eq e
    obtain⟨d3,e3,e⟩:=Res.bind_eq e
    obtain⟨p0,e⟩:=Res.when_eq e
    cases e
    refine⟨W,m,fp,d1,m1,rel,e1,fun v1 W1 H1 fp1 fd1 P1=>⟨W1,m1,fp1,d2,_,P1.rel,e2,fun v2 W2 H2 fp2 fd2 P2=>?_⟩⟩
    exact ix_rep (fin2 P1 P2.ext) P2.rep e3 fun v f r s=>q v W2 H2 fp2 [] (postB_val (P1.t.postB P2) r p0)
theorem me_ixN(hu:X.A.units+64<cLine)(ha:PE X a (tVar i))(hb:MEB X CT b mb)(hs:PlainIx b): ME X CT (.Subscript a b pos) (mIxN i mb) :=
  pe_weak (pe_ix (((ix_list.or ix_tup).or ix_str).or (ix_dic hu)) ha hb hs) fun σ H Q ⟨W,m,fp,d,m',rel,e,q⟩=>by
    obtain⟨d0,e0,e⟩:=Res.bind_eq e
    obtain⟨⟨d2,m2⟩,e2,e⟩:=Res.bind_eq e
    obtain⟨d1,e1,e⟩:=Res.bind_eq e
    obtain⟨d3,e3,e⟩:=Res.bind_eq e
    obtain⟨p0,e⟩:=Res.when_eq e
    cases e
    obtain⟨q1,q2⟩:=mqVar_eq e1
    obtain⟨q3,q4⟩:=mqVar_eq e0
    obtain⟨v1,hv⟩:∃ v,σ[i]?=some (some v):=by
      obtain⟨f,g,rfl,h1,h2⟩:=rel.s
      obtain⟨v,_,_,_,_,s,_⟩:=h1.at q3 q4
      exact⟨v,s⟩
    refine⟨v1,hv,W,m,fp,d2,_,rel,e2,fun v2 W2 H2 fp2 fd2 P2=>?_⟩
    obtain⟨f,g',rfl,h1,h2⟩:=P2.rel.s
    obtain⟨v1',A,f1,B,rfl,s,r1,_⟩:=h1.at q1 q2
    rw[hv] at s
    cases s
    exact ix_rep r1 P2.rep e3 fun v f r s=>q v W2 H2 _ [] (postB_val P2 r p0)
def MO(X:Cx)(CT:Nat→Addr)(o:Option Expr)(q:MQ (Option Int)): Prop:=PO X o fun σ H Q=>∃ W m fp i,Rel X.K CT W H σ m fp∧q m=.ok i∧∀ W' H',Ext W H W' H' []→Rel X.K CT W' H' σ m fp→Q i H'
def mqNone: MQ (Option Int):=fun _=>.ok none
def mqSome(q:MQ D): MQ (Option Int):=fun m=>(q m).bind fun d=>match d with
  | .int i=>.ok (some i)
  | _=>.fail
theorem po_weak{o:Option Expr}{t t':TO}(h:PO X o t)(k:∀ σ H Q,t' σ H Q→t σ H Q): PO X o t':=⟨fun pins s σ H Q I q=>h.run pins s σ H Q I (k σ H Q q)⟩
theorem mo_none: MO X CT none mqNone:=po_weak po_none fun σ H Q ⟨W,m,fp,i,rel,e,q⟩=>by
  cases e
  exact q W H (Ext.refl _ _ _) rel
theorem mo_some(h:MEQ X CT a qa): MO X CT (some a) (mqSome qa):=po_weak (po_some h) fun σ H Q ⟨W,m,fp,i,rel,e,q⟩=>by
  obtain⟨d,e1,e⟩:=Res.bind_eq e
  refine⟨W,m,fp,d,rel,e1,fun v W' H' fd p=>?_⟩
  have r:=p.rep
  split at e
  · cases e
    cases r
    exact⟨_,rfl,q W' H' p.ext p.rel⟩
  · cases e
def cutD(xs:List D)(lo hi:Option Int): List D:=(xs.drop (HT.sIx xs.length 0 lo)).take (HT.sIx xs.length xs.length hi - HT.sIx xs.length 0 lo)
@[simp] def dSl(d:D)(lo hi:Option Int): Res D:=match d with
  | .lst _ xs=>Res.when (pureL xs) (.ok (.lst true (cutD xs lo hi)))
  | .tup xs=>Res.when (pureL xs) (.ok (.tup (cutD xs lo hi)))
  | .str z=>Res.when (decide (z.length≤sizeLine)) (.ok (.str (cutS z lo hi)))
  | _=>.fail
def mSl(ma:M D)(lo hi:MQ (Option Int)): M D:=fun m=>(ma m).bind fun r=>(lo r.2).bind fun l=>(hi r.2).bind fun h=>(dSl r.1 l h).bind fun d=>.ok (d,r.2)
theorem sl_rep{W:Wd}{H:Hp}{x:V}{d1 d:D}{f1:List Addr}{lo hi:Option Int}{Q:VK}(x0:Fix W H)(a:RepD X.K W H x d1 f1)(e:dSl d1 lo hi=.ok d)(k:∀ v W' H' fd,New X.K W H v d W' H' fd→Q v H'): (rSlL X.K x lo hi H Q∨rSlA X.K x lo hi H Q)∨rSlS x lo hi H Q:=by
  unfold dSl at e;split at e
  · obtain⟨h,e⟩:=Res.when_eq e
    cases e
    obtain⟨p,vs,g',rfl,s,l,sb⟩:=a.lst
    obtain rfl:=l.pure h
    refine .inl (.inl ⟨p,vs,rfl,s,fun p' hp=>k _ _ _ _ (New.lst x0 hp ?_)⟩)
    unfold cutV cutD
    rw[l.length]
    exact l.pick _ _
  · obtain⟨h,e⟩:=Res.when_eq e
    cases e
    obtain⟨p,vs,rfl,s,z,l⟩:=a.tupl
    obtain rfl:=l.pure h
    refine .inl (.inr ⟨p,vs,rfl,s,fun y=>?_,fun _ p' hp=>k _ _ _ _ (New.tup x0 hp ?_)⟩)
    · rw[l.length] at y
      unfold cutD at k
      rw[y.1,y.2,Nat.sub_zero,List.drop_zero,List.take_length] at k
      exact k _ W H [] (New.sc x0 (.tup z l))
    · unfold cutV cutD
      rw[l.length]
      exact l.pick _ _
  · obtain⟨h,e⟩:=Res.when_eq e
    cases e
    cases a
    exact .inr ⟨_,rfl,of_decide_eq_true h,k _ _ _ _ (New.sc x0 .str)⟩
  · cases e
theorem me_sl{lo hi:Option Expr}{p2:Pos}{ql qh:MQ (Option Int)}(ha:MEB X CT a ma)(hl:MO X CT lo ql)(hh:MO X CT hi qh): ME X CT (.Subscript a (.Slice lo hi none p2) pos) (mSl ma ql qh) :=
  pe_weak (pe_slice ((sl_list.or sl_tupA).or sl_str) ha hl hh) fun σ H Q ⟨W,m,fp,d,m',rel,e,q⟩=>by
    obtain⟨⟨d1,m1⟩,e1,e⟩:=Res.bind_eq e
    obtain⟨l,e2,e⟩:=Res.bind_eq e
    obtain⟨h,e3,e⟩:=Res.bind_eq e
    obtain⟨d3,e4,e⟩:=Res.bind_eq e
    cases e
    refine⟨W,m,fp,d1,_,rel,e1,fun v1 W1 H1 fp1 fd1 P1=>⟨W1,m1,fp1,l,P1.rel,e2,fun W2 H2 x2 r2=>⟨W2,m1,fp1,h,r2,e3,fun W3 H3 x3 r3=>?_⟩⟩⟩
    have x13:Ext W1 H1 W3 H3 []:=x2.trans x3 fun a z=>by cases z
    exact sl_rep r3.fix (P1.rep.ext x13 off_nil fun a _ z=>by cases z) e4 fun v W' H' fd n=>q v W' H' fp1 fd (n.post r3 (P1.ext.trans (x13.sub (fq:=fp1) fun a z=>by cases z) fun a z=>P1.sub a z) P1.sub)
end
end E
namespace E
open PySem L2
inductive Arg where
  | val (d:D)
  | nam (i:Nat)
  | bor (d:D)
inductive RepA (K:PySem.W.Frag) (W:Wd) (H:Hp) (σ:L2.St) (fp:List Addr):List V→List Arg→List Addr→Prop
  | nil:RepA K W H σ fp [] [] []
  | val {v d f vs as g}:RepD K W H v d f→RepA K W H σ fp vs as g→RepA K W H σ fp (v::vs) (.val d::as) (f++g)
  | nam {v i vs as g}:σ[i]?=some (some v)→RepA K W H σ fp vs as g→RepA K W H σ fp (v::vs) (.nam i::as) g
  | bor {v d f vs as g}:RepD K W H v d f→(∀ a∈f,a∈fp)→RepA K W H σ fp vs as g→RepA K W H σ fp (v::vs) (.bor d::as) g
section
variable (K:PySem.W.Frag) (CT:Nat→Addr)
structure PostA (W:Wd) (H:Hp) (σ:L2.St) (fp:List Addr) (vs:List V) (as:List Arg) (m':Mem) (W':Wd) (H':Hp) (fp' fd:List Addr):Prop where
  rel:Rel K CT W' H' σ m' fp'
  rep:RepA K W' H' σ fp' vs as fd
  nd:(fp'++fd).Nodup
  own:Own W' H' fd
  ext:Ext W H W' H' fp
  sub:∀ a∈fp'++fd,a∈fp∨H a=none
def tA(e:M (List Arg)): TA:=fun σ H Q=>∃ W m fp as m',Rel K CT W H σ m fp∧e m=.ok (as,m')∧∀ vs W' H' fp' fd,PostA K CT W H σ fp vs as m' W' H' fp' fd→Q vs H'
structure PostAQ (W:Wd) (H:Hp) (σ:L2.St) (m:Mem) (fp:List Addr) (vs:List V) (as:List D) (W':Wd) (H':Hp) (fd:List Addr):Prop where
  rel:Rel K CT W' H' σ m fp
  rep:RepL K W' H' vs as fd
  ext:Ext W H W' H' []
  sub:∀ a∈fd,a∈fp
def tAQ(e:MQ (List D)): TA:=fun σ H Q=>∃ W m fp ds,Rel K CT W H σ m fp∧e m=.ok ds∧∀ vs W' H' fd,PostAQ K CT W H σ m fp vs ds W' H' fd→Q vs H'
end
def MA(X:Cx)(CT:Nat→Addr)(es:List Expr)(m:M (List Arg)): Prop:=PA X es (tA X.K CT m)
def MAQ(X:Cx)(CT:Nat→Addr)(es:List Expr)(m:MQ (List D)): Prop:=PA X es (tAQ X.K CT m)
def maNil: M (List Arg):=fun m=>.ok ([],m)
def maV(a:M D)(r:M (List Arg)): M (List Arg):=fun m=>(a m).bind fun x=>(r x.2).bind fun y=>.ok (.val x.1::y.1,y.2)
def maN(i:Nat)(r:M (List Arg)): M (List Arg):=fun m=>(mqVar i m).bind fun _=>(r m).bind fun y=>.ok (.nam i::y.1,y.2)
def maQ(q:MQ (List D)): M (List Arg):=fun m=>(q m).bind fun ds=>.ok (ds.map .bor,m)
def mqNil: MQ (List D):=fun _=>.ok []
def mqCons(a:MQ D)(r:MQ (List D)): MQ (List D):=fun m=>(a m).bind fun x=>(r m).bind fun y=>.ok (x::y)
section
variable {K:PySem.W.Frag} {CT:Nat→Addr} {W W' W1 W2:Wd} {H H' H1 H2:Hp} {σ:L2.St} {m m' m1 m2:Mem} {fp fp' fd fp1 fp2 fd1 fd2 g:List Addr} {v v1 v2:V} {d d1 d2:D}
theorem RepL.nils{vs:List V}{as:List D}: RepL K W H vs as fd→(∀ a∈fd,a∈fp)→RepA K W H σ fp vs (as.map .bor) []:=by
  intro h
  induction vs generalizing as fd with
  | nil=>cases h;intro _;exact .nil
  | cons v vs ih=>cases h with
    | cons r l =>
      intro s
      exact .bor r (fun a z=>s a (List.mem_append_left _ z)) (ih l fun a z=>s a (List.mem_append_right _ z))
end
section
variable {X:Cx} {CT:Nat→Addr} {e a b c:Expr} {es rest:List Expr} {pos:Pos} {ma mb:M D} {qa qb qc:MQ D} {i:Nat} {ml:M (List Arg)} {ql:MQ (List D)}
theorem maq_nil: MAQ X CT [] mqNil:=pa_weak pa_nil fun σ H Q ⟨W,m,fp,ds,rel,e,q⟩=>by
  cases e
  exact q [] W H [] ⟨rel,.nil,Ext.refl _ _ _,fun a z=>by cases z⟩
theorem maq_cons(h:MEQ X CT e qa)(hr:MAQ X CT es ql)(hst:starEach (e::es) X.env=(false,eval e X.env)::starEach es X.env:=by rfl): MAQ X CT (e::es) (mqCons qa ql):=pa_weak (pa_cons h hr hst) fun σ H Q ⟨W,m,fp,ds,rel,e,q⟩=>by
  obtain⟨d,e1,e⟩:=Res.bind_eq e
  obtain⟨ds',e2,e⟩:=Res.bind_eq e
  cases e
  refine⟨W,m,fp,d,rel,e1,fun v W1 H1 fd p=>⟨W1,m,fp,ds',p.rel,e2,fun vs W2 H2 fd2 p2=>q (v::vs) W2 H2 (fd++fd2) ⟨p2.rel,.cons (p.rep.ext p2.ext off_nil fun a _ z=>by cases z) p2.rep,p.ext.trans p2.ext (fun a z=>by cases z),fun a z=>?_⟩⟩⟩
  rcases List.mem_append.mp z with z | z
  · exact p.sub a z
  · exact p2.sub a z
theorem ma_q(h:MAQ X CT es ql): MA X CT es (maQ ql):=pa_weak h fun σ H Q ⟨W,m,fp,as,m',rel,e,q⟩=>by
  obtain⟨ds,e1,e⟩:=Res.bind_eq e
  cases e
  exact⟨W,_,fp,ds,rel,e1,fun vs W' H' fd p=>q vs W' H' fp [] ⟨p.rel,p.rep.nils p.sub,by rw[List.append_nil];exact p.rel.nd,Own.nil,p.ext.sub (fun a z=>by cases z),fun a z=>.inl (by simpa using z)⟩⟩
theorem w_nil{X:Cx}{CT:Nat→Addr}: ∀ σ H Q,tA X.K CT maNil σ H Q→tNil σ H Q:=fun σ H Q ⟨W,m,fp,as,m',rel,e,q⟩=>by
  cases e
  exact q [] W H fp [] ⟨rel,.nil,by rw[List.append_nil];exact rel.nd,Own.nil,Ext.refl _ _ _,fun a z=>.inl (by simpa using z)⟩
theorem ma_nil: MA X CT [] maNil:=pa_weak pa_nil w_nil
theorem ma_n(h:PE X e (tVar i))(hr:MA X CT es ml)(hst:starEach (e::es) X.env=(false,eval e X.env)::starEach es X.env:=by rfl): MA X CT (e::es) (maN i ml):=pa_weak (pa_cons h hr hst) fun σ H Q ⟨W,m,fp,as,m',rel,e,q⟩=>by
  obtain⟨d0,e0,e⟩:=Res.bind_eq e
  obtain⟨⟨as',m1⟩,e1,e⟩:=Res.bind_eq e
  cases e
  obtain⟨q3,q4⟩:=mqVar_eq e0
  obtain⟨v1,hv⟩:∃ v,σ[i]?=some (some v):=by
    obtain⟨f,g,rfl,h1,h2⟩:=rel.s
    obtain⟨v,_,_,_,_,s,_⟩:=h1.at q3 q4
    exact⟨v,s⟩
  exact⟨v1,hv,W,m,fp,as',_,rel,e1,fun vs W' H' fp' fd p=>q (v1::vs) W' H' fp' fd ⟨p.rel,.nam hv p.rep,p.nd,p.own,p.ext,p.sub⟩⟩
theorem w_v{X:Cx}{CT:Nat→Addr}{ma:M D}{ml:M (List Arg)}: ∀ σ H Q,tA X.K CT (maV ma ml) σ H Q→tCons (tM X.K CT ma) (tA X.K CT ml) σ H Q:=fun σ H Q ⟨W,m,fp,as,m',rel,e,q⟩=>by
  obtain⟨⟨d,m1⟩,e1,e⟩:=Res.bind_eq e
  obtain⟨⟨as',m2⟩,e2,e⟩:=Res.bind_eq e
  cases e
  refine⟨W,m,fp,d,m1,rel,e1,fun v W1 H1 fp1 fd1 p=>⟨W1,m1,fp1,as',_,p.rel,e2,fun vs W2 H2 fp2 fd2 p2=>q (v::vs) W2 H2 fp2 (fd1++fd2) ?_⟩⟩
  have d1:∀ a∈fd1,a ∉ fp1:=fun a ma mf=>by
    have:=p.nd
    rw[List.nodup_append] at this
    exact this.2.2 a mf a ma rfl
  have nz:∀ a∈fd1,H1 a≠none:=fun a z=>(p.own a z).2
  have nd2:=p2.nd
  have nd1:=p.nd
  rw[List.nodup_append] at nd1 nd2
  have far:∀ a∈fd1,∀ b∈fp2++fd2,a≠b:=fun a z b y e=>by
    subst e
    rcases p2.sub a y with y | y
    · exact d1 a z y
    · exact nz a z y
  refine⟨p2.rel,.val (p.rep.ext p2.ext p.rel.off d1) p2.rep,?_,?_,p.ext.trans p2.ext (fun a z=>p.sub a (List.mem_append_left _ z)),fun a z=>?_⟩
  · rw[List.nodup_append,List.nodup_append]
    refine⟨nd2.1,⟨nd1.2.1,nd2.2.1,fun a z b y=>far a z b (List.mem_append_right _ y)⟩,fun a z b y=>?_⟩
    rcases List.mem_append.mp y with y | y
    · exact(far b y a (List.mem_append_left _ z)).symm
    · exact nd2.2.2 a z b y
  · rw[Own.app]
    exact⟨p.own.ext p2.ext d1,p2.own⟩
  · have s12:∀ a∈fp2++fd2,a∈fp∨H a=none:=fun a z=>by
      rcases p2.sub a z with y | y
      · exact p.sub a (List.mem_append_left _ y)
      · exact .inr (p.ext.there a y)
    rcases List.mem_append.mp z with z | z
    · exact s12 a (List.mem_append_left _ z)
    · rcases List.mem_append.mp z with z | z
      · exact p.sub a (List.mem_append_right _ z)
      · exact s12 a (List.mem_append_right _ z)
theorem ma_v(h:ME X CT e ma)(hr:MA X CT es ml)(hst:starEach (e::es) X.env=(false,eval e X.env)::starEach es X.env:=by rfl): MA X CT (e::es) (maV ma ml):=pa_weak (pa_cons h hr hst) w_v
@[simp] def vals: List Arg→Res (List D)
  | []=>.ok []
  | .val d::r=>(vals r).bind fun ds=>.ok (d::ds)
  | .bor d::r=>Res.when d.pure ((vals r).bind fun ds=>.ok (d::ds))
  | .nam _::_=>.fail
theorem vals_rep{K:PySem.W.Frag}{W:Wd}{H:Hp}{σ:L2.St}{fp:List Addr}{vs:List V}{as:List Arg}{g:List Addr}(h:RepA K W H σ fp vs as g): ∀ {ds:List D},vals as=.ok ds→RepL K W H vs ds g:=by
  induction h with
  | nil=>intro ds e;cases e;exact .nil
  | val r _ ih =>
    intro ds e
    obtain⟨ds',e1,e⟩:=Res.bind_eq e
    cases e
    exact .cons r (ih e1)
  | nam _ _ _=>intro ds e;cases e
  | bor r s _ ih =>
    intro ds e
    obtain⟨p,e⟩:=Res.when_eq e
    obtain⟨ds',e1,e⟩:=Res.bind_eq e
    cases e
    obtain rfl:=r.pure p
    exact RepL.cons (f:=[]) r (ih e1)
def mTup(a:M (List Arg)): M D:=fun m=>(a m).bind fun r=>(vals r.1).bind fun ds=>Res.when (decide (ds.length≤sizeLine)) (.ok (.tup ds,r.2))
def mLst(a:M (List Arg)): M D:=fun m=>(a m).bind fun r=>(vals r.1).bind fun ds=>Res.when (decide (ds.length≤sizeLine)) (.ok (.lst true ds,r.2))
def mqTup(a:MQ (List D)): MQ D:=fun m=>(a m).bind fun ds=>Res.when (pureL ds&&decide (ds.length≤sizeLine)) (.ok (.tup ds))
theorem w_tup{X:Cx}{CT:Nat→Addr}{ml:M (List Arg)}: ∀ σ H Q,tM X.K CT (mTup ml) σ H Q→tTup (tA X.K CT ml) σ H Q:=fun σ H Q ⟨W,m,fp,d,m',rel,e,q⟩=>by
  obtain⟨⟨as,m1⟩,e1,e⟩:=Res.bind_eq e
  obtain⟨ds,e2,e⟩:=Res.bind_eq e
  obtain⟨hl,e⟩:=Res.when_eq e
  cases e
  refine⟨W,m,fp,as,_,rel,e1,fun vs W1 H1 fp1 fd p=>?_⟩
  have l:=vals_rep p.rep e2
  refine⟨by rw[l.length];exact of_decide_eq_true hl,fun t ht=>?_⟩
  have x:=ext_updF (W:=W1) (o:=.tup vs) ht
  refine q (.ref t) (W1.fixed [t]) _ fp1 fd ⟨p.rel.ext x off_nil (fun a _ z=>by cases z) rfl (fix_updF p.rel.fix),.tup (.inl ⟨.inr (by simp),.inl upd_same⟩) (l.ext x off_nil fun a _ z=>by cases z),p.nd,p.own.ext x (fun a _ z=>by cases z),p.ext.trans x (fun a z=>by cases z),p.sub⟩
theorem me_tup(h:MA X CT es ml){x1}: ME X CT (.Tuple es x1 pos) (mTup ml):=pe_weak (pe_tup h) w_tup
theorem w_lst {X:Cx} {CT:Nat→Addr} {ml:M (List Arg)}:∀ σ H Q,tM X.K CT (mLst ml) σ H Q→tLst (tA X.K CT ml) σ H Q:=fun σ H Q ⟨W,m,fp,d,m',rel,e,q⟩=>by
  obtain⟨⟨as,m1⟩,e1,e⟩:=Res.bind_eq e
  obtain⟨ds,e2,e⟩:=Res.bind_eq e
  obtain⟨hl,e⟩:=Res.when_eq e
  cases e
  refine⟨W,m,fp,as,_,rel,e1,fun vs W1 H1 fp1 fd p=>?_⟩
  have l:=vals_rep p.rep e2
  refine⟨by rw[l.length];exact of_decide_eq_true hl,fun t ht=>?_⟩
  have x:=ext_upd (W:=W1) (o:=.lst vs) ht
  have tn:∀ a∈fp1++fd,a≠t:=fun a z y=>by
    subst y
    rcases List.mem_append.mp z with z | z
    · exact(p.rel.own a z).2 ht
    · exact(p.own a z).2 ht
  have ndp:=p.nd
  rw[List.nodup_append] at ndp
  refine q (.ref t) W1 _ fp1 (t::fd) ⟨p.rel.ext x off_nil (fun a _ z=>by cases z) rfl (fix_upd p.rel.fix),.lstO upd_same (l.ext x off_nil fun a _ z=>by cases z),?_,?_,p.ext.trans x (fun a z=>by cases z),fun a z=>?_⟩
  · rw[List.nodup_append,List.nodup_cons]
    refine⟨ndp.1,⟨fun z=>tn t (List.mem_append_right _ z) rfl,ndp.2.1⟩,fun a z b y e=>?_⟩
    subst e
    rcases List.mem_cons.mp y with y | y
    · exact tn a (List.mem_append_left _ z) y
    · exact ndp.2.2 a z a y rfl
  · intro a z
    rcases List.mem_cons.mp z with z | z
    · subst z
      exact⟨fun y=>p.rel.fix a y ht,by rw[upd_same];exact fun z=>by cases z⟩
    · exact(p.own.ext x fun a _ z=>by cases z) a z
  · rcases List.mem_append.mp z with z | z
    · exact p.sub a (List.mem_append_left _ z)
    · rcases List.mem_cons.mp z with z | z
      · subst z
        exact .inr (p.ext.there a ht)
      · exact p.sub a (List.mem_append_right _ z)
theorem me_lst(h:MA X CT es ml): ME X CT (.List es pos) (mLst ml):=pe_weak (pe_lst h) w_lst
def CallD(X:Cx)(f:Value)(g:List D→Res D): Prop :=
  ∃ r:List V→Hp→VK→Prop,CallR X f r∧∀ W H xs ds fs d Q,Fix W H→RepL X.K W H xs ds fs→g ds=.ok d→(∀ v W' H' fd,New X.K W H v d W' H' fd→Q v H')→r xs H Q
theorem CallD.or{f:Value}{g1 g2:List D→Res D}(h1:CallD X f g1)(h2:CallD X f g2): CallD X f (fun ds=>match g1 ds with
    | .ok d=>.ok d
    | _=>g2 ds):=by
  obtain⟨r1,o1,k1⟩:=h1
  obtain⟨r2,o2,k2⟩:=h2
  refine⟨fun xs H Q=>r1 xs H Q∨r2 xs H Q,fun pins s σ H xs us Q I r h=>h.elim (o1 pins s σ H xs us Q I r) (o2 pins s σ H xs us Q I r),fun W H xs ds fs d Q x0 a e k=>?_⟩
  dsimp only at e
  split at e
  · rename_i d' e1
    cases e
    exact .inl (k1 W H xs ds fs d Q x0 a e1 k)
  · exact .inr (k2 W H xs ds fs d Q x0 a e k)
@[simp] def conts(env:List D): List Arg→Res (List D)
  | []=>.ok []
  | .val d::r=>(conts env r).bind fun ds=>.ok (d::ds)
  | .bor d::r=>(conts env r).bind fun ds=>.ok (d::ds)
  | .nam i::r=>match env[i]? with
    | some .und=>.fail
    | some d=>(conts env r).bind fun ds=>.ok (d::ds)
    | none=>.fail
theorem conts_rep{K:PySem.W.Frag}{W:Wd}{H:Hp}{σ:L2.St}{fp fs:List Addr}{env:List D}{vs:List V}{as:List Arg}{g:List Addr}(hs:RepS K W H σ env fs)(h:RepA K W H σ fp vs as g): ∀ {ds:List D},conts env as=.ok ds→∃ g',RepL K W H vs ds g':=by
  induction h with
  | nil=>intro ds e;cases e;exact⟨_,.nil⟩
  | val r _ ih =>
    intro ds e
    obtain⟨ds',e1,e⟩:=Res.bind_eq e
    cases e
    obtain⟨g',l⟩:=ih e1
    exact⟨_,.cons r l⟩
  | nam s _ ih =>
    intro ds e
    unfold conts at e
    split at e
    · cases e
    · rename_i d nd ed
      obtain⟨ds',e1,e⟩:=Res.bind_eq e
      cases e
      obtain⟨g',l⟩:=ih e1
      obtain⟨v,A,f,B,_,s',r,_⟩:=hs.at ed nd
      rw[s] at s'
      cases s'
      exact⟨_,.cons r l⟩
    · cases e
  | bor r _ _ ih =>
    intro ds e
    obtain⟨ds',e1,e⟩:=Res.bind_eq e
    cases e
    obtain⟨g',l⟩:=ih e1
    exact⟨_,.cons r l⟩
def mCB(g:List D→Res D)(a:M (List Arg)): M D:=fun m=>(a m).bind fun r=>(conts r.2.env r.1).bind fun ds=>(g ds).bind fun d=>.ok (d,r.2)
def mqCB(g:List D→Res D)(a:MQ (List D)): MQ D:=fun m=>(a m).bind fun ds=>(g ds).bind fun d=>Res.when d.pure (.ok d)
theorem tcb{r:List V→Hp→VK→Prop}{g:List D→Res D}(k:∀ W H xs ds fs d Q,Fix W H→RepL X.K W H xs ds fs→g ds=.ok d→(∀ v W' H' fd,New X.K W H v d W' H' fd→Q v H')→r xs H Q):
    ∀ σ H Q,tM X.K CT (mCB g ml) σ H Q→tCB r (tA X.K CT ml) σ H Q:=fun σ H Q ⟨W,m,fp,d,m',rel,e,q⟩=>by
  obtain⟨⟨as,m1⟩,e1,e⟩:=Res.bind_eq e
  obtain⟨ds,e2,e⟩:=Res.bind_eq e
  obtain⟨d',e3,e⟩:=Res.bind_eq e
  cases e
  refine⟨W,m,fp,as,_,rel,e1,fun vs W1 H1 fp1 fd p=>?_⟩
  obtain⟨f,g',rfl,h1,h2⟩:=p.rel.s
  obtain⟨g',l⟩:=conts_rep h1 p.rep e2
  exact k W1 H1 vs ds g' d _ p.rel.fix l e3 fun v W' H' fd n=>q v W' H' _ fd (n.post p.rel p.ext fun a z=>p.sub a (List.mem_append_left _ z))
theorem tcbQ{r:List V→Hp→VK→Prop}{g:List D→Res D}(k:∀ W H xs ds fs d Q,Fix W H→RepL X.K W H xs ds fs→g ds=.ok d→(∀ v W' H' fd,New X.K W H v d W' H' fd→Q v H')→r xs H Q):
    ∀ σ H Q,tQ X.K CT (mqCB g ql) σ H Q→tCB r (tAQ X.K CT ql) σ H Q:=fun σ H Q ⟨W,m,fp,d,rel,e,q⟩=>by
  obtain⟨ds,e1,e⟩:=Res.bind_eq e
  obtain⟨d',e3,e⟩:=Res.bind_eq e
  obtain⟨p0,e⟩:=Res.when_eq e
  cases e
  refine⟨W,m,fp,ds,rel,e1,fun vs W1 H1 fd p=>?_⟩
  exact k W1 H1 vs ds fd d _ p.rel.fix p.rep e3 fun v W' H' fd n=>q v W' H' [] (n.postQ p0 p.rel p.ext)
variable {x:Str} {p0:Pos} {id T:String} {g:List D→Res D}
theorem me_cb(o:CallD X (.builtin id) g)(hg:Gl X x)(hm:X.mg x=none)(hv:bootBuiltins x=some (.builtin id))(ha:MA X CT (e::es) ml)(hn:x≠"__name__":=by decide)(hdb:(x==("__debug__":Str))=false:=by decide) 
    (hst:starEach (e::es) X.env=(false,eval e X.env)::starEach es X.env:=by rfl) (hpl:(backTo pos (starEach es X.env)).any (·.1)=false:=by rfl):ME X CT (.Call (.Name x p0) (e::es) [] pos) (mCB g ml):=by
  obtain⟨r,h,k⟩:=o
  exact pe_weak (pe_callB h hg hm hv ha hn hdb hst hpl) (tcb k)
theorem meq_cb(o:CallD X (.builtin id) g)(hg:Gl X x)(hm:X.mg x=none)(hv:bootBuiltins x=some (.builtin id))(ha:MAQ X CT (e::es) ql)(hn:x≠"__name__":=by decide)(hdb:(x==("__debug__":Str))=false:=by decide) 
    (hst:starEach (e::es) X.env=(false,eval e X.env)::starEach es X.env:=by rfl) (hpl:(backTo pos (starEach es X.env)).any (·.1)=false:=by rfl):MEQ X CT (.Call (.Name x p0) (e::es) [] pos) (mqCB g ql):=by
  obtain⟨r,h,k⟩:=o
  exact pe_weak (pe_callB h hg hm hv ha hn hdb hst hpl) (tcbQ k)
theorem me_cty(o:CallD X (.type T) g)(hg:Gl X x)(hm:X.mg x=none)(hv:bootBuiltins x=some (.type T))(ha:MA X CT (e::es) ml)(hn:x≠"__name__":=by decide)(hdb:(x==("__debug__":Str))=false:=by decide) 
    (hst:starEach (e::es) X.env=(false,eval e X.env)::starEach es X.env:=by rfl) (hpl:(backTo pos (starEach es X.env)).any (·.1)=false:=by rfl):ME X CT (.Call (.Name x p0) (e::es) [] pos) (mCB g ml):=by
  obtain⟨r,h,k⟩:=o
  exact pe_weak (pe_callTy h hg hm hv ha hn hdb hst hpl) (tcb k)
theorem meq_cty(o:CallD X (.type T) g)(hg:Gl X x)(hm:X.mg x=none)(hv:bootBuiltins x=some (.type T))(ha:MAQ X CT (e::es) ql)(hn:x≠"__name__":=by decide)(hdb:(x==("__debug__":Str))=false:=by decide) 
    (hst:starEach (e::es) X.env=(false,eval e X.env)::starEach es X.env:=by rfl) (hpl:(backTo pos (starEach es X.env)).any (·.1)=false:=by rfl):MEQ X CT (.Call (.Name x p0) (e::es) [] pos) (mqCB g ql):=by
  obtain⟨r,h,k⟩:=o
  exact pe_weak (pe_callTy h hg hm hv ha hn hdb hst hpl) (tcbQ k)
end
end E
namespace E
open PySem L2
abbrev CallM:= List D→List Ob→Res (D×List D×List Ob)
def grab:List Arg→List D→Res (List D×List (Option Nat)×List D)
  | [],env=>.ok ([],[],env)
  | .val d::as,env=>(grab as env).bind fun r=>.ok (d::r.1,none::r.2.1,r.2.2)
  | .bor d::as,env=>Res.when d.pure ((grab as env).bind fun r=>.ok (d::r.1,none::r.2.1,r.2.2))
  | .nam i::as,env=>match env[i]? with
    | some .und=>.fail
    | some d=>if d.pure=true then (grab as env).bind fun r=>.ok (d::r.1,none::r.2.1,r.2.2)
      else (grab as (env.set i .und)).bind fun r=>.ok (d::r.1,some i::r.2.1,r.2.2)
    | none=>.fail
@[simp] def giveBack: List (Option Nat)→List D→List D→List D
  | some i::is,d::ds,env=>giveBack is ds (env.set i d)
  | none::is,_::ds,env=>giveBack is ds env
  | _,_,env=>env
inductive Link (σ:L2.St):List V→List (Option Nat)→Prop
  | done {vs}:Link σ vs []
  | none {v vs is}:Link σ vs is→Link σ (v::vs) (none::is)
  | some {v vs i is}:σ[i]?=some (some v)→Link σ vs is→Link σ (v::vs) (some i::is)
section
variable {K:PySem.W.Frag} {CT:Nat→Addr} {W W' W1 W2:Wd} {H H' H1 H2:Hp} {σ:L2.St} {m m' m1 m2:Mem} {fp fp' fd fp1 fp2 fd1 fd2 g:List Addr} {v v1 v2:V} {d d1 d2:D}
theorem RepS.take {env:List D} {f:List Addr} (h:RepS K W H σ env f):∀ {i:Nat} {d:D},env[i]?=some d→d≠.und→∃ v f1 f',f.Perm (f1++f')∧σ[i]?=some (some v)∧RepD K W H v d f1∧RepS K W H σ (env.set i .und) f':=by
  induction h with
  | nil=>intro i d e;simp at e
  | @und x σ env g hs ih =>
    intro i d e nd
    cases i with
    | zero=>simp at e;exact absurd e.symm nd
    | succ i =>
      obtain⟨v,f1,f',p,s,r,k⟩:=ih (by simpa using e) nd
      exact⟨v,f1,f',p,by simpa using s,r,.und k⟩
  | @cons v σ d0 env f g r hs ih =>
    intro i d e nd
    cases i with
    | zero =>
      obtain rfl:d0=d:=by simpa using e
      exact⟨v,f,g,.refl _,rfl,r,.und hs⟩
    | succ i =>
      obtain⟨v',f1,f',p,s,r',k⟩:=ih (by simpa using e) nd
      refine⟨v',f1,f++f',?_,by simpa using s,r',.cons r k⟩
      exact(List.Perm.append_left f p).trans (by
        rw[← List.append_assoc,← List.append_assoc]
        exact List.Perm.append_right f' List.perm_append_comm)
theorem set_same{i:Nat}{v:V}(s:σ[i]?=some (some v)): σ.set i (some v)=σ:=by
  apply List.ext_getElem?
  intro j
  rw[List.getElem?_set]
  split
  · rename_i ej;subst ej
    have:i<σ.length:=(List.getElem?_eq_some_iff.mp s).1
    rw[if_pos this,s]
  · rfl
theorem grab_rep {vs:List V} {as:List Arg} {ga:List Addr} (h:RepA K W H σ fp vs as ga):∀ {env:List D} {fs:List Addr} {ds:List D} {is:List (Option Nat)} {env':List D},RepS K W H σ env fs→grab as env=.ok (ds,is,env') →
    ∃ fd fs',RepL K W H vs ds fd∧RepS K W H σ env' fs'∧(ga++fs).Perm (fd++fs')∧Link σ vs is:=by
  induction h with
  | nil=>intro env fs ds is env' hs e;cases e;exact⟨[],fs,.nil,hs,.refl _,.done⟩
  | @val v d f vs as g r _ ih =>
    intro env fs ds is env' hs e
    obtain⟨⟨ds1,is1,env1⟩,e1,e⟩:=Res.bind_eq e
    cases e
    obtain⟨fd,fs',l,k,p,lk⟩:=ih hs e1
    refine⟨f++fd,fs',.cons r l,k,?_,.none lk⟩
    rw[List.append_assoc,List.append_assoc]
    exact List.Perm.append_left f p
  | @nam v i vs as g s _ ih =>
    intro env fs ds is env' hs e
    unfold grab at e
    split at e
    · cases e
    · rename_i d nd ed
      split at e
      · rename_i pd
        obtain⟨⟨ds1,is1,env1⟩,e1,e⟩:=Res.bind_eq e
        cases e
        obtain⟨fd,fs',l,k,p,lk⟩:=ih hs e1
        obtain⟨v',f1,f',p',s',r,_⟩:=hs.take ed nd
        rw[s] at s'
        cases s'
        obtain rfl:=r.pure pd
        exact⟨fd,fs',RepL.cons (f:=[]) r l,k,p,.none lk⟩
      · obtain⟨⟨ds1,is1,env1⟩,e1,e⟩:=Res.bind_eq e
        cases e
        obtain⟨v',f1,f',p',s',r,k'⟩:=hs.take ed nd
        rw[s] at s'
        cases s'
        obtain⟨fd,fs',l,k,p,lk⟩:=ih k' e1
        refine⟨f1++fd,fs',.cons r l,k,?_,.some s lk⟩
        refine(List.Perm.append_left g p').trans ?_
        rw[List.append_assoc]
        refine List.Perm.trans ?_ (List.Perm.append_left f1 p)
        rw[← List.append_assoc,← List.append_assoc]
        exact List.Perm.append_right f' List.perm_append_comm
    · cases e
  | @bor v d f vs as g r _ _ ih =>
    intro env fs ds is env' hs e
    obtain⟨pd,e⟩:=Res.when_eq e
    obtain⟨⟨ds1,is1,env1⟩,e1,e⟩:=Res.bind_eq e
    cases e
    obtain⟨fd,fs',l,k,p,lk⟩:=ih hs e1
    obtain rfl:=r.pure pd
    exact⟨fd,fs',RepL.cons (f:=[]) r l,k,p,.none lk⟩
theorem give_rep {vs:List V} {is:List (Option Nat)} (lk:Link σ vs is):∀ {ds:List D} {fd:List Addr} {env:List D} {fs:List Addr},RepL K W H vs ds fd→RepS K W H σ env fs→∃ fs' rest,RepS K W H σ (giveBack is ds env) fs'∧(fs'++rest).Perm (fd++fs):=by
  induction lk with
  | done =>
    intro ds fd env fs l h
    exact⟨fs,fd,by unfold giveBack;exact h,List.perm_append_comm⟩
  | none _ ih =>
    intro ds fd env fs l h
    cases l with
    | @cons v d f vs ds g r l =>
      obtain⟨fs',rest,k,p⟩:=ih l h
      refine⟨fs',f++rest,k,?_⟩
      rw[List.append_assoc]
      refine List.Perm.trans ?_ (List.Perm.append_left f p)
      rw[← List.append_assoc,← List.append_assoc]
      exact List.Perm.append_right rest List.perm_append_comm
  | @some v vs i is s _ ih =>
    intro ds fd env fs l h
    cases l with
    | @cons _ d f _ ds g r l =>
      have hi:i<env.length:=by
        rw[← h.length]
        exact(List.getElem?_eq_some_iff.mp s).1
      obtain⟨A,f0,B,rfl,k0⟩:=h.put hi
      have k1:=k0 r
      rw[set_same s] at k1
      obtain⟨fs',rest,k,p⟩:=ih l k1
      refine⟨fs',f0++rest,k,?_⟩
      have e1:(fs'++(f0++rest)).Perm (f0++(fs'++rest)):=by
        rw[← List.append_assoc,← List.append_assoc]
        exact List.Perm.append_right rest List.perm_append_comm
      refine e1.trans ((List.Perm.append_left f0 p).trans ?_)
      rw[List.perm_iff_count]
      intro a
      simp only[List.count_append]
      omega
end
theorem Link.app{σ:L2.St}{vs ws:List V}{is:List (Option Nat)}(lk:Link σ vs is): Link σ (vs++ws) is:=by
  induction lk with
  | done=>exact .done
  | none _ ih=>exact .none ih
  | some s _ ih=>exact .some s ih
def spM(K:PySem.W.Frag)(CT:Nat→Addr)(n:Nat)(f:CallM): Sp:=fun vs H Q _=>∃ W ds hs fd fh r ds' hs',ds.length=n∧RepL K W H vs ds fd∧RepH K CT W H W.ι hs fh∧(fd++fh).Nodup∧Own W H (fd++fh)∧Fix W H∧f ds hs=.ok (r,ds',hs') ∧
  ∀ v W' H' fd' fh' fr,RepL K W' H' vs ds' fd'→RepH K CT W' H' W'.ι hs' fh'→RepD K W' H' v r fr→((fd'++fh')++fr).Nodup→Own W' H' ((fd'++fh')++fr)→Fix W' H'→Ext W H W' H' (fd++fh)→(∀ a∈(fd'++fh')++fr,a∈fd++fh∨H a=none)→Q v H'
theorem spM_len{K:PySem.W.Frag}{CT:Nat→Addr}{n:Nat}{f:CallM}{vs:List V}{H:Hp}{Q:VK}{E:XK}(h:spM K CT n f vs H Q E): vs.length=n:=by
  obtain⟨W,ds,hs,fd,fh,r,ds',hs',e,l,_⟩:=h
  rw[l.length,e]
def mCall(f:CallM)(dd:List D)(a:M (List Arg)): M D:=fun m=>(a m).bind fun r=>(grab r.1 r.2.env).bind fun q=>(f (q.1++dd) r.2.hs).bind fun o=>.ok (o.1,⟨giveBack q.2.1 o.2.1 q.2.2,o.2.2⟩)
def Consts(K:PySem.W.Frag)(vs:List V)(ds:List D): Prop:=∀ W H,RepL K W H vs ds []
section
variable {X:Cx} {CT:Nat→Addr} {wx:XK}
theorem sp_core {σ:L2.St} {f:CallM} {dd:List D} {dvs:List V} {n:Nat} {W W1:Wd} {H H1:Hp} {fp fp1 fa:List Addr} {vs:List V} {as:List Arg} {m1 m':Mem} {d:D} (hd:Consts X.K dvs dd) (hn:∀ ds hs o,f ds hs=.ok o→ds.length=n)
    (p:PostA X.K CT W H σ fp vs as m1 W1 H1 fp1 fa) (e:((grab as m1.env).bind fun q=>(f (q.1++dd) m1.hs).bind fun o=>Res.ok (o.1,(⟨giveBack q.2.1 o.2.1 q.2.2,o.2.2⟩:Mem)))=.ok (d,m')) :
    ∃ L fd fh ds' hs',L.length=n∧RepL X.K W1 H1 (vs++dvs) L fd∧RepH X.K CT W1 H1 W1.ι m1.hs fh∧(fd++fh).Nodup∧Own W1 H1 (fd++fh)∧Fix W1 H1∧f L m1.hs=.ok (d,ds',hs') ∧
      ∀ W2 H2 fd2 fh2 fr,RepL X.K W2 H2 (vs++dvs) ds' fd2→RepH X.K CT W2 H2 W2.ι hs' fh2→((fd2++fh2)++fr).Nodup→Own W2 H2 ((fd2++fh2)++fr)→Fix W2 H2→Ext W1 H1 W2 H2 (fd++fh)→(∀ a∈(fd2++fh2)++fr,a∈fd++fh∨H1 a=none) →
        ∃ fp',Rel X.K CT W2 H2 σ m' fp'∧(fp'++fr).Nodup∧Own W2 H2 fr∧Ext W H W2 H2 fp∧∀ a∈fp'++fr,a∈fp∨H a=none:=by
  obtain⟨⟨ds,is,env1⟩,e1,e⟩:=Res.bind_eq e
  obtain⟨⟨r,ds',hs'⟩,e2,e⟩:=Res.bind_eq e
  cases e
  obtain⟨fs,fh,rfl,h1,h2⟩:=p.rel.s
  obtain⟨fd,fs',l,k,pm,lk⟩:=grab_rep p.rep h1 e1
  have nd0:=p.nd
  have hc:∀ a,(fs++fh++fa).count a=(fd++fs'++fh).count a:=fun a=>by
    have:=pm.count_eq a
    simp only[List.count_append] at this ⊢
    omega
  have pm2:(fs++fh++fa).Perm (fd++fs'++fh):=List.perm_iff_count.mpr hc
  have ndA:(fd++fs'++fh).Nodup:=pm2.nodup_iff.mp nd0
  have ownA:Own W1 H1 (fd++fs'++fh):=fun a z=>by
    rcases List.mem_append.mp (pm2.mem_iff.mpr z) with z | z
    · exact p.rel.own a z
    · exact p.own a z
  have ndB:(fd++fh).Nodup:=by
    simp only[List.nodup_append] at ndA ⊢
    exact⟨ndA.1.1,ndA.2.1,fun a z b y=>ndA.2.2 a (List.mem_append_left _ z) b y⟩
  have ownB:Own W1 H1 (fd++fh):=fun a z=>ownA a (by simp only[List.mem_append] at z ⊢;exact z.elim (fun z=>.inl (.inl z)) .inr)
  have far:∀ a∈fs',a ∉ fd++fh:=fun a z y=>by
    simp only[List.nodup_append] at ndA
    rcases List.mem_append.mp y with y | y
    · exact ndA.1.2.2 a y a z rfl
    · exact ndA.2.2 a (List.mem_append_right _ z) a y rfl
  have offB:Off W1 (fd++fh):=fun a z=>(ownB a z).1
  refine⟨ds++dd,fd,fh,ds',hs',hn _ _ _ e2,?_,h2,ndB,ownB,p.rel.fix,e2,fun W2 H2 fd2 fh2 fr l2 k2 nd2 own2 fix2 x2 sub2=>?_⟩
  · have:=l.app (hd W1 H1)
    rw[List.append_nil] at this
    exact this
  have ks:=k.ext x2 offB far
  have lkk:Link σ (vs++dvs) is:=lk.app
  obtain⟨fs3,rest,k3,pm3⟩:=give_rep lkk l2 ks
  have far2:∀ a∈fs',a ∉ (fd2++fh2)++fr:=fun a z y=>by
    rcases sub2 a y with y | y
    · exact far a z y
    · exact(ownA a (by simp[z])).2 y
  have ownfs:Own W2 H2 fs':=Own.ext (fun a z=>ownA a (by simp[z])) x2 far
  have ndT:((fd2++fs')++fh2++fr).Nodup:=by
    have c:((fd2++fs')++fh2++fr).Perm (fs'++((fd2++fh2)++fr)):=by
      rw[List.perm_iff_count]
      intro a
      simp only[List.count_append]
      omega
    rw[c.nodup_iff,List.nodup_append]
    refine⟨?_,nd2,fun a z b y e=>?_⟩
    · simp only[List.nodup_append] at ndA
      exact ndA.1.2.1
    · subst e
      exact far2 a z y
  have pmT:((fs3++fh2++fr)++rest).Perm ((fd2++fs')++fh2++fr):=by
    rw[List.perm_iff_count]
    intro a
    have:=pm3.count_eq a
    simp only[List.count_append] at this ⊢
    omega
  have ndF:(fs3++fh2++fr).Nodup:=by
    have:=pmT.nodup_iff.mpr ndT
    rw[List.nodup_append] at this
    exact this.1
  have memF:∀ a∈fs3++fh2++fr,a∈fs'∨a∈(fd2++fh2)++fr:=fun a z=>by
    have:=pmT.mem_iff.mp (List.mem_append_left rest z)
    simp only[List.mem_append] at this ⊢
    rcases this with ((h | h) | h) | h
    · exact .inr (.inl (.inl h))
    · exact .inl h
    · exact .inr (.inl (.inr h))
    · exact .inr (.inr h)
  have ownF:Own W2 H2 (fs3++fh2++fr):=fun a z=>by
    rcases memF a z with h | h
    · exact ownfs a h
    · exact own2 a h
  have mem0:∀ a,a∈fd++fs'++fh→a∈fp∨H a=none:=fun a z=>p.sub a (pm2.mem_iff.mpr z)
  rw[List.nodup_append] at ndF
  refine⟨fs3++fh2,⟨⟨fs3,fh2,rfl,k3,k2⟩,ndF.1,(Own.app.mp ownF).1,fix2⟩,by rw[List.nodup_append];exact ndF,(Own.app.mp ownF).2,p.ext.trans x2 (fun a z=>mem0 a (by simp only[List.mem_append] at z ⊢;exact z.elim (fun z=>.inl (.inl z)) .inr)),fun a z=>?_⟩
  rcases memF a z with h | h
  · exact mem0 a (by simp[h])
  · rcases sub2 a h with h | h
    · exact mem0 a (by simp only[List.mem_append] at h ⊢;exact h.elim (fun z=>.inl (.inl z)) .inr)
    · exact .inr (p.ext.there a h)
theorem sp_call{σ:L2.St}{f:CallM}{dd:List D}{dvs:List V}{n:Nat}{W W1:Wd}{H H1:Hp}{fp fp1 fa:List Addr}{vs:List V}{as:List Arg}{m1 m':Mem}{d:D}{Q:VK}(hd:Consts X.K dvs dd)(hn:∀ ds hs o,f ds hs=.ok o→ds.length=n)
    (p:PostA X.K CT W H σ fp vs as m1 W1 H1 fp1 fa) (e:((grab as m1.env).bind fun q=>(f (q.1++dd) m1.hs).bind fun o=>Res.ok (o.1,(⟨giveBack q.2.1 o.2.1 q.2.2,o.2.2⟩:Mem)))=.ok (d,m'))
    (q:∀ v W' H' fp' fd,Post X.K CT W H σ fp v d m' W' H' fp' fd→Q v H'):spM X.K CT n f (vs++dvs) H1 Q wx:=by
  obtain⟨L,fd,fh,ds',hs',h1,h2,h3,h4,h5,h6,h7,back⟩:=sp_core hd hn p e
  refine⟨W1,L,m1.hs,fd,fh,d,ds',hs',h1,h2,h3,h4,h5,h6,h7,fun v W2 H2 fd2 fh2 fr l2 k2 rr nd2 own2 fix2 x2 sub2=>?_⟩
  obtain⟨fp',r1,r2,r3,r4,r5⟩:=back W2 H2 fd2 fh2 fr l2 k2 nd2 own2 fix2 x2 sub2
  exact q v W2 H2 fp' fr ⟨r1,rr,r2,r3,r4,r5⟩
variable {CX:CXT} {k n:Nat} {f:Addr} {fd:FuncData} {ps:List Str} {dvs:List V} {ds:List Value} {dd:List D} {x:Str} {p pos:Pos} {e:Expr} {es:List Expr} {ml:M (List Arg)} {g:CallM}
theorem me_call(F:FnOk X.prog X.w X.K X.mg X.base CX k f fd ps (spM X.K CT n g))(hn:∀ ds hs o,g ds hs=.ok o→ds.length=n)(hr:Room k X.A)(hg:Gl X x)(hm:X.mg x=some (.ref f))(hk:PySem.W.keepIn X.K (.ref f)=true)(hb:Binds X.K fd ps ds)(hd:Vals dvs ds)(hdd:Consts X.K dvs dd)(hx:Passes CX X wx)
    (ha:MA X CT (e::es) ml) (hdb:(x==("__debug__":Str))=false:=by decide) (he:starEach (e::es) X.env=(false,eval e X.env)::starEach es X.env:=by rfl) (hpl:(backTo pos (starEach es X.env)).any (·.1)=false:=by rfl) :
    ME X CT (.Call (.Name x p) (e::es) [] pos) (mCall g dd ml):=pe_weak (pe_call F hr hg hm hk hb hd hx ha hdb he hpl) fun σ H Q ⟨W,m,fp,d,m',rel,e,q⟩=>by
  obtain⟨⟨as,m1⟩,e1,e⟩:=Res.bind_eq e
  exact⟨W,m,fp,as,m1,rel,e1,fun vs W1 H1 fp1 fa pa=>sp_call hdd hn pa e q⟩
end
end E
namespace E
open PySem L2
inductive Fl where
  | nx | bk | ct
  | rt (d:D)
abbrev MS:= Mem→Res (Fl×Mem)
def xD(c:Nat)(l:Int): D:=.tup [.loc c,.int l,.und]
def D.xc: D→Option (Nat×Int)
  | .tup [.loc c,.int l,.und]=>some (c,l)
  | _=>none
theorem D.xc_eq{d:D}{x:Nat×Int}(h:d.xc=some x): d=xD x.1 x.2:=by
  unfold D.xc at h
  split at h
  · cases h;rfl
  · cases h
def XR(CT:Nat→Addr)(H:Hp)(cls:Value)(dd:Option Addr)(c:Nat)(l:Int): Prop:=cls=.ref (CT c)∧((l=-1∧dd=none)∨∃ a,dd=some a∧H a=some (.xd [(("line":Str),.int l)]))
theorem xc_rep {K:PySem.W.Frag} {W:Wd} {H:Hp} {v:V} {d:D} {g:List Addr} (r:RepD K W H v d g):d.xc=none:=by
  cases e:d.xc with
  | none=>rfl
  | some x =>
    obtain rfl:=D.xc_eq e
    cases r with
    | tup _ l =>
      cases l with
      | cons _ l =>
        cases l with
        | cons _ l =>
          cases l with
          | cons r _=>exact r.nund.elim
section
variable (K:PySem.W.Frag) (CT:Nat→Addr)
structure PostS (pin:List Nat) (W:Wd) (H:Hp) (σ:L2.St) (fp:List Addr) (m':Mem) (σ':L2.St) (W':Wd) (H':Hp) (fp':List Addr):Prop where
  rel:Rel K CT W' H' σ' m' fp'
  ext:Ext W H W' H' fp
  sub:∀ a∈fp',a∈fp∨H a=none
  pin:∀ i∈pin,σ'[i]?=σ[i]?
  len:σ'.length=σ.length
structure PostR (pin:List Nat) (W:Wd) (H:Hp) (σ:L2.St) (fp:List Addr) (v:V) (d:D) (m':Mem) (σ':L2.St) (W':Wd) (H':Hp) (fp' fd:List Addr):Prop where
  rel:Rel K CT W' H' σ' m' fp'
  rep:RepD K W' H' v d fd
  nd:(fp'++fd).Nodup
  own:Own W' H' fd
  ext:Ext W H W' H' fp
  sub:∀ a∈fp'++fd,a∈fp∨H a=none
  pin:∀ i∈pin,σ'[i]?=σ[i]?
def Then(Wx:WX)(pin:List Nat)(W:Wd)(H:Hp)(σ:L2.St)(fp:List Addr)(m':Mem)(D:Ends): Fl→Prop
  | .nx=>∀ σ' W' H' fp',PostS K CT pin W H σ fp m' σ' W' H' fp'→D.nx σ' H'
  | .bk=>∀ σ' W' H' fp',PostS K CT pin W H σ fp m' σ' W' H' fp'→D.bk σ' H'
  | .ct=>∀ σ' W' H' fp',PostS K CT pin W H σ fp m' σ' W' H' fp'→D.ct σ' H'
  | .rt d=>(∀ v σ' W' H' fp' fd,PostR K CT pin W H σ fp v d m' σ' W' H' fp' fd→D.rt v H') ∧
      ∀ x,d.xc=some x→∀ cls dd σ' W' H' fp',PostS K CT pin W H σ fp m' σ' W' H' fp'→XR CT H' cls dd x.1 x.2→Wx cls dd σ' H'
def tS(Wx:WX)(pin:List Nat)(s:MS): TS:=fun D σ H=>∃ W m fp fl m',Rel K CT W H σ m fp∧s m=.ok (fl,m')∧Then K CT Wx pin W H σ fp m' D fl
def tG(pin:List Nat)(b:D→Mem→Res Mem): TG:=fun v σ H Q=>∃ W m fp d fd m',Rel K CT W H σ m fp∧RepD K W H v d fd∧(fp++fd).Nodup∧Own W H fd∧b d m=.ok m' ∧
  ∀ σ' W' H' fp',PostS K CT pin W H σ (fp++fd) m' σ' W' H' fp'→Q σ' H'
def tGs(pin:List Nat)(b:List D→Mem→Res Mem): TGs:=fun vs σ H Q=>∃ W m fp ds fd m',Rel K CT W H σ m fp∧RepL K W H vs ds fd∧(fp++fd).Nodup∧Own W H fd∧b ds m=.ok m' ∧
  ∀ σ' W' H' fp',PostS K CT pin W H σ (fp++fd) m' σ' W' H' fp'→Q σ' H'
end
def MSt(X:Cx)(CT:Nat→Addr)(pin:List Nat)(st:Stmt)(s:MS): Prop:=∀ Wx:WX,Takes X Wx→PS X st (tS X.K CT Wx pin s)
def MSs(X:Cx)(CT:Nat→Addr)(pin:List Nat)(st:List Stmt)(s:MS): Prop:=∀ Wx:WX,Takes X Wx→PSs X st (tS X.K CT Wx pin s)
def MG(X:Cx)(CT:Nat→Addr)(pin:List Nat)(e:Expr)(b:D→Mem→Res Mem): Prop:=PG X e (tG X.K CT pin b)
def MGs(X:Cx)(CT:Nat→Addr)(pin:List Nat)(es:List Expr)(b:List D→Mem→Res Mem): Prop:=PGs X es (tGs X.K CT pin b)
section
variable {K:PySem.W.Frag} {CT:Nat→Addr} {pin:List Nat} {W W' W1 W2:Wd} {H H' H1 H2:Hp} {σ σ1 σ2:L2.St} {m m' m1 m2:Mem} {fp fp' fd fp1 fp2 fd1 fd2 g:List Addr} {v v1 v2:V} {d d1 d2:D}
theorem PostS.refl(r:Rel K CT W H σ m fp): PostS K CT pin W H σ fp m σ W H fp:=⟨r,Ext.refl _ _ _,fun a z=>.inl z,fun _ _=>rfl,rfl⟩
theorem PostS.trans(p:PostS K CT pin W H σ fp m1 σ1 W1 H1 fp1)(q:PostS K CT pin W1 H1 σ1 fp1 m2 σ2 W2 H2 fp2): PostS K CT pin W H σ fp m2 σ2 W2 H2 fp2 :=
  ⟨q.rel,p.ext.trans q.ext p.sub,subT p.sub q.sub p.ext.there,fun i h=>(q.pin i h).trans (p.pin i h),q.len.trans p.len⟩
theorem PostS.transR(p:PostS K CT pin W H σ fp m1 σ1 W1 H1 fp1)(q:PostR K CT pin W1 H1 σ1 fp1 v d m2 σ2 W2 H2 fp2 fd): PostR K CT pin W H σ fp v d m2 σ2 W2 H2 fp2 fd :=
  ⟨q.rel,q.rep,q.nd,q.own,p.ext.trans q.ext p.sub,subT p.sub q.sub p.ext.there,fun i h=>(q.pin i h).trans (p.pin i h)⟩
theorem PostT.s(p:PostT K CT W H σ fp m1 W1 H1 fp1): PostS K CT pin W H σ fp m1 σ W1 H1 fp1:=⟨p.rel,p.ext,p.sub,fun _ _=>rfl,rfl⟩
theorem Post.r(p:Post K CT W H σ fp v d m1 W1 H1 fp1 fd): PostR K CT pin W H σ fp v d m1 σ W1 H1 fp1 fd:=⟨p.rel,p.rep,p.nd,p.own,p.ext,p.sub,fun _ _=>rfl⟩
theorem PostS.r0(p:PostS K CT pin W H σ fp m1 σ1 W1 H1 fp1)(r:RepD K W1 H1 v d []): PostR K CT pin W H σ fp v d m1 σ1 W1 H1 fp1 [] :=
  ⟨p.rel,r,by rw[List.append_nil];exact p.rel.nd,Own.nil,p.ext,fun a z=>p.sub a (by simpa using z),p.pin⟩
theorem tS.from{Wx:WX}{s:MS}{D:Ends}{fl:Fl}(p:PostS K CT pin W H σ fp m1 σ1 W1 H1 fp1)(e:s m1=.ok (fl,m2))
    (k:Then K CT Wx pin W H σ fp m2 D fl):tS K CT Wx pin s D σ1 H1:=by
  refine⟨W1,m1,fp1,fl,m2,p.rel,e,?_⟩
  cases fl with
  | nx=>exact fun σ' W' H' fp' q=>k σ' W' H' fp' (p.trans q)
  | bk=>exact fun σ' W' H' fp' q=>k σ' W' H' fp' (p.trans q)
  | ct=>exact fun σ' W' H' fp' q=>k σ' W' H' fp' (p.trans q)
  | rt d=>exact⟨fun v σ' W' H' fp' fd q=>k.1 v σ' W' H' fp' fd (p.transR q),fun x e cls dd σ' W' H' fp' q r=>k.2 x e cls dd σ' W' H' fp' (p.trans q) r⟩
end
def sPass: MS:=fun m=>.ok (.nx,m)
def sBk: MS:=fun m=>.ok (.bk,m)
def sCt: MS:=fun m=>.ok (.ct,m)
def sNever: MS:=fun _=>.fail
def sSeq(a b:MS): MS:=fun m=>(a m).bind fun r=>match r.1 with
  | .nx=>b r.2
  | .bk=>.ok (.bk,r.2)
  | .ct=>.ok (.ct,r.2)
  | .rt d=>.ok (.rt d,r.2)
def sEx(e:M D): MS:=fun m=>(e m).bind fun r=>.ok (.nx,r.2)
def sRt(e:M D): MS:=fun m=>(e m).bind fun r=>.ok (.rt r.1,r.2)
def sRtN: MS:=fun m=>.ok (.rt .non,m)
def sIf(t:M Bool)(a b:MS): MS:=fun m=>(t m).bind fun r=>if r.1=true then a r.2 else b r.2
def sAsg(e:M D)(b:D→Mem→Res Mem): MS:=fun m=>(e m).bind fun r=>(b r.1 r.2).bind fun m'=>.ok (.nx,m')
def bName(i:Nat): D→Mem→Res Mem:=fun d m=>Res.when (decide (i<m.env.length)) (.ok { m with env:=m.env.set i d })
def bNil: List D→Mem→Res Mem
  | [],m=>.ok m
  | _::_,_=>.fail
def bCons(b:D→Mem→Res Mem)(bs:List D→Mem→Res Mem): List D→Mem→Res Mem
  | d::ds,m=>(b d m).bind (bs ds)
  | [],_=>.fail
def bTup(n:Nat)(bs:List D→Mem→Res Mem): D→Mem→Res Mem
  | .tup ds,m=>Res.when (decide (ds.length=n)) (bs ds m)
  | _,_=>.fail
def bLst(n:Nat)(bs:List D→Mem→Res Mem): D→Mem→Res Mem
  | .lst _ ds,m=>Res.when (decide (ds.length=n)&&pureL ds) (bs ds m)
  | _,_=>.fail
def whileM (t:M Bool) (b:MS):Nat→MS
  | 0=>fun _=>.fail
  | n + 1=>fun m=>(t m).bind fun r=>if r.1=true then (b r.2).bind fun o=>match o.1 with
      | .nx=>whileM t b n o.2
      | .ct=>whileM t b n o.2
      | .bk=>.ok (.nx,o.2)
      | .rt d=>.ok (.rt d,o.2)
    else .ok (.nx,r.2)
section
variable {X:Cx} {CT:Nat→Addr} {pin:List Nat} {e a b c:Expr} {st:Stmt} {rest body:List Stmt} {pos:Pos} {me:M D} {tt:M Bool} {s1 s2:MS} {i:Nat} {bb:D→Mem→Res Mem} {bs:List D→Mem→Res Mem}
theorem mst_ct: MSt X CT pin (.Continue pos) sCt:=fun Wx tk=>ps_weak ps_continue fun D σ H ⟨W,m,fp,fl,m',rel,e,k⟩=>by
  cases e
  exact k σ W H fp (.refl rel)
theorem mss_nil: MSs X CT pin [] sPass:=fun Wx tk=>pss_weak pss_nil fun D σ H ⟨W,m,fp,fl,m',rel,e,k⟩=>by
  cases e
  exact k σ W H fp (.refl rel)
theorem mss_one(h:MSt X CT pin st s1): MSs X CT pin [st] s1:=fun Wx tk=>pss_one (h Wx tk)
theorem mss_cons(h1:MSt X CT pin st s1)(h2:MSs X CT pin rest s2): MSs X CT pin (st::rest) (sSeq s1 s2):=fun Wx tk=>pss_weak (pss_cons (h1 Wx tk) (h2 Wx tk)) fun D σ H ⟨W,m,fp,fl,m',rel,e,k⟩=>by
  obtain⟨⟨f1,m1⟩,e1,e⟩:=Res.bind_eq e
  refine⟨W,m,fp,f1,m1,rel,e1,?_⟩
  cases f1 with
  | nx=>exact fun σ1 W1 H1 fp1 p=>tS.from p e k
  | bk=>cases e;exact k
  | ct=>cases e;exact k
  | rt d=>cases e;exact k
theorem mst_ex(h:ME X CT e me)(hs:swapsWith e none pos.line X.env=pure false:=by rfl): MSt X CT pin (.Expr e pos) (sEx me):=fun Wx tk=>ps_weak (ps_expr h hs) fun D σ H ⟨W,m,fp,fl,m',rel,e,k⟩=>by
  obtain⟨⟨d,m1⟩,e1,e⟩:=Res.bind_eq e
  cases e
  exact⟨W,m,fp,d,_,rel,e1,fun v W' H' fp' fd p=>k σ W' H' fp' p.t.s⟩
theorem mst_rt(h:ME X CT e me): MSt X CT pin (.Return (some e) pos) (sRt me):=fun Wx tk=>ps_weak (ps_ret h) fun D σ H ⟨W,m,fp,fl,m',rel,e,k⟩=>by
  obtain⟨⟨d,m1⟩,e1,e⟩:=Res.bind_eq e
  cases e
  exact⟨W,m,fp,d,_,rel,e1,fun v W' H' fp' fd p=>k.1 v σ W' H' fp' fd p.r⟩
theorem mst_if(hc:MT X CT c tt)(h1:MSs X CT pin body s1)(h2:MSs X CT pin rest s2): MSt X CT pin (.If c body rest pos) (sIf tt s1 s2):=fun Wx tk=>ps_weak (ps_if hc (h1 Wx tk) (h2 Wx tk)) fun D σ H ⟨W,m,fp,fl,m',rel,e,k⟩=>by
  obtain⟨⟨c1,m1⟩,e1,e⟩:=Res.bind_eq e
  refine⟨W,m,fp,c1,m1,rel,e1,fun W1 H1 fp1 p=>?_⟩
  cases c1 with
  | true=>exact iteT (tS.from (p.s (σ:=σ)) e k)
  | false=>exact iteF (tS.from (p.s (σ:=σ)) e k)
theorem bName_rep{K:PySem.W.Frag}{W:Wd}{H:Hp}{σ:L2.St}{fp fd:List Addr}{m m':Mem}{v:V}{d:D}{Q:L2.St→Hp→Prop}(hp:i ∉ pin)(rel:Rel K CT W H σ m fp)(rp:RepD K W H v d fd)(nd:(fp++fd).Nodup)(own:Own W H fd)(e:bName i d m=.ok m')
    (k:∀ σ' W' H' fp',PostS K CT pin W H σ (fp++fd) m' σ' W' H' fp'→Q σ' H'):Q (σ.set i (some v)) H:=by
  obtain⟨hl,e⟩:=Res.when_eq e
  cases e
  obtain⟨f,g,rfl,h1,h2⟩:=rel.s
  obtain⟨A,f0,B,rfl,k0⟩:=h1.put (of_decide_eq_true hl)
  have pm:((A++fd++B)++g++f0).Perm (A++f0++B++g++fd):=by
    rw[List.perm_iff_count];intro a;simp only[List.count_append];omega
  have nd2:=pm.nodup_iff.mpr nd
  have mem:∀ a∈(A++fd++B)++g,a∈A++f0++B++g++fd:=fun a z=>pm.mem_iff.mp (List.mem_append_left _ z)
  refine k _ W H ((A++fd++B)++g) ⟨⟨⟨_,g,rfl,k0 rp,h2⟩,?_,fun a z=>?_,rel.fix⟩,Ext.refl _ _ _,fun a z=>.inl (mem a z),fun j hj=>?_,?_⟩
  · rw[List.nodup_append] at nd2
    exact nd2.1
  · rcases List.mem_append.mp (mem a z) with z | z
    · exact rel.own a z
    · exact own a z
  · rw[List.getElem?_set_ne (fun z=>hp (by rw[z];exact hj))]
  · rw[List.length_set]
theorem mg_name{x:Str}(hN:X.N.Nodup)(hi:X.N[i]?=some x)(hx:Loc X.env.scope x)(hp:i ∉ pin)(hf:X.fn x=true∨X.env.scope.names.lookup x=some .local:=by first | exact .inl rfl | exact .inr rfl | assumption): MG X CT pin (.Name x pos) (bName i):=by
  refine⟨fun pins s σ H v u Q I r h=>(pg_name (pos:=pos) hN hi hx hf).run pins s σ H v u Q I r ?_⟩
  obtain⟨W,m,fp,d,fd,m',rel,rp,nd,own,e,k⟩:=h
  exact bName_rep hp rel rp nd own e k
theorem mgs_nil: MGs X CT pin [] bNil:=by
  refine⟨fun pins s σ H vs us Q I r h=>pgs_nil.run pins s σ H vs us Q I r ?_⟩
  obtain⟨W,m,fp,ds,fd,m',rel,rp,nd,own,e,k⟩:=h
  cases rp with
  | nil =>
    cases e
    refine⟨rfl,?_⟩
    rw[List.append_nil] at k
    exact k σ W H fp (.refl rel)
  | cons _ _=>cases e
theorem mgs_cons {es:List Expr} (h1:MG X CT pin e bb) (h2:MGs X CT pin es bs) (hs:(assignEach (e::es) X.env).map (·.2)=assign e X.env::(assignEach es X.env).map (·.2):=by rfl):MGs X CT pin (e::es) (bCons bb bs):=by
  refine⟨fun pins s σ H vs us Q I r h=>(pgs_cons h1 h2 hs).run pins s σ H vs us Q I r ?_⟩
  obtain⟨W,m,fp,ds,fd,m',rel,rp,nd,own,e,k⟩:=h
  cases rp with
  | nil=>cases e
  | @cons v d f vs ds g rd rl =>
    obtain⟨m1,e1,e⟩:=Res.bind_eq e
    have nd':=nd
    rw[← List.append_assoc,List.nodup_append] at nd'
    obtain⟨own1,own2⟩:=Own.app.mp own
    refine⟨v,vs,rfl,W,m,fp,d,f,m1,rel,rd,nd'.1,own1,e1,fun σ1 W1 H1 fp1 p=>?_⟩
    have far:∀ a∈g,a ∉ fp++f:=fun a z y=>nd'.2.2 a y a z rfl
    have offA:Off W (fp++f):=fun a z=>by
      rcases List.mem_append.mp z with z | z
      · exact(rel.own a z).1
      · exact(own1 a z).1
    refine⟨W1,m1,fp1,ds,g,m',p.rel,rl.ext p.ext offA far,?_,own2.ext p.ext far,e,fun σ2 W2 H2 fp2 q=>k σ2 W2 H2 fp2 ?_⟩
    · rw[List.nodup_append]
      refine⟨p.rel.nd,nd'.2.1,fun a z b y e=>?_⟩
      subst e
      rcases p.sub a z with z | z
      · exact far a y z
      · exact(own2 a y).2 z
    · have s1:∀ a∈fp1++g,a∈fp++(f++g)∨H a=none:=fun a z=>by
        rcases List.mem_append.mp z with z | z
        · rcases p.sub a z with z | z
          · exact .inl (by rw[← List.append_assoc];exact List.mem_append_left _ z)
          · exact .inr z
        · exact .inl (by simp[z])
      exact⟨q.rel,Ext.trans (p.ext.sub fun a z=>by rw[← List.append_assoc];exact List.mem_append_left _ z) q.ext s1,subT s1 q.sub p.ext.there,fun i h=>(q.pin i h).trans (p.pin i h),q.len.trans p.len⟩
theorem mg_tup{es:List Expr}{k n:Nat}(hc:X.calm=true)(h:MGs X CT pin es bs)(hn:(assignEach es X.env).length=n:=by rfl)(hst:(assignEach es X.env).findIdx? (·.1)=none:=by rfl): MG X CT pin (.Tuple es k pos) (bTup n bs):=by
  refine⟨fun pins s σ H v u Q I r h0=>(pg_tup hc h hn hst).run pins s σ H v u Q I r ?_⟩
  obtain⟨W,m,fp,d,fd,m',rel,rp,nd,own,e,k⟩:=h0
  unfold bTup at e
  split at e
  · obtain⟨hl,e⟩:=Res.when_eq e
    obtain⟨a,vs,rfl,sq,_,l⟩:=rp.tupl
    exact⟨a,vs,rfl,sq,by rw[l.length];exact of_decide_eq_true hl,W,m,fp,_,fd,m',rel,l,nd,own,e,k⟩
  · cases e
theorem mg_lst {es:List Expr} {k n:Nat} (hc:X.calm=true) (h:MGs X CT pin es bs) (hn:(assignEach es X.env).length=n:=by rfl) (hst:(assignEach es X.env).findIdx? (·.1)=none:=by rfl):MG X CT pin (.Tuple es k pos) (bLst n bs):=by
  refine⟨fun pins s σ H v u Q I r h0=>(pg_unl hc h hn hst).run pins s σ H v u Q I r ?_⟩
  obtain⟨W,m,fp,d,fd,m',rel,rp,nd,own,e,k⟩:=h0
  unfold bLst at e
  split at e
  · obtain⟨hl,e⟩:=Res.when_eq e
    rw[Bool.and_eq_true] at hl
    obtain⟨a,vs,g,rfl,sq,l,sb⟩:=rp.lst
    obtain rfl:=l.pure hl.2
    refine⟨a,vs,rfl,sq,by rw[l.length];exact of_decide_eq_true hl.1,W,m,fp,_,[],m',rel,l,by rw[List.append_nil];exact rel.nd,Own.nil,e,fun σ' W' H' fp' p=>k σ' W' H' fp' ⟨p.rel,p.ext.sub fun a z=>?_,fun a z=>?_,p.pin,p.len⟩⟩
    · rw[List.append_nil] at z
      exact List.mem_append_left _ z
    · rcases p.sub a z with z | z
      · rw[List.append_nil] at z
        exact .inl (List.mem_append_left _ z)
      · exact .inr z
  · cases e
theorem mst_asg{tg:Expr}(he:ME X CT e me)(hg:MG X CT pin tg bb)(hs:swapsWithSole [tg] e pos.line X.env=pure false:=by rfl)(hw:swappedStores [tg] e X.env=pure none:=by rfl)
    (h1:(assignEach [tg] X.env).map (·.2)=[assign tg X.env]:=by rfl):MSt X CT pin (.Assign [tg] e pos) (sAsg me bb):=fun Wx tk=>ps_weak (ps_asg he hg hs hw h1) fun D σ H ⟨W,m,fp,fl,m',rel,e,k⟩=>by
  obtain⟨⟨d,m1⟩,e1,e⟩:=Res.bind_eq e
  obtain⟨m2,e2,e⟩:=Res.bind_eq e
  cases e
  refine⟨W,m,fp,d,m1,rel,e1,fun v W1 H1 fp1 fd p=>⟨W1,m1,fp1,d,fd,_,p.rel,p.rep,p.nd,p.own,e2,fun σ' W' H' fp' q=>k σ' W' H' fp' ⟨q.rel,p.ext.trans q.ext p.sub,subT p.sub q.sub p.ext.there,q.pin,q.len⟩⟩⟩
theorem mst_while(n:Nat)(hp:PassesOwn (model X.prog X.w) X.A X.env X.xe)(hc:MT X CT c tt)(hb:MSs X CT pin body s1): MSt X CT pin (.While c body [] pos) (whileM tt s1 n):=fun Wx tk=>ps_weak (ps_while hp hc (hb Wx tk)) fun D σ H h=>by
  refine⟨fun k σ H=>tS X.K CT Wx pin (whileM tt s1 k) D σ H,⟨n,h⟩,fun k σ H ⟨W,m,fp,fl,m',rel,e,kk⟩=>?_⟩
  cases k with
  | zero=>cases e
  | succ k =>
    obtain⟨⟨c1,m1⟩,e1,e⟩:=Res.bind_eq e
    refine⟨W,m,fp,c1,m1,rel,e1,fun W1 H1 fp1 p=>?_⟩
    cases c1 with
    | false =>
      cases e
      exact iteF (kk σ W1 H1 fp1 p.s)
    | true =>
      refine iteT ⟨fun σ' H'=>tS X.K CT Wx pin (whileM tt s1 k) D σ' H',fun σ' H' h=>⟨k,Nat.lt_succ_self k,h⟩,?_⟩
      obtain⟨⟨f1,m2⟩,e2,e⟩:=Res.bind_eq e
      refine tS.from (p.s (σ:=σ)) e2 ?_
      cases f1 with
      | nx=>exact fun σ2 W2 H2 fp2 q=>tS.from q e kk
      | ct=>exact fun σ2 W2 H2 fp2 q=>tS.from q e kk
      | bk=>cases e;exact kk
      | rt d=>cases e;exact kk
end
end E
namespace E
open PySem L2
abbrev It:= List D×(Mem→Prop)
section
variable (K:PySem.W.Frag) (CT:Nat→Addr)
def Runs (pi:List Nat) (J:L2.It) (W:Wd) (H:Hp) (σ:L2.St) (fp:List Addr) (xs:List D) (ok:Mem→Prop):Prop :=
  ∀ m2 σ2 W2 H2 fp2,PostS K CT pi W H σ fp m2 σ2 W2 H2 fp2→ok m2→∀ i,
    (∀ d,xs[i]?=some d→J.go i H2∧∀ x H3,J.yld i H2 x H3→∃ W3,RepD K W3 H3 x d []∧Ext W2 H2 W3 H3 []∧W3.ι=W2.ι∧Fix W3 H3)∧(xs.length≤i→J.stop i H2)
def tI(pi:List Nat)(e:M It): TI:=fun σ H R=>∃ W m fp it m',Rel K CT W H σ m fp∧e m=.ok (it,m') ∧
  ∀ J W' H' fp',PostT K CT W H σ fp m' W' H' fp'→Runs K CT pi J W' H' σ fp' it.1 it.2→R J H'
end
def MI(X:Cx)(CT:Nat→Addr)(pi:List Nat)(tg e:Expr)(it:M It): Prop:=PI X tg e (tI X.K CT pi it)
theorem pi_weak{X:Cx}{tg e:Expr}{t t':TI}(h:PI X tg e t)(k:∀ σ H R,t' σ H R→t σ H R): PI X tg e t':=⟨fun pins s σ H R I q=>h.run pins s σ H R I (k σ H R q)⟩
theorem pi_or{X:Cx}{tg e:Expr}{t t':TI}(h:PI X tg e t)(h':PI X tg e t'): PI X tg e (fun σ H R=>t σ H R∨t' σ H R):=⟨fun pins s σ H R I q=>q.elim (h.run pins s σ H R I) (h'.run pins s σ H R I)⟩
@[simp] def itOf(ok:Mem→Prop): D→Res It
  | .lst _ xs=>Res.when (pureL xs) (.ok (xs,ok))
  | .tup xs=>Res.when (pureL xs) (.ok (xs,fun(_:Mem)=>True))
  | _=>.fail
def miV(e:M D): M It:=fun m=>(e m).bind fun r=>(itOf (fun(_:Mem)=>True) r.1).bind fun it=>.ok (it,r.2)
def miN(i:Nat): M It:=fun m=>(mqVar i m).bind fun d=>(itOf (fun m'=>m'.env[i]?=some d) d).bind fun it=>.ok (it,m)
def rangeD(lo:Int)(n:Nat): List D:=(List.range n).map fun(k:Nat)=>D.int (lo+(k:Int))
noncomputable def b62(i:Int): Bool:=cdec (-4611686018427387904≤i∧i<4611686018427387904)
noncomputable def miR1(a:M (List Arg)): M It:=fun m=>(a m).bind fun r=>(conts r.2.env r.1).bind fun ds=>match ds with
  | [.int j]=>Res.when (b62 j) (.ok ((rangeD 0 j.toNat,fun(_:Mem)=>True),r.2))
  | _=>.fail
noncomputable def miR2(a:M (List Arg)): M It:=fun m=>(a m).bind fun r=>(conts r.2.env r.1).bind fun ds=>match ds with
  | [.int i,.int j]=>Res.when (b62 i&&b62 j) (.ok ((rangeD i (j - i).toNat,fun(_:Mem)=>True),r.2))
  | _=>.fail
section
variable {K:PySem.W.Frag} {CT:Nat→Addr} {pi:List Nat} {W W2:Wd} {H H2:Hp} {σ σ2:L2.St} {m2:Mem} {fp fp2:List Addr}
theorem RepL.item{vs:List V}{ds:List D}(l:RepL K W H vs ds []){i:Nat}{d:D}(e:ds[i]?=some d): ∃ v,vs[i]?=some v∧RepD K W H v d []:=by
  obtain⟨v,f,h1,h2,h3⟩:=l.get e
  have:f=[]:=List.eq_nil_iff_forall_not_mem.mpr fun a z=>by cases h3 a z
  subst this
  exact⟨v,h1,h2⟩
theorem RepD.lstQ{v:V}{o:Bool}{ds:List D}{g:List Addr}(h:RepD K W H v (.lst o ds) g)(p:pureL ds=true): ∃ a vs,v=.ref a∧SqL K H a vs∧RepL K W H vs ds [] ∧
    ∀ {W' H' fq},Ext W H W' H' fq→Off W fq→(∀ b∈g,b ∉ fq)→SqL K H' a vs:=by
  cases h with
  | lstF h l=>exact⟨_,_,rfl,h.sq,l,fun x o _=>(h.ext x o).sq⟩
  | lstO h l =>
    obtain rfl:=l.pure p
    exact⟨_,_,rfl,.inl (.inl h),l,fun x o n=>.inl (.inl (x.keep _ _ h (n _ (List.mem_cons_self ..))))⟩
theorem runs_l{a:Addr}{xs:List D}{ok:Mem→Prop}(h:∀ m2 σ2 W2 H2 fp2,PostS K CT pi W H σ fp m2 σ2 W2 H2 fp2→ok m2→∃ vs,SqL K H2 a vs∧RepL K W2 H2 vs xs []): Runs K CT pi (Itl K a) W H σ fp xs ok:=by
  intro m2 σ2 W2 H2 fp2 p o i
  obtain⟨vs,s,l⟩:=h m2 σ2 W2 H2 fp2 p o
  refine⟨fun d e=>?_,fun hl=>⟨vs,s,by rw[l.length];exact hl⟩⟩
  obtain⟨v,h1,h2⟩:=l.item e
  refine⟨⟨vs,v,s,h1⟩,fun x H3 y=>?_⟩
  obtain⟨rfl,y⟩:=y
  have:=y vs s
  rw[h1] at this
  cases this
  exact⟨W2,h2,Ext.refl _ _ _,rfl,p.rel.fix⟩
theorem runs_t{a:Addr}{xs:List D}{ok:Mem→Prop}(h:∀ m2 σ2 W2 H2 fp2,PostS K CT pi W H σ fp m2 σ2 W2 H2 fp2→ok m2→∃ vs,SqT K H2 a vs∧RepL K W2 H2 vs xs []): Runs K CT pi (Itt K a) W H σ fp xs ok:=by
  intro m2 σ2 W2 H2 fp2 p o i
  obtain⟨vs,s,l⟩:=h m2 σ2 W2 H2 fp2 p o
  refine⟨fun d e=>?_,fun hl=>⟨vs,s,by rw[l.length];exact hl⟩⟩
  obtain⟨v,h1,h2⟩:=l.item e
  refine⟨⟨vs,v,s,h1⟩,fun x H3 y=>?_⟩
  obtain⟨rfl,y⟩:=y
  have:=y vs s
  rw[h1] at this
  cases this
  exact⟨W2,h2,Ext.refl _ _ _,rfl,p.rel.fix⟩
theorem runs_r{lo:Int}{n:Nat}{ok:Mem→Prop}: Runs K CT pi (Itr lo n) W H σ fp (rangeD lo n) ok:=by
  intro m2 σ2 W2 H2 fp2 p o i
  unfold rangeD
  refine⟨fun d e=>?_,fun hl=>by
    have hl:n≤i:=by simpa using hl
    exact hl⟩
  have hi:i<n:=by
    have:=(List.getElem?_eq_some_iff.mp e).1
    simpa using this
  rw[List.getElem?_map,List.getElem?_range hi] at e
  cases e
  refine⟨hi,fun x H3 y=>?_⟩
  obtain⟨rfl,rfl⟩:=y
  exact⟨W2,.int,Ext.refl _ _ _,rfl,p.rel.fix⟩
end
section
variable {X:Cx} {CT:Nat→Addr} {pi pin:List Nat} {e tg:Expr} {es:List Expr} {body:List Stmt} {pos p0:Pos} {me:M D} {i:Nat} {ml:M (List Arg)} {it:M It} {bb:D→Mem→Res Mem} {s1:MS}
theorem mi_v(h:ME X CT e me): MI X CT pi tg e (miV me):=pi_weak (pi_or (pi_list h) (pi_tup h)) fun σ H R ⟨W,m,fp,it,m',rel,e,k⟩=>by
  obtain⟨⟨d,m1⟩,e1,e⟩:=Res.bind_eq e
  obtain⟨it1,e2,e⟩:=Res.bind_eq e
  cases e
  dsimp only at e2
  unfold itOf at e2
  split at e2
  · obtain⟨p0,e2⟩:=Res.when_eq e2
    cases e2
    refine .inl ⟨W,m,fp,_,_,rel,e1,fun v W1 H1 fp1 fd p=>?_⟩
    obtain⟨a,vs,rfl,s,l,st⟩:=p.rep.lstQ p0
    have nd:=p.nd
    rw[List.nodup_append] at nd
    exact⟨a,rfl,⟨vs,s⟩,k _ W1 H1 fp1 p.t (runs_l fun m2 σ2 W2 H2 fp2 q _=>⟨vs,st q.ext p.rel.off (fun b z y=>nd.2.2 b y b z rfl),l.ext q.ext p.rel.off fun a z=>by cases z⟩)⟩
  · obtain⟨p0,e2⟩:=Res.when_eq e2
    cases e2
    refine .inr ⟨W,m,fp,_,_,rel,e1,fun v W1 H1 fp1 fd p=>?_⟩
    obtain⟨a,vs,rfl,s,z,l⟩:=p.rep.tupl
    obtain rfl:=l.pure p0
    exact⟨a,rfl,⟨vs,s⟩,k _ W1 H1 fp1 p.t (runs_t fun m2 σ2 W2 H2 fp2 q _=>⟨vs,(z.ext q.ext p.rel.off).sq,l.ext q.ext p.rel.off fun a z=>by cases z⟩)⟩
  · cases e2
theorem mi_n(h:PE X e (tVar i)): MI X CT [i] tg e (miN i):=pi_weak (pi_or (pi_list h) (pi_tup h)) fun σ H R ⟨W,m,fp,it,m',rel,e,k⟩=>by
  obtain⟨d,e1,e⟩:=Res.bind_eq e
  obtain⟨it1,e2,e⟩:=Res.bind_eq e
  cases e
  obtain⟨q1,q2⟩:=mqVar_eq e1
  obtain⟨v,s,f1,rp⟩:∃ v,σ[i]?=some (some v)∧∃ f1,RepD X.K W H v d f1:=by
    obtain⟨f,g,rfl,h1,h2⟩:=rel.s
    obtain⟨v,_,f1,_,_,s,r,_⟩:=h1.at q1 q2
    exact⟨v,s,f1,r⟩
  have post:PostT X.K CT W H σ fp m W H fp:=⟨rel,Ext.refl _ _ _,fun a z=>.inl z⟩
  have again:∀ m2 σ2 W2 H2 fp2,PostS X.K CT [i] W H σ fp m2 σ2 W2 H2 fp2→m2.env[i]?=some d→∃ f,RepD X.K W2 H2 v d f:=fun m2 σ2 W2 H2 fp2 p o=>by
    obtain⟨f,g,rfl,h1,h2⟩:=p.rel.s
    obtain⟨v',_,f1,_,_,s',r,_⟩:=h1.at o q2
    rw[p.pin i (List.mem_cons_self ..),s] at s'
    cases s'
    exact⟨f1,r⟩
  unfold itOf at e2
  split at e2
  · obtain⟨p0,e2⟩:=Res.when_eq e2
    cases e2
    obtain⟨a,vs,g,rfl,sq,l,sb⟩:=rp.lst
    refine .inl ⟨_,s,a,rfl,⟨vs,sq⟩,k _ W H fp post (runs_l fun m2 σ2 W2 H2 fp2 q o=>?_)⟩
    obtain⟨f,r⟩:=again m2 σ2 W2 H2 fp2 q o
    obtain⟨a',vs',g',e',sq',l',_⟩:=r.lst
    cases e'
    obtain rfl:=l'.pure p0
    exact⟨vs',sq',l'⟩
  · obtain⟨p0,e2⟩:=Res.when_eq e2
    cases e2
    obtain⟨a,vs,rfl,sq,z,l⟩:=rp.tupl
    obtain rfl:=l.pure p0
    refine .inr ⟨_,s,a,rfl,⟨vs,sq⟩,k _ W H fp post (runs_t fun m2 σ2 W2 H2 fp2 q o=>⟨vs,(z.ext q.ext rel.off).sq,l.ext q.ext rel.off fun a z=>by cases z⟩)⟩
  · cases e2
theorem b62_eq{i:Int}(h:b62 i=true): -(2 ^ 62)≤i∧i<2 ^ 62:=of_cdec h
theorem w_r1{X:Cx}{CT:Nat→Addr}{pi:List Nat}{ml:M (List Arg)}: ∀ σ H R,tI X.K CT pi (miR1 ml) σ H R→iRng1 (tA X.K CT ml) σ H R:=fun σ H R ⟨W,m,fp,it,m',rel,e,k⟩=>by
  obtain⟨⟨as,m1⟩,e1,e⟩:=Res.bind_eq e
  obtain⟨ds,e2,e⟩:=Res.bind_eq e
  dsimp only at e2 e
  split at e
  · obtain⟨p0,e⟩:=Res.when_eq e
    cases e
    refine⟨W,m,fp,as,_,rel,e1,fun vs W1 H1 fp1 fd p=>?_⟩
    obtain⟨f,g,rfl,h1,h2⟩:=p.rel.s
    obtain⟨g',l⟩:=conts_rep h1 p.rep e2
    cases l with
    | cons r l =>
      cases l
      cases r
      exact⟨_,rfl,(b62_eq p0).1,(b62_eq p0).2,k _ W1 H1 _ ⟨p.rel,p.ext,fun a z=>p.sub a (List.mem_append_left _ z)⟩ runs_r⟩
  · cases e
theorem mi_r1{a:Expr}(hg:Gl X "range")(hm:X.mg "range"=none)(h:MA X CT [a] ml)(hs:starEach [a] X.env=[(false,eval a X.env)]:=by rfl):
    MI X CT pi tg (.Call (.Name "range" p0) [a] [] pos) (miR1 ml):=pi_weak (pi_range1 hg hm h hs) w_r1
open Classical in
noncomputable def Res.ifP{α:Type}(p:Prop)(r:Res α): Res α:=if p then r else .fail
theorem Res.ifP_eq{α:Type}{p:Prop}{r:Res α}{a:α}(h:Res.ifP p r=.ok a): p∧r=.ok a:=by
  unfold Res.ifP at h
  split at h
  · rename_i hp;exact⟨hp,h⟩
  · cases h
theorem Res.ifP_true{α:Type}{p:Prop}{r:Res α}(h:p): Res.ifP p r=r:=if_pos h
noncomputable def forM(ok:Mem→Prop)(b:D→Mem→Res Mem)(body:MS): List D→MS
  | []=>fun m=>Res.ifP (ok m) (.ok (.nx,m))
  | x :: xs=>fun m=>Res.ifP (ok m) ((b x m).bind fun m1=>(body m1).bind fun o=>match o.1 with
      | .nx=>forM ok b body xs o.2
      | .ct=>forM ok b body xs o.2
      | .bk=>.ok (.nx,o.2)
      | .rt d=>.ok (.rt d,o.2))
noncomputable def sFor(it:M It)(b:D→Mem→Res Mem)(body:MS): MS:=fun m=>(it m).bind fun r=>forM r.1.2 b body r.1.1 r.2
theorem PostS.weak{K:PySem.W.Frag}{p q:List Nat}{W W':Wd}{H H':Hp}{σ σ':L2.St}{m':Mem}{fp fp':List Addr}(h:PostS K CT q W H σ fp m' σ' W' H' fp')(s:∀ i∈p,i∈q): PostS K CT p W H σ fp m' σ' W' H' fp' :=
  ⟨h.rel,h.ext,h.sub,fun i z=>h.pin i (s i z),h.len⟩
theorem PostR.weak{K:PySem.W.Frag}{p q:List Nat}{W W':Wd}{H H':Hp}{σ σ':L2.St}{m':Mem}{fp fp' fd:List Addr}{v:V}{d:D}(h:PostR K CT q W H σ fp v d m' σ' W' H' fp' fd)(s:∀ i∈p,i∈q): PostR K CT p W H σ fp v d m' σ' W' H' fp' fd :=
  ⟨h.rel,h.rep,h.nd,h.own,h.ext,h.sub,fun i z=>h.pin i (s i z)⟩
theorem w_for{X:Cx}{CT:Nat→Addr}{Wx:WX}{pi pin:List Nat}{it:M It}{bb:D→Mem→Res Mem}{s1:MS}: ∀ D σ H,tS X.K CT Wx pin (sFor it bb s1) D σ H→tFor (tI X.K CT pi it) (tG X.K CT (pi++pin) bb) (tS X.K CT Wx (pi++pin) s1) D σ H:=fun D σ H ⟨W,m,fp,fl,m',rel,e,k⟩=>by
  obtain⟨⟨⟨xs,ok⟩,m1⟩,e1,e⟩:=Res.bind_eq e
  refine⟨W,m,fp,(xs,ok),m1,rel,e1,fun J W1 H1 fp1 p1 run=>?_⟩
  dsimp only at run e
  refine⟨fun i n σ2 H2=>n=xs.length - i∧∃ W2 m2 fp2,PostS X.K CT (pi++pin) W1 H1 σ fp1 m2 σ2 W2 H2 fp2∧forM ok bb s1 (xs.drop i) m2=.ok (fl,m'),⟨xs.length,rfl,W1,m1,fp1,.refl p1.rel,e⟩,fun i n σ2 H2 ⟨hn,W2,m2,fp2,p2,e2⟩=>?_⟩
  have all:∀ {m3 σ3 W3 H3 fp3},PostS X.K CT (pi++pin) W1 H1 σ fp1 m3 σ3 W3 H3 fp3→PostS X.K CT pin W H σ fp m3 σ3 W3 H3 fp3:=fun q=>(p1.s (σ:=σ)).trans (q.weak fun i z=>List.mem_append_right _ z)
  cases hx:xs[i]? with
  | none =>
    have hl:xs.length≤i:=by simpa using hx
    rw[List.drop_of_length_le hl] at e2
    obtain⟨o,e2⟩:=Res.ifP_eq e2
    cases e2
    exact .inl ⟨(run m' σ2 W2 H2 fp2 (p2.weak fun i z=>List.mem_append_left _ z) o i).2 hl,k σ2 W2 H2 fp2 (all p2)⟩
  | some x =>
    obtain⟨hl,hx'⟩:=List.getElem?_eq_some_iff.mp hx
    rw[List.drop_eq_getElem_cons hl,hx'] at e2
    obtain⟨o,e2⟩:=Res.ifP_eq e2
    obtain⟨m3,e3,e2⟩:=Res.bind_eq e2
    obtain⟨⟨f1,m4⟩,e4,e2⟩:=Res.bind_eq e2
    obtain⟨g,y⟩:=(run m2 σ2 W2 H2 fp2 (p2.weak fun i z=>List.mem_append_left _ z) o i).1 x hx
    refine .inr ⟨g,fun σ' H'=>∃ W4 m4 fp4,PostS X.K CT (pi++pin) W1 H1 σ fp1 m4 σ' W4 H' fp4∧forM ok bb s1 (xs.drop (i+1)) m4=.ok (fl,m'),fun σ' H' ⟨W4,m4,fp4,p4,e5⟩=>⟨n - 1,by omega,by omega,W4,m4,fp4,p4,e5⟩,fun v H3 hy=>?_⟩
    obtain⟨W3,rv,x3,i3,fx3⟩:=y v H3 hy
    have r3:Rel X.K CT W3 H3 σ2 m2 fp2:=p2.rel.ext x3 off_nil (fun a _ z=>by cases z) i3 fx3
    have p3:PostS X.K CT (pi++pin) W1 H1 σ fp1 m2 σ2 W3 H3 fp2:=p2.trans ⟨r3,x3.sub (fun a z=>by cases z),fun a z=>.inl z,fun _ _=>rfl,rfl⟩
    refine⟨W3,m2,fp2,x,[],m3,r3,rv,by rw[List.append_nil];exact p2.rel.nd,Own.nil,e3,fun σ3 W4 H4 fp4 p4=>?_⟩
    rw[List.append_nil] at p4
    have p5:=p3.trans p4
    refine⟨W4,m3,fp4,f1,m4,p5.rel,e4,?_⟩
    cases f1 with
    | nx=>exact fun σ5 W5 H5 fp5 q=>⟨W5,m4,fp5,p5.trans q,e2⟩
    | ct=>exact fun σ5 W5 H5 fp5 q=>⟨W5,m4,fp5,p5.trans q,e2⟩
    | bk =>
      cases e2
      exact fun σ5 W5 H5 fp5 q=>k σ5 W5 H5 fp5 (all (p5.trans q))
    | rt d =>
      cases e2
      exact⟨fun v σ5 W5 H5 fp5 fd q=>k.1 v σ5 W5 H5 fp5 fd (((p1.s (σ:=σ)).trans (p5.weak fun i z=>List.mem_append_right _ z)).transR (q.weak fun i z=>List.mem_append_right _ z)),fun x e cls dd σ5 W5 H5 fp5 q r=>k.2 x e cls dd σ5 W5 H5 fp5 (all (p5.trans q)) r⟩
theorem mst_for(hp:PassesOwn (model X.prog X.w) X.A X.env X.xe)(hc:X.calm=true)(hi:MI X CT pi tg e it)(hg:MG X CT (pi++pin) tg bb)(hb:MSs X CT (pi++pin) body s1)(hs:∀ x,foldedSetIterable e X.env x=pure x:=by intro _;rfl): MSt X CT pin (.For tg e body [] pos) (sFor it bb s1):=fun Wx tk=>ps_weak (ps_for hp hc hi hg (hb Wx tk) hs) w_for
end
end E
namespace E
open PySem L2
def undL: List Nat→List D→List D
  | [],env=>env
  | v::vs,env=>(undL vs env).set v .und
def hidV(d:D): D:=if d.pure=true then d else .und
def restore(env0:List D): List Nat→List D→List D
  | [],env=>env
  | v::vs,env=>restore env0 vs (env.set v (hidV (env0.getD v .und)))
@[simp] def D.hid: D→Bool
  | .und=>true
  | d=>d.pure
noncomputable def lcM(ok:Mem→Prop)(vs:List Nat)(b:D→Mem→Res Mem)(tt:M Bool)(el:M D): List D→List D→M (List D)
  | [],acc=>fun m=>Res.ifP (ok m) (.ok (acc,m))
  | x :: xs,acc=>fun m=>Res.ifP (ok m) ((b x m).bind fun m1=>(tt m1).bind fun c=>if c.1=true then
      (el c.2).bind fun r=>Res.when (decide (acc.length<sizeLine)) (lcM ok vs b tt el xs (acc++[r.1]) ⟨undL vs r.2.env,r.2.hs⟩)
      else lcM ok vs b tt el xs acc ⟨undL vs c.2.env,c.2.hs⟩)
noncomputable def mLc(it:M E.It)(vs:List Nat)(b:D→Mem→Res Mem)(tt:M Bool)(el:M D): M D:=fun m=>(it m).bind fun r =>
  Res.when (vs.all fun v=>decide (v<r.2.env.length)) ((lcM r.1.2 vs b tt el r.1.1 [] ⟨undL vs r.2.env,r.2.hs⟩).bind fun o=>.ok (.lst true o.1,⟨restore r.2.env vs o.2.env,o.2.hs⟩))
def mtYes: M Bool:=fun m=>.ok (true,m)
section
variable {K:PySem.W.Frag} {CT:Nat→Addr} {W W' W2:Wd} {H H' H2:Hp} {σ σ2:L2.St} {fp fp2:List Addr}
theorem RepS.drop1{env:List D}{f:List Addr}(h:RepS K W H σ env f): ∀ (i:Nat),∃ f' r,(f'++r).Perm f∧RepS K W H (σ.set i none) (env.set i .und) f':=by
  induction h with
  | nil=>intro i;exact⟨[],[],.refl _,.nil⟩
  | @und x σ env g hs ih =>
    intro i
    cases i with
    | zero=>exact⟨g,[],by simp,.und hs⟩
    | succ i =>
      obtain⟨f',r,p,k⟩:=ih i
      exact⟨f',r,p,.und k⟩
  | @cons v σ d0 env f g r hs ih =>
    intro i
    cases i with
    | zero=>exact⟨g,f,List.perm_append_comm,.und hs⟩
    | succ i =>
      obtain⟨f',r',p,k⟩:=ih i
      refine⟨f++f',r',?_,.cons r k⟩
      rw[List.append_assoc]
      exact List.Perm.append_left f p
theorem RepS.wipe{env:List D}{f:List Addr}(h:RepS K W H σ env f): ∀ vs:List Nat,∃ f' r,(f'++r).Perm f∧RepS K W H (L2.wipe σ vs) (undL vs env) f'
  | []=>⟨f,[],by simp,h⟩
  | v::vs=>by
    obtain⟨f1,r1,p1,k1⟩:=RepS.wipe h vs
    obtain⟨f2,r2,p2,k2⟩:=k1.drop1 v
    refine⟨f2,r2++r1,?_,k2⟩
    rw[← List.append_assoc]
    exact(List.Perm.append_right r1 p2).trans p1
theorem RepS.set0{env:List D}{f:List Addr}(h:RepS K W H σ env f): ∀ {i:Nat} {x:Option V} {d:D},env[i]?=some .und→(d=.und∨∃ v,x=some v∧RepD K W H v d [])→RepS K W H (σ.set i x) (env.set i d) f:=by
  induction h with
  | nil=>intro i x d e;simp at e
  | @und x0 σ env g hs ih =>
    intro i x d e hd
    cases i with
    | zero =>
      rcases hd with rfl | ⟨v,rfl,r⟩
      · exact .und hs
      · exact RepS.cons (f:=[]) r hs
    | succ i=>exact .und (ih (by simpa using e) hd)
  | @cons v σ d0 env f g r hs ih =>
    intro i x d e hd
    cases i with
    | zero =>
      have:d0=.und:=by simpa using e
      subst this
      exact r.nund.elim
    | succ i=>exact .cons r (ih (by simpa using e) hd)
theorem undL_length(env:List D): ∀ vs,(undL vs env).length=env.length
  | []=>rfl
  | v::vs=>by rw[undL,List.length_set,undL_length env vs]
theorem undL_get(env:List D)(v:Nat)(h:v<env.length): ∀ vs,v∈vs→(undL vs env)[v]?=some .und
  | w :: vs,m=>by
    rw[undL,List.getElem?_set]
    split
    · rename_i e;subst e
      rw[undL_length,if_pos h]
    · rename_i e
      rcases List.mem_cons.mp m with z | z
      · exact absurd z.symm e
      · exact undL_get env v h vs z
theorem wipe_out{i:Nat}: ∀ {vs:List Nat},i ∉ vs→(L2.wipe σ vs)[i]?=σ[i]?
  | [],_=>rfl
  | v::vs,h=>by
    rw[L2.wipe,List.getElem?_set_ne (fun e=>h (by rw[e];exact List.mem_cons_self ..)),wipe_out fun z=>h (List.mem_cons_of_mem _ z)]
theorem wipe_eq (hl:σ2.length=σ.length) {vs:List Nat} (h:∀ i,i ∉ vs→σ2[i]?=σ[i]?):L2.wipe σ2 vs=L2.wipe σ vs:=by
  apply List.ext_getElem?
  intro i
  have key:∀ ws:List Nat,(∀ i ∉ vs,σ2[i]?=σ[i]?)→∀ i,(i ∉ vs∨i∈ws)→(L2.wipe σ2 ws)[i]?=(L2.wipe σ ws)[i]?:=by
    intro ws h
    induction ws with
    | nil =>
      intro i hi
      rcases hi with hi | hi
      · exact h i hi
      · cases hi
    | cons w ws ih =>
      intro i hi
      rw[L2.wipe,L2.wipe,List.getElem?_set,List.getElem?_set,L2.wipe_length,L2.wipe_length,hl]
      split
      · rfl
      · rename_i e
        exact ih i (hi.imp id fun z=>(List.mem_cons.mp z).resolve_left fun q=>e q.symm)
  exact key vs h i (by
    by_cases hi:i∈vs
    · exact .inr hi
    · exact .inl hi)
theorem RepS.unwipe {env0:List D}:∀ {vs:List Nat} {env:List D} {f:List Addr},vs.Nodup→RepS K W H (L2.wipe σ vs) env f→(∀ v∈vs,env[v]?=some .und)→(∀ v∈vs,hidV (env0.getD v .und)=.und∨∃ x,σ[v]?=some (some x)∧RepD K W H x (hidV (env0.getD v .und)) [])→RepS K W H σ (restore env0 vs env) f
  | [],env,f,_,h,_,_=>h
  | v :: vs,env,f,nd,h,u,o=>by
    rw[List.nodup_cons] at nd
    unfold restore
    have hv:=u v (List.mem_cons_self ..)
    have h1 : RepS K W H (L2.wipe σ vs) (env.set v (hidV (env0.getD v .und))) f:=by
      cases hs:σ[v]? with
      | none =>
        have e:(L2.wipe σ (v::vs)).set v none=L2.wipe σ vs:=by
          rw[L2.wipe,List.set_set,List.set_eq_of_length_le]
          rw[L2.wipe_length]
          simpa using hs
        rw[← e]
        refine h.set0 hv ?_
        rcases o v (List.mem_cons_self ..) with z | ⟨x,z,_⟩
        · exact .inl z
        · rw[hs] at z;cases z
      | some x =>
        have e:(L2.wipe σ (v::vs)).set v x=L2.wipe σ vs:=by
          rw[L2.wipe,List.set_set]
          apply List.ext_getElem?
          intro i
          rw[List.getElem?_set]
          split
          · rename_i e;subst e
            have hl:=(List.getElem?_eq_some_iff.mp hs).1
            rw[L2.wipe_length,if_pos hl,wipe_out nd.1,hs]
          · rfl
        rw[← e]
        refine h.set0 hv ?_
        rcases o v (List.mem_cons_self ..) with z | ⟨y,z,r⟩
        · exact .inl z
        · rw[hs] at z
          cases z
          exact .inr ⟨y,rfl,r⟩
    refine RepS.unwipe nd.2 h1 (fun w m=>?_) fun w m=>o w (List.mem_cons_of_mem _ m)
    rw[List.getElem?_set_ne (fun e=>nd.1 (by rw[e];exact m))]
    exact u w (List.mem_cons_of_mem _ m)
end
def MTs(X:Cx)(CT:Nat→Addr)(es:List Expr)(m:M Bool): Prop:=PTs X es (tT X.K CT m)
theorem pts_weak{X:Cx}{es:List Expr}{t t':TT}(h:PTs X es t)(k:∀ σ H Q,t' σ H Q→t σ H Q): PTs X es t':=⟨fun pins s σ H Q I q=>h.run pins s σ H Q I (k σ H Q q)⟩
theorem mts_nil{X:Cx}{CT:Nat→Addr}: MTs X CT [] mtYes:=pts_weak pts_nil fun σ H Q ⟨W,m,fp,b,m',rel,e,k⟩=>by
  cases e
  exact k W H fp ⟨rel,Ext.refl _ _ _,fun a z=>.inl z⟩
section
variable {X:Cx} {CT:Nat→Addr} {pi pin:List Nat} {elt tg iter:Expr} {ifs:List Expr} {scope:Scope} {own:List (Str×Nat)} {pos spos:Pos} {it:M E.It} {b:D→Mem→Res Mem} {tt:M Bool} {el:M D}
theorem tlc {vs:List Nat} (hvs:vs.Nodup) (hpi:∀ i∈pi,i ∉ vs) (hpin:∀ i,i<X.N.length→i ∉ vs→i∈pin) :
    ∀ σ H Q,σ.length=X.N.length→tM X.K CT (mLc it vs b tt el) σ H Q→tLc (tI X.K CT pi it) (tG X.K CT pin b) (tT X.K CT tt) (tM X.K CT el) vs σ H Q:=fun σ H Q hσ ⟨W,m,fp,d,m',rel,e,k⟩=>by
  obtain⟨⟨⟨xs,ok⟩,m1⟩,e1,e⟩:=Res.bind_eq e
  obtain⟨hid,e⟩:=Res.when_eq e
  obtain⟨⟨res,mE⟩,e2,e⟩:=Res.bind_eq e
  cases e
  dsimp only at hid e2
  refine⟨W,m,fp,(xs,ok),m1,rel,e1,fun J W1 H1 fp1 p1 run D hD=>?_⟩
  dsimp only at run
  have lenEnv:m1.env.length=σ.length:=by
    obtain⟨f,g,_,h1,_⟩:=p1.rel.s
    exact h1.length.symm
  have hidR:∀ v∈vs,hidV (m1.env.getD v .und)=.und∨∃ x,σ[v]?=some (some x)∧RepD X.K W1 H1 x (hidV (m1.env.getD v .und)) []:=fun v mv=>by
    cases he:m1.env[v]? with
    | none=>exact .inl (by rw[List.getD_eq_getElem?_getD,he];rfl)
    | some dv =>
      have eg:m1.env.getD v .und=dv:=by rw[List.getD_eq_getElem?_getD,he];rfl
      rw[eg]
      unfold hidV
      by_cases pd:dv.pure=true
      · rw[if_pos pd]
        have hu:dv≠.und:=by intro z;subst z;cases pd
        obtain⟨f,g,_,h1,_⟩:=p1.rel.s
        obtain⟨x,A,f1,B,_,s,r,_⟩:=h1.at he hu
        obtain rfl:=r.pure pd
        exact .inr ⟨x,s,r⟩
      · rw[if_neg pd]
        exact .inl rfl
  have wiped:∀ {W2 H2 σ2 m2 fp2},Rel X.K CT W2 H2 σ2 m2 fp2→L2.wipe σ2 vs=L2.wipe σ vs→∃ fp3,Rel X.K CT W2 H2 (L2.wipe σ vs) ⟨undL vs m2.env,m2.hs⟩ fp3∧(∀ a∈fp3,a∈fp2):=fun {W2 H2 σ2 m2 fp2} r ew=>by
    obtain⟨f,g,rfl,h1,h2⟩:=r.s
    obtain⟨f',rr,pm,k1⟩:=h1.wipe vs
    rw[ew] at k1
    have pm2:((f'++g)++rr).Perm (f++g):=by
      rw[List.perm_iff_count];intro a
      have:=pm.count_eq a
      simp only[List.count_append] at this ⊢;omega
    have nd:=pm2.nodup_iff.mpr r.nd
    rw[List.nodup_append] at nd
    refine⟨f'++g,⟨⟨f',g,rfl,k1,h2⟩,nd.1,fun a z=>r.own a (pm2.mem_iff.mp (List.mem_append_left _ z)),r.fix⟩,fun a z=>pm2.mem_iff.mp (List.mem_append_left _ z)⟩
  have pw:∀ i∈pi,(L2.wipe σ vs)[i]?=σ[i]?:=fun i z=>wipe_out (hpi i z)
  let Inv:Nat→Wd→Hp→Mem→List Addr→List V→List E.D→List Addr→Prop:=fun i W2 H2 m2 fp2 ws acc fa =>
    PostS X.K CT pi W1 H1 σ fp1 m2 (L2.wipe σ vs) W2 H2 fp2∧H2 D=some (.lst ws)∧RepL X.K W2 H2 ws acc fa∧(fp2++(D::fa)).Nodup∧Own W2 H2 (D::fa)∧(∀ a∈fa,a∈fp1∨H1 a=none)∧(∀ v∈vs,v<m2.env.length→m2.env[v]?=some .und)∧m2.env.length=m1.env.length∧lcM ok vs b tt el (xs.drop i) acc m2=.ok (res,mE)
  refine⟨fun i n H2=>n=xs.length - i∧∃ W2 m2 fp2 ws acc fa,Inv i W2 H2 m2 fp2 ws acc fa,⟨xs.length,rfl,?_⟩,fun i n H2 ⟨hn,W2,m2,fp2,ws,acc,fa,p2,hd,la,nd,ow,sb,un,ln,e3⟩=>?_⟩
  · obtain⟨fp3,r3,s3⟩:=wiped p1.rel rfl
    have x:=ext_upd (W:=W1) (o:=.lst []) hD
    have nD:∀ a∈fp3,a≠D:=fun a z y=>(r3.own a z).2 (by rw[y];exact hD)
    refine⟨W1,⟨undL vs m1.env,m1.hs⟩,fp3,[],[],[],⟨r3.ext x off_nil (fun a _ z=>by cases z) rfl (fix_upd r3.fix),x.sub (fun a z=>by cases z),fun a z=>.inl (s3 a z),pw,by rw[L2.wipe_length]⟩,upd_same,.nil,?_,?_,(fun a z=>by cases z),fun v mv hl=>undL_get _ _ (by rw[undL_length] at hl;exact hl) vs mv,undL_length _ _,e2⟩
    · rw[List.nodup_append]
      refine⟨r3.nd,by simp,fun a z b y=>?_⟩
      rw[List.mem_singleton.mp y]
      exact nD a z
    · intro a z
      rw[List.mem_singleton.mp z]
      exact⟨fun y=>p1.rel.fix D y hD,by rw[upd_same];exact fun z=>by cases z⟩
  have okrun:ok m2→_:=fun o=>run m2 (L2.wipe σ vs) W2 H2 fp2 p2 o i
  have ndD:D ∉ fp2:=fun z=>by
    rw[List.nodup_append] at nd
    exact nd.2.2 D z D (List.mem_cons_self ..) rfl
  cases hx:xs[i]? with
  | none =>
    have hl:xs.length≤i:=by simpa using hx
    rw[List.drop_of_length_le hl] at e3
    obtain⟨o,e3⟩:=Res.ifP_eq e3
    cases e3
    refine .inl ⟨(okrun o).2 hl,k _ W2 H2 fp2 (D::fa) ?_⟩
    obtain⟨f,g,rfl,h1,h2⟩:=p2.rel.s
    have hidE:∀ v∈vs,hidV (m1.env.getD v .und)=.und∨∃ x,σ[v]?=some (some x)∧RepD X.K W2 H2 x (hidV (m1.env.getD v .und)) []:=fun v mv=>(hidR v mv).imp id fun⟨x,s,r⟩=>⟨x,s,r.ext p2.ext p1.rel.off fun a z=>by cases z⟩
    have hback:RepS X.K W2 H2 σ (restore m1.env vs mE.env) f:=by
      have hin:∀ v∈vs,v<mE.env.length:=fun v mv=>by
        rw[ln]
        exact of_decide_eq_true ((List.all_eq_true.mp hid) v mv)
      exact h1.unwipe hvs (fun v mv=>un v mv (hin v mv)) hidE
    refine⟨⟨⟨f,g,rfl,hback,h2⟩,p2.rel.nd,p2.rel.own,p2.rel.fix⟩,.lstO hd la,nd,ow,p1.ext.trans p2.ext p1.sub,fun a z=>?_⟩
    have s12:∀ a,a∈fp1∨H1 a=none→a∈fp∨H a=none:=fun a z=>z.elim (p1.sub a) fun y=>.inr (p1.ext.there a y)
    rcases List.mem_append.mp z with z | z
    · exact s12 a (p2.sub a z)
    · rcases List.mem_cons.mp z with z | z
      · subst z
        exact .inr (p1.ext.there a hD)
      · exact s12 a (sb a z)
  | some x =>
    obtain⟨hl,hx'⟩:=List.getElem?_eq_some_iff.mp hx
    rw[List.drop_eq_getElem_cons hl,hx'] at e3
    obtain⟨o,e3⟩:=Res.ifP_eq e3
    obtain⟨m3,e4,e3⟩:=Res.bind_eq e3
    obtain⟨⟨c,m4⟩,e5,e3⟩:=Res.bind_eq e3
    obtain⟨g,y⟩:=(okrun o).1 x hx
    refine .inr ⟨g,fun H'=>∃ W2 m2 fp2 ws acc fa,Inv (i+1) W2 H' m2 fp2 ws acc fa,fun H' q=>⟨n - 1,by omega,by omega,q⟩,fun v H3 hy=>?_⟩
    obtain⟨W3,rv,x3,i3,fx3⟩:=y v H3 hy
    have r3:Rel X.K CT W3 H3 (L2.wipe σ vs) m2 fp2:=p2.rel.ext x3 off_nil (fun a _ z=>by cases z) i3 fx3
    refine⟨W3,m2,fp2,x,[],m3,r3,rv,by rw[List.append_nil];exact p2.rel.nd,Own.nil,e4,fun σ4 W4 H4 fp4 p4=>?_⟩
    rw[List.append_nil] at p4
    have ew:L2.wipe σ4 vs=L2.wipe σ vs:=by
      have:=wipe_eq (σ:=L2.wipe σ vs) (σ2:=σ4) p4.len (vs:=vs) fun j hj=>by
        by_cases hjl:j<X.N.length
        · exact p4.pin j (hpin j hjl hj)
        · have l1:(L2.wipe σ vs).length=X.N.length:=by rw[L2.wipe_length];exact hσ
          rw[List.getElem?_eq_none (by rw[p4.len,l1];omega),List.getElem?_eq_none (by rw[l1];omega)]
      rw[this]
      exact wipe_eq (by rw[L2.wipe_length]) fun j hj=>wipe_out hj
    refine⟨ew,W4,m3,fp4,c,m4,p4.rel,e5,fun W5 H5 fp5 p5=>?_⟩
    have x25:Ext W2 H2 W5 H5 fp2:=((x3.sub (fq:=fp2) fun a z=>by cases z).trans p4.ext (fun a z=>.inl z)).trans p5.ext fun a z=>(p4.sub a z).imp id (x3.there a)
    have s25:∀ a∈fp5,a∈fp2∨H2 a=none:=fun a z=>by
      rcases p5.sub a z with z | z
      · exact(p4.sub a z).imp id (x3.there a)
      · exact .inr (x3.there a (p4.ext.there a z))
    have off2:=p2.rel.off
    have nd':=nd
    rw[List.nodup_append] at nd'
    have farA:∀ a∈D::fa,a ∉ fp2:=fun a z y=>nd'.2.2 a y a z rfl
    have ow5:=ow.ext x25 farA
    have hd5:H5 D=some (.lst ws):=x25.keep D _ hd (farA D (List.mem_cons_self ..))
    have la5:=la.ext x25 off2 fun a z=>farA a (List.mem_cons_of_mem _ z)
    have far5:∀ a∈D::fa,a ∉ fp5:=fun a z y=>by
      rcases s25 a y with y | y
      · exact farA a z y
      · exact(ow a z).2 y
    have len4:∀ {σ2 W2 H2 m2 fp2},Rel X.K CT W2 H2 σ2 m2 fp2→σ2.length=σ.length→m2.env.length=m1.env.length:=fun r el=>by
      obtain⟨f,g,_,h1,_⟩:=r.s
      rw[← h1.length,el,lenEnv]
    have lenσ4:σ4.length=σ.length:=by rw[p4.len,L2.wipe_length]
    cases c with
    | false =>
      refine iteF ?_
      rw[if_neg Bool.false_ne_true] at e3
      obtain⟨fp6,r6,s6⟩:=wiped p5.rel ew
      refine⟨W5,⟨undL vs m4.env,m4.hs⟩,fp6,ws,acc,fa,⟨r6,p2.ext.trans x25 p2.sub,subT p2.sub (fun a z=>s25 a (s6 a z)) p2.ext.there,pw,by rw[L2.wipe_length]⟩,hd5,la5,?_,ow5,sb,fun v mv hl=>undL_get _ _ (by rw[undL_length] at hl;exact hl) vs mv,?_,e3⟩
      · rw[List.nodup_append]
        exact⟨r6.nd,nd'.2.1,fun a z b y e=>far5 b y (by rw[← e];exact s6 a z)⟩
      · rw[undL_length]
        exact len4 p5.rel lenσ4
    | true =>
      refine iteT ?_
      rw[if_pos rfl] at e3
      obtain⟨⟨dr,m6⟩,e6,e3⟩:=Res.bind_eq e3
      obtain⟨hsz,e3⟩:=Res.when_eq e3
      refine⟨W5,m4,fp5,dr,m6,p5.rel,e6,fun y6 W6 H6 fp6 fd6 p6=>?_⟩
      have hd6:H6 D=some (.lst ws):=p6.ext.keep D _ hd5 (far5 D (List.mem_cons_self ..))
      have la6:=la5.ext p6.ext p5.rel.off fun a z=>far5 a (List.mem_cons_of_mem _ z)
      have ow6:=ow5.ext p6.ext far5
      have far6:∀ a∈D::fa,a ∉ fp6++fd6:=fun a z y=>by
        rcases p6.sub a y with y | y
        · exact far5 a z y
        · exact(ow5 a z).2 y
      refine⟨ws,hd6,by rw[la.length];exact of_decide_eq_true hsz,?_⟩
      have xD:Ext W6 H6 W6 (upd H6 D (.lst (ws++[y6]))) [D]:=⟨fun _ h=>h,fun _ _ h=>h,fun a o h n=>by rw[upd_ne (fun z=>n (by simp[z]))];exact h,fun _ h=>.inl h,fun a h=>by
        by_cases e:a=D
        · subst e;rw[upd_same] at h;cases h
        · rw[upd_ne e] at h;exact h⟩
      have offD:Off W6 [D]:=fun a z=>by
        rw[List.mem_singleton.mp z]
        exact(ow6 D (List.mem_cons_self ..)).1
      have nfa:∀ a∈fa,a ∉ [D]:=fun a z y=>by
        rw[List.mem_singleton.mp y] at z
        exact(List.nodup_cons.mp nd'.2.1).1 z
      have nf6:∀ a∈fp6++fd6,a ∉ [D]:=fun a z y=>by
        rw[List.mem_singleton.mp y] at z
        exact far6 D (List.mem_cons_self ..) z
      have fixD:Fix W6 (upd H6 D (.lst (ws++[y6]))):=fix_upd p6.rel.fix
      obtain⟨fp7,r7,s7⟩:=wiped p6.rel ew
      have r8:=r7.ext xD offD (fun a z=>nf6 a (List.mem_append_left _ (s7 a z))) rfl fixD
      have la8:=(la6.app (RepL.cons p6.rep .nil)).ext xD offD fun a z=>by
        rw[List.append_nil] at z
        rcases List.mem_append.mp z with z | z
        · exact nfa a z
        · exact nf6 a (List.mem_append_right _ z)
      rw[List.append_nil] at la8
      have x26:Ext W2 H2 W6 H6 fp2:=x25.trans p6.ext s25
      have x28:Ext W1 H1 W6 (upd H6 D (.lst (ws++[y6]))) fp1:=⟨fun a h=>p2.ext.fm a h |> x26.fm a,fun n a h=>x26.im n a (p2.ext.im n a h),fun a o h n=>by
          have e:a≠D:=fun e=>by subst e;rw[hD] at h;cases h
          rw[upd_ne e]
          exact(p2.ext.trans x26 p2.sub).keep a o h n,fun a h=>(p2.ext.trans x26 p2.sub).fnew a h,fun a h=>(p2.ext.trans x26 p2.sub).there a (xD.there a h)⟩
      have s26:∀ a∈fp6++fd6,a∈fp1∨H1 a=none:=fun a z=>by
        rcases p6.sub a z with z | z
        · rcases s25 a z with z | z
          · exact p2.sub a z
          · exact .inr (p2.ext.there a z)
        · exact .inr (p2.ext.there a (x25.there a z))
      refine⟨W6,⟨undL vs m6.env,m6.hs⟩,fp7,ws++[y6],acc++[dr],fa++fd6,⟨r8,x28,fun a z=>s26 a (List.mem_append_left _ (s7 a z)),pw,by rw[L2.wipe_length]⟩,upd_same,la8,?_,?_,fun a z=>?_,fun v mv hl=>undL_get _ _ (by rw[undL_length] at hl;exact hl) vs mv,?_,e3⟩
      · have nd6:=p6.nd
        rw[List.nodup_append] at nd6
        rw[List.nodup_append,List.nodup_cons,List.nodup_append]
        refine⟨r7.nd,⟨fun z=>?_,(List.nodup_cons.mp nd'.2.1).2,nd6.2.1,fun a z b y e=>?_⟩,fun a z b y e=>?_⟩
        · rcases List.mem_append.mp z with z | z
          · exact(List.nodup_cons.mp nd'.2.1).1 z
          · exact far6 D (List.mem_cons_self ..) (List.mem_append_right _ z)
        · exact far6 a (List.mem_cons_of_mem _ z) (by rw[e];exact List.mem_append_right _ y)
        · subst e
          rcases List.mem_cons.mp y with y | y
          · exact far6 D (List.mem_cons_self ..) (List.mem_append_left _ (by rw[← y];exact s7 a z))
          · rcases List.mem_append.mp y with y | y
            · exact far6 a (List.mem_cons_of_mem _ y) (List.mem_append_left _ (s7 a z))
            · exact nd6.2.2 a (s7 a z) a y rfl
      · intro a z
        rcases List.mem_cons.mp z with z | z
        · subst z
          exact⟨(ow6 a (List.mem_cons_self ..)).1,by rw[upd_same];exact fun z=>by cases z⟩
        · rcases List.mem_append.mp z with z | z
          · exact(Own.ext (fun a z=>ow6 a (List.mem_cons_of_mem _ z)) xD nfa) a z
          · exact(p6.own.ext xD fun a z=>nf6 a (List.mem_append_right _ z)) a z
      · rcases List.mem_append.mp z with z | z
        · exact sb a z
        · exact s26 a (List.mem_append_right _ z)
      · rw[undL_length]
        exact len4 p6.rel lenσ4
theorem pe_weakN{e:Expr}{t t':TE}(h:PE X e t)(k:∀ σ H Q,σ.length=X.N.length→t' σ H Q→t σ H Q): PE X e t':=⟨fun pins s σ H Q I q=>h.run pins s σ H Q I (k σ H Q I.len q)⟩
theorem me_lc(hc:X.calm=true)(hN:X.N.Nodup)(hi:MI X CT pi tg iter it)(ok:BlkOk X.N X.env.scope scope own)
    (hg:∀ (s:Shared) (H:Hp) (C:Addr) (cl:List (Str×Addr)) (fp:List Addr),MG (X.blk s H scope (compEnvC scope cl C X.env) fp) CT pin tg b) (ht:∀ (s:Shared) (H:Hp) (C:Addr) (cl:List (Str×Addr)) (fp:List Addr),MTs (X.blk s H scope (compEnvC scope cl C X.env) fp) CT ifs tt)
    (he:∀ (s:Shared) (H:Hp) (C:Addr) (cl:List (Str×Addr)) (fp:List Addr),ME (X.blk s H scope (compEnvC scope cl C X.env) fp) CT elt el)
    (hvs:(own.map (·.2)).Nodup) (hpi:∀ i∈pi,i ∉ own.map (·.2)) (hpin:∀ i,i<X.N.length→i ∉ own.map (·.2)→i∈pin) (hs:∀ x,foldedSetIterable iter X.env x=pure x:=by intro _;rfl) :
    ME X CT (.ListComp elt [⟨tg,iter,ifs,0⟩] scope pos) (mLc it (own.map (·.2)) b tt el) :=
  pe_weakN (pe_lc (g:=tG X.K CT pin b) (tt:=tT X.K CT tt) (te:=tM X.K CT el) hc hN hi ok hg ht he hs) (tlc hvs hpi hpin)
end
end E
namespace E
open PySem L2
section
variable {X:Cx}
@[simp] def dLen: List D→Res D
  | [.lst _ xs]=>.ok (.int xs.length)
  | [.tup xs]=>.ok (.int xs.length)
  | [.str y]=>.when (decide (y.length≤sizeLine)) (.ok (.int y.length))
  | _=>.fail
theorem cd_len: CallD X (.builtin "len") dLen:=⟨_,call_len,fun W H xs ds fs d Q x0 l e k=>by
  unfold dLen at e;split at e
  · cases e
    cases l with | cons r l=>cases l;obtain⟨a,vs,g,rfl,s,l,_⟩:=r.lst;exact⟨_,_,rfl,.inl ⟨vs,s,rfl⟩,by rw[l.length];exact k _ W H [] (New.sc x0 .int)⟩
  · cases e
    cases l with | cons r l=>cases l;obtain⟨a,vs,rfl,s,_,l⟩:=r.tupl;exact⟨_,_,rfl,.inr ⟨vs,s,rfl⟩,by rw[l.length];exact k _ W H [] (New.sc x0 .int)⟩
  · obtain⟨h,e⟩:=Res.when_eq e
    cases e
    cases l with | cons r l=>cases l;cases r;exact⟨_,_,rfl,⟨of_decide_eq_true h,rfl⟩,k _ W H [] (New.sc x0 .int)⟩
  · cases e⟩
@[simp] def dInt: List D→Res D
  | [.int i]=>.ok (.int i)
  | [.bl b]=>.ok (.int (if b then 1 else 0))
  | _=>.fail
theorem cd_int: CallD X (.type "int") dInt:=⟨_,call_int1,fun W H xs ds fs d Q x0 l e k=>by
  unfold dInt at e;split at e
  · cases e
    cases l with | cons r l=>cases l;cases r;exact .inl ⟨_,rfl,k _ W H [] (New.sc x0 .int)⟩
  · cases e
    cases l with | cons r l=>cases l;cases r;exact .inr ⟨_,rfl,k _ W H [] (New.sc x0 .int)⟩
  · cases e⟩
@[simp] def dList: List D→Res D
  | [.lst _ xs]=>.when (pureL xs) (.ok (.lst true xs))
  | [.tup xs]=>.when (pureL xs) (.ok (.lst true xs))
  | _=>.fail
@[simp] def dTuple: List D→Res D
  | [.lst _ xs]=>.when (pureL xs) (.ok (.tup xs))
  | [.tup xs]=>.when (pureL xs) (.ok (.tup xs))
  | _=>.fail
theorem cd_tuple: CallD X (.type "tuple") dTuple:=⟨_,call_tuple_of,fun W H xs ds fs d Q x0 l e k=>by
  unfold dTuple at e;split at e
  · obtain⟨h,e⟩:=Res.when_eq e
    cases e
    cases l with | cons r l=>cases l;obtain⟨a,vs,g,rfl,s,l,_⟩:=r.lst;obtain rfl:=l.pure h;exact⟨a,vs,rfl,.inl ⟨s,fun p hp=>k _ _ _ _ (New.tup x0 hp l)⟩⟩
  · obtain⟨h,e⟩:=Res.when_eq e
    cases e
    cases l with | cons r l=>cases l;obtain⟨a,vs,rfl,s,z,l⟩:=r.tupl;obtain rfl:=l.pure h;exact⟨a,vs,rfl,.inr ⟨s,k _ W H [] (New.sc x0 (.tup z l))⟩⟩
  · cases e⟩
@[simp] def dMax2: List D→Res D
  | [.int i,.int j]=>.ok (.int (if j > i then j else i))
  | _=>.fail
@[simp] def dMin2: List D→Res D
  | [.int i,.int j]=>.ok (.int (if j<i then j else i))
  | _=>.fail
@[simp] def dAbs: List D→Res D
  | [.int i]=>.ok (.int (if i<0 then -i else i))
  | _=>.fail
@[simp] def kindOf: D→Option String
  | .non=>some "NoneType"
  | .bl _=>some "bool"
  | .int _=>some "int"
  | .str _=>some "str"
  | .tup _=>some "tuple"
  | .lst _ _=>some "list"
  | .dic _ false _=>some "dict"
  | _=>none
def kindIs(k n:String): Option Bool:=kitB k n
@[simp] def dIsi: List D→Res D
  | [x,.ty n]=>(Res.of ((kindOf x).bind fun k=>kindIs k n)).bind fun b=>.ok (.bl b)
  | _=>.fail
theorem sq_ty{K:PySem.W.Frag}{H:Hp}{a:Addr}{vs:List V}(h:SqL K H a vs): TyX K H (.ref a) (.type "list"):=by
  rcases h with (h | ⟨o,h⟩) | ⟨o,its,n,h,c,_⟩
  · exact .base (.lst h)
  · exact .base (.frz h)
  · exact .kList h c
theorem st_ty{K:PySem.W.Frag}{H:Hp}{a:Addr}{vs:List V}(h:SqT K H a vs): TyX K H (.ref a) (.type "tuple"):=by
  rcases h with (h | ⟨o,h⟩) | ⟨o,its,n,h,c,_⟩
  · exact .base (.tup h)
  · exact .fTuple h
  · exact .kTuple h c
theorem ty_rep{K:PySem.W.Frag}{W:Wd}{H:Hp}{v:V}{d:D}{g:List Addr}(r:RepD K W H v d g): ∀ {k:String},kindOf d=some k→TyX K H v (.type k):=by
  intro k e
  cases r with
  | non=>cases e;exact .base .non
  | bl=>cases e;exact .base (.bl _)
  | int=>cases e;exact .base (.int _)
  | str=>cases e;exact .base (.str _)
  | loc=>cases e
  | ty=>cases e
  | fn=>cases e
  | tup h l=>cases e;exact st_ty h.sq
  | lstF h l=>cases e;exact sq_ty h.sq
  | lstO h l=>cases e;exact sq_ty (.inl (.inl h))
  | dkF _ h _ _=>cases e;exact .base (.dK h)
  | dtF=>cases e
  | dkO h _ _=>cases e;exact .base (.dK h)
  | dtO=>cases e
theorem cd_isi: CallD X (.builtin "isinstance") dIsi:=⟨_,call_isi,fun W H xs ds fs d Q x0 l e k=>by
  unfold dIsi at e;split at e
  · obtain⟨b,e1,e⟩:=Res.bind_eq e
    cases e
    have e1:=Res.of_eq e1
    rw[Option.bind_eq_some_iff] at e1
    obtain⟨kk,e2,e1⟩:=e1
    cases l with | cons r l=>cases l with | cons r' l =>
      cases l;cases r'
      exact⟨_,_,_,_,b,rfl,.ty _,ty_rep r e2,kit_ty e1,k _ W H [] (New.sc x0 .bl)⟩
  · cases e⟩
def insI(i:Int): List Int→List Int
  | []=>[i]
  | j::r=>if i≤j then i::j::r else j::insI i r
def sortI: List Int→List Int
  | []=>[]
  | i::r=>insI i (sortI r)
def toInts: List D→Option (List Int)
  | []=>some []
  | .int i::r=>(toInts r).map (i::·)
  | _::_=>none
theorem toInts_eq: ∀ {ds:List D} {ns:List Int},toInts ds=some ns→ds=ns.map .int
  | [],ns,e=>by cases e;rfl
  | .int i::r,ns,e=>by
    simp only[toInts,Option.map_eq_some_iff] at e
    obtain⟨ms,e1,rfl⟩:=e
    rw[toInts_eq e1];rfl
theorem repI{K:PySem.W.Frag}{W:Wd}{H:Hp}: ∀ {ns:List Int} {vs:List V} {g:List Addr},RepL K W H vs (ns.map .int) g→vs=ns.map .int∧g=[]
  | [],vs,g,l=>by cases l;exact⟨rfl,rfl⟩
  | n :: ns,vs,g,l=>by
    cases l with | cons r l =>
      cases r
      obtain⟨rfl,rfl⟩:=repI l
      exact⟨rfl,rfl⟩
theorem repIs{K:PySem.W.Frag}{W:Wd}{H:Hp}: ∀ ns:List Int,RepL K W H (ns.map .int) (ns.map .int) []
  | []=>.nil
  | n::ns=>RepL.cons (f:=[]) .int (repIs ns)
@[simp] def dSortI: List D→Res D
  | [.lst _ xs]=>(Res.of (toInts xs)).bind fun ns=>.ok (.lst true ((sortI ns).map .int))
  | _=>.fail
end
end E
namespace E
open PySem L2
section
variable {K:PySem.W.Frag} {CT:Nat→Addr} {W:Wd} {H:Hp} {σ:L2.St} {m:Mem} {fp fd:List Addr}
theorem RepL.set {vs:List V} {ds:List D} {v:V} {d:D} {f:List Addr} (r:RepD K W H v d f):∀ {g:List Addr},RepL K W H vs ds g→∀ j:Nat,∃ g' rest,RepL K W H (vs.set j v) (ds.set j d) g'∧(g'++rest).Perm (g++f):=by
  induction vs generalizing ds with
  | nil=>intro g l j;cases l;exact⟨[],f,.nil,by simp⟩
  | cons w vs ih=>intro g l j;cases l with
    | @cons _ d0 f0 _ ds g r0 l =>
      cases j with
      | zero =>
        refine⟨f++g,f0,.cons r l,?_⟩
        rw[List.perm_iff_count];intro a;simp only[List.count_append];omega
      | succ j =>
        obtain⟨g',rest,l',pm⟩:=ih l j
        refine⟨f0++g',rest,.cons r0 l',?_⟩
        rw[List.append_assoc,List.append_assoc]
        exact List.Perm.append_left f0 pm
theorem slot_mut{i:Nat}{xs:List D}(rel:Rel K CT W H σ m fp)(he:m.env[i]?=some (.lst true xs))(ndd:(fp++fd).Nodup)(ownd:Own W H fd):
    ∃ a vs fx,σ[i]?=some (some (.ref a))∧H a=some (.lst vs)∧RepL K W H vs xs fx∧(∀ b∈fx,b∈fp) ∧
      ∀ vs' xs' fx' rest,RepL K W H vs' xs' fx'→(fx'++rest).Perm (fx++fd)→∃ fp',PostT K CT W H σ (fp++fd) { m with env:=m.env.set i (.lst true xs') } W (upd H a (.lst vs')) fp'∧((fp'++rest).Perm (fp++fd)):=by
  obtain⟨f,g,rfl,h1,h2⟩:=rel.s
  obtain⟨v,A,f1,B,rfl,s,r,k⟩:=h1.at he (fun z=>by cases z)
  cases r with
  | @lstO a vs _ fx ha l =>
    refine⟨a,vs,fx,s,ha,l,fun b z=>by simp[z],fun vs' xs' fx' rest l' pm=>?_⟩
    have x:Ext W H W (upd H a (.lst vs')) [a]:=⟨fun _ h=>h,fun _ _ h=>h,fun b o h n=>by rw[upd_ne (fun z=>n (by simp[z]))];exact h,fun _ h=>.inl h,fun b h=>by
      by_cases e:b=a
      · subst e;rw[upd_same] at h;cases h
      · rw[upd_ne e] at h;exact h⟩
    have ha':a∈A++(a::fx)++B++g:=by simp
    have off:Off W [a]:=fun b z=>by rw[List.mem_singleton.mp z];exact(rel.own a ha').1
    have cnt:∀ b,(A++(a::fx')++B++g++rest).count b=(A++(a::fx)++B++g++fd).count b:=fun b=>by
      have:=pm.count_eq b
      simp only[List.count_append,List.count_cons] at this ⊢
      omega
    have pmT:(A++(a::fx')++B++g++rest).Perm (A++(a::fx)++B++g++fd):=List.perm_iff_count.mpr cnt
    have ndT:=pmT.nodup_iff.mpr ndd
    rw[List.nodup_append] at ndT
    have nd2:=ndT.1
    have once:∀ b∈A++B++g++fx',b ∉ [a]:=fun b z y=>by
      rw[List.mem_singleton.mp y] at z
      have c1:=List.nodup_iff_count.mp nd2 a
      have c2:=List.count_pos_iff.mpr z
      simp only[List.count_append,List.count_cons_self] at c1 c2
      omega
    have rp:RepD K W (upd H a (.lst vs')) (.ref a) (.lst true xs') (a::fx'):=.lstO upd_same (l'.ext x off fun b z=>once b (by simp[z]))
    have ks:=k (v':=.ref a) x off (fun b z=>once b (by simp only[List.mem_append] at z ⊢;exact .inl (.inl z))) rp
    rw[set_same s] at ks
    have memT:∀ b∈A++(a::fx')++B++g,b∈A++(a::fx)++B++g++fd:=fun b z=>pmT.mem_iff.mp (List.mem_append_left _ z)
    refine⟨A++(a::fx')++B++g,⟨⟨⟨_,g,rfl,ks,h2.ext x off fun b z=>once b (by simp[z])⟩,nd2,fun b z=>?_,fix_upd rel.fix⟩,x.sub fun b z=>by rw[List.mem_singleton.mp z];simp,fun b z=>.inl (memT b z)⟩,pmT⟩
    have ob:¬ W.F b∧H b≠none:=by
      rcases List.mem_append.mp (memT b z) with y | y
      · exact rel.own b y
      · exact ownd b y
    refine⟨ob.1,?_⟩
    by_cases e:b=a
    · subst e;rw[upd_same];exact fun z=>by cases z
    · rw[upd_ne e];exact ob.2
end
@[simp] def D.isL: D→Bool
  | .lst _ _=>true
  | _=>false
def mAppN(i:Nat)(a:M D): M D:=fun m=>(mqVar i m).bind fun d0=>Res.when d0.isL ((a m).bind fun r=>(mqVar i r.2).bind fun d=>match d with
  | .lst true xs=>Res.when (decide (xs.length<sizeLine)) (.ok (.non,{ r.2 with env:=r.2.env.set i (.lst true (xs++[r.1])) }))
  | _=>.fail)
def bSub(i:Nat)(q:MQ D): D→Mem→Res Mem:=fun d m=>(q m).bind fun k=>(mqVar i m).bind fun x=>match x,k with
  | .lst true xs,.int k=>(Res.of (ixN xs.length k)).bind fun j=>.ok { m with env:=m.env.set i (.lst true (xs.set j d)) }
  | _,_=>.fail
def sAug(i:Nat)(g:D→D→Res D)(e:M D): MS:=fun m=>(mqVar i m).bind fun d0=>Res.when d0.pure ((e m).bind fun r=>(g d0 r.1).bind fun d=>Res.when (d.pure&&decide (i<r.2.env.length)) (.ok (.nx,{ r.2 with env:=r.2.env.set i d })))
section
variable {X:Cx} {CT:Nat→Addr} {pin:List Nat} {e o:Expr} {es:List Expr} {i:Nat} {me:M D} {pos apos cpos:Pos} {q:MQ D} {g:D→D→Res D} {op:Operator}
theorem var_of{K:PySem.W.Frag}{W:Wd}{H:Hp}{σ:L2.St}{m:Mem}{fp:List Addr}{d:D}(rel:Rel K CT W H σ m fp)(e:mqVar i m=.ok d): ∃ v f,σ[i]?=some (some v)∧RepD K W H v d f∧∀ a∈f,a∈fp:=by
  obtain⟨q1,q2⟩:=mqVar_eq e
  obtain⟨f,g,rfl,h1,h2⟩:=rel.s
  obtain⟨v,A,f1,B,rfl,s,r,_⟩:=h1.at q1 q2
  exact⟨v,f1,s,r,fun a z=>by simp[z]⟩
theorem w_appN {X:Cx} {CT:Nat→Addr} {i:Nat} {me:M D}:∀ σ H Q,tM X.K CT (mAppN i me) σ H Q→tBM X.K "list" rAppend (tVar i) (tCons (tM X.K CT me) tNil) σ H Q:=fun σ H Q ⟨W,m,fp,d,m',rel,e,k⟩=>by
    obtain⟨d0,e0,e⟩:=Res.bind_eq e
    obtain⟨hL,e⟩:=Res.when_eq e
    obtain⟨⟨d1,m1⟩,e1,e⟩:=Res.bind_eq e
    obtain⟨d2,e2,e⟩:=Res.bind_eq e
    obtain⟨v,f,s,r,_⟩:=var_of rel e0
    refine⟨v,s,?_,W,m,fp,d1,m1,rel,e1,fun y W1 H1 fp1 fd p=>?_⟩
    · cases d0 <;> simp[D.isL] at hL
      obtain⟨a,vs,g,rfl,sq,_,_⟩:=r.lst
      exact .inl ⟨rfl,vs,sq⟩
    · dsimp only at e2 e
      split at e
      · rename_i xs
        obtain⟨hl,e⟩:=Res.when_eq e
        cases e
        obtain⟨a,vs,fx,s',ha,l,sb,kk⟩:=slot_mut p.rel (mqVar_eq e2).1 p.nd p.own
        rw[s] at s'
        cases s'
        obtain⟨fp',pt,_⟩:=kk (vs++[y]) (xs++[d1]) (fx++fd) [] (by
          have:=l.app (RepL.cons p.rep .nil)
          rw[List.append_nil] at this
          exact this) (by rw[List.append_nil])
        refine⟨a,vs,y,rfl,rfl,ha,by rw[l.length];exact of_decide_eq_true hl,k .non W1 _ fp' [] ?_⟩
        have s1:∀ b∈fp1++fd,b∈fp∨H b=none:=p.sub
        exact PostT.post ⟨pt.rel,p.ext.trans pt.ext s1,subT s1 pt.sub p.ext.there⟩ (Post.mk0 pt.rel .non)
      · cases e
theorem me_appN(ho:PE X o (tVar i))(ha:ME X CT e me)
    (hbase:attributeBase o "append" X.env (eval o X.env)=eval o X.env:=by rfl)
    (hfew:((backTo cpos (starEach [e] X.env)).all (fun x=>!x.1)&&(backToKw cpos (keywordEach [] X.env)).all (fun x=>x.1.isSome)
      && decide (([e]:List Expr).length+([]:List Keyword).length+(if ([]:List Keyword).isEmpty then 0 else 1)<30))=true:=by rfl)
    (hline:(apos.endLine==cpos.line)=true:=by rfl) (hs:starEach [e] X.env=(false,eval e X.env)::starEach [] X.env:=by rfl) (hplain:(backTo cpos (starEach [] X.env)).any (·.1)=false:=by rfl) :
    ME X CT (.Call (.Attribute o "append" apos) [e] [] cpos) (mAppN i me) :=
  pe_weak (pe_bm PySem.F.plainAttrs_list PySem.F.slot_list_append PySem.F.type_list_append mt_append ho (pa_cons ha pa_nil hs) hbase hfew hline hs hplain) w_appN
theorem mg_sub(ho:PE X o (tVar i))(hi:MEQ X CT e q)(ha:∀ v,assign (.Subscript o e pos) X.env v=(do
      let ov ← holding [v] (eval o X.env)
      let iv ← holding [v,ov] (eval e X.env)
      standAt pos
      holding [v,ov,iv] (setItem ov iv v)
      release [v,ov,iv] []):=by intro _;rfl):MG X CT pin (.Subscript o e pos) (bSub i q):=by
  refine⟨fun pins s σ H v u Q I r h=>(pg_sub ho hi set_list ha).run pins s σ H v u Q I r ?_⟩
  obtain⟨W,m,fp,d,fd,m',rel,rp,nd,own,e,k⟩:=h
  obtain⟨kd,e1,e⟩:=Res.bind_eq e
  obtain⟨xd,e2,e⟩:=Res.bind_eq e
  obtain⟨v0,f0,s0,r0,_⟩:=var_of rel e2
  refine⟨v0,s0,W,m,fp,kd,rel,e1,fun kv W1 H1 fk p=>?_⟩
  have rk:=p.rep
  split at e
  · obtain⟨j,e3,e⟩:=Res.bind_eq e
    cases e
    have e3:=Res.of_eq e3
    cases rk
    have rd:=rp.ext p.ext off_nil fun a _ z=>by cases z
    obtain⟨a,vs,fx,s',ha,l,sb,kk⟩:=slot_mut p.rel (mqVar_eq e2).1 nd (own.ext p.ext fun a _ z=>by cases z)
    rw[s0] at s'
    cases s'
    have hj:=(ixN_seq e3).2.1
    obtain⟨fx',rest,l',pm⟩:=l.set rd j
    obtain⟨fp',pt,_⟩:=kk _ _ fx' rest l' pm
    refine⟨a,vs,_,j,rfl,rfl,ha,by rw[l.length];exact e3,k σ W1 _ fp' ⟨pt.rel,(p.ext.sub fun a z=>by cases z).trans pt.ext fun a z=>.inl z,fun b z=>?_,fun _ _=>rfl,rfl⟩⟩
    rcases pt.sub b z with y | y
    · exact .inl y
    · exact .inr (p.ext.there b y)
  · cases e
end
end E
namespace E
open PySem L2 PySem.Spec PyProof.Rows
def D.defd: D→Bool
  | .und=>false
  | _=>true
@[simp] def outs(pin:List Nat): Nat→List D→List D→Res (List D)
  | _,[],_=>.ok []
  | j,d::ds,e::es=>if pin.contains j=true then Res.when e.defd ((outs pin (j+1) ds es).bind fun r=>.ok (e::r)) else Res.when d.pure ((outs pin (j+1) ds es).bind fun r=>.ok (d::r))
  | _,_::_,[]=>.fail
@[simp] def D.rtv: Fl→Res D
  | .nx=>.ok .non
  | .rt d=>.ok d
  | _=>.fail
def mDef(n N:Nat)(pin:List Nat)(body:MS): CallM:=fun ds hs=>Res.when (decide (ds.length=n)) ((body ⟨ds++List.replicate (N - n) .und,hs⟩).bind fun r=>(D.rtv r.1).bind fun d=>Res.when d.xc.isNone ((outs pin 0 ds r.2.env).bind fun ds'=>.ok (d,ds',r.2.hs)))
def mDefX(n N:Nat)(pin:List Nat)(body:MS): CallM:=fun ds hs=>Res.when (decide (ds.length=n)) ((body ⟨ds++List.replicate (N - n) .und,hs⟩).bind fun r=>(D.rtv r.1).bind fun d=>(outs pin 0 ds r.2.env).bind fun ds'=>.ok (d,ds',r.2.hs))
theorem mDefX_len{n N:Nat}{pin:List Nat}{body:MS}: ∀ ds hs o,mDefX n N pin body ds hs=.ok o→ds.length=n:=fun ds hs o h=>of_decide_eq_true (Res.when_eq h).1
theorem takesF{X:Cx}: Takes X (fun _ _ _ _=>False):=fun _ _ ⟨_,_,_,_,_,_,_,_,_,_,_,_,_,_,_,_,w⟩=>w.elim
theorem mDef_len{n N:Nat}{pin:List Nat}{body:MS}: ∀ ds hs o,mDef n N pin body ds hs=.ok o→ds.length=n:=fun ds hs o h=>of_decide_eq_true (Res.when_eq h).1
section
variable {K:PySem.W.Frag} {CT:Nat→Addr} {W W':Wd} {H H':Hp} {σ:L2.St}
theorem RepS.init: ∀ {vs:List V} {ds:List D} {g:List Addr},RepL K W H vs ds g→∀ k:Nat,RepS K W H (vs.map some++List.replicate k none) (ds++List.replicate k .und) g
  | _,_,_,.nil,k=>by
    show RepS K W H (List.replicate k none) (List.replicate k .und) []
    induction k with
    | zero=>exact .nil
    | succ k ih=>exact .und ih
  | _,_,_,.cons r l,k=>.cons r (RepS.init l k)
theorem outs_rep {pin:List Nat}:∀ {σ:L2.St} {es:List D} {f:List Addr},RepS K W' H' σ es f→∀ {vs:List V} {ds:List D} {j:Nat} {ds':List D},vs.length=ds.length→outs pin j ds es=.ok ds' →
    (∀ t v,vs[t]?=some v→pin.contains (j+t)=true→σ[t]?=some (some v))→(∀ t v d,vs[t]?=some v→ds[t]?=some d→pin.contains (j+t)=false→d.pure=true→RepD K W' H' v d [])→∃ g rest,RepL K W' H' vs ds' g∧(g++rest).Perm f:=by
  intro σ es f h
  induction h with
  | nil =>
    intro vs ds j ds' hl e hp hu
    cases ds with
    | nil =>
      cases vs with
      | nil=>cases e;exact⟨[],[],.nil,.refl _⟩
      | cons v vs=>cases hl
    | cons d ds=>cases e
  | @und x σ es g hs ih =>
    intro vs ds j ds' hl e hp hu
    cases ds with
    | nil =>
      cases vs with
      | nil=>cases e;exact⟨[],g,.nil,by simp⟩
      | cons v vs=>cases hl
    | cons d ds =>
      cases vs with
      | nil=>cases hl
      | cons v vs =>
        unfold outs at e
        split at e
        · obtain⟨z,_⟩:=Res.when_eq e
          cases z
        · rename_i hc
          obtain⟨pd,e⟩:=Res.when_eq e
          obtain⟨r,e1,e⟩:=Res.bind_eq e
          cases e
          obtain⟨g',rest,l,pm⟩:=ih (by simpa using hl) e1 (fun t v h1 h2=>by
            have:=hp (t+1) v (by simpa using h1) (by rw[show j+(t+1)=j+1+t by omega];exact h2)
            simpa using this) (fun t v d h1 h2 h3 h4=>hu (t+1) v d (by simpa using h1) (by simpa using h2) (by rw[show j+(t+1)=j+1+t by omega];exact h3) h4)
          have r0:=hu 0 v d rfl rfl (by simpa using hc) pd
          exact⟨g',rest,RepL.cons (f:=[]) r0 l,pm⟩
  | @cons w σ e0 es f0 g r hs ih =>
    intro vs ds j ds' hl e hp hu
    cases ds with
    | nil =>
      cases vs with
      | nil=>cases e;exact⟨[],f0++g,.nil,by simp⟩
      | cons v vs=>cases hl
    | cons d ds =>
      cases vs with
      | nil=>cases hl
      | cons v vs =>
        unfold outs at e
        split at e
        · rename_i hc
          obtain⟨_,e⟩:=Res.when_eq e
          obtain⟨r',e1,e⟩:=Res.bind_eq e
          cases e
          obtain⟨g',rest,l,pm⟩:=ih (by simpa using hl) e1 (fun t v h1 h2=>by
            have:=hp (t+1) v (by simpa using h1) (by rw[show j+(t+1)=j+1+t by omega];exact h2)
            simpa using this) (fun t v d h1 h2 h3 h4=>hu (t+1) v d (by simpa using h1) (by simpa using h2) (by rw[show j+(t+1)=j+1+t by omega];exact h3) h4)
          have e2:=hp 0 v rfl (by simpa using hc)
          have e3:w=v:=by simpa using e2
          subst e3
          refine⟨f0++g',rest,.cons r l,?_⟩
          rw[List.append_assoc]
          exact List.Perm.append_left f0 pm
        · rename_i hc
          obtain⟨pd,e⟩:=Res.when_eq e
          obtain⟨r',e1,e⟩:=Res.bind_eq e
          cases e
          obtain⟨g',rest,l,pm⟩:=ih (by simpa using hl) e1 (fun t v h1 h2=>by
            have:=hp (t+1) v (by simpa using h1) (by rw[show j+(t+1)=j+1+t by omega];exact h2)
            simpa using this) (fun t v d h1 h2 h3 h4=>hu (t+1) v d (by simpa using h1) (by simpa using h2) (by rw[show j+(t+1)=j+1+t by omega];exact h3) h4)
          have r0:=hu 0 v d rfl rfl (by simpa using hc) pd
          refine⟨g',f0++rest,RepL.cons (f:=[]) r0 l,?_⟩
          refine List.Perm.trans ?_ (List.Perm.append_left f0 pm)
          rw[← List.append_assoc,← List.append_assoc]
          exact List.Perm.append_right rest List.perm_append_comm
end
theorem body_ok0 {K:PySem.W.Frag} {CT:Nat→Addr} {N:List Str} {n:Nat} {pin:List Nat} {b:MS} {vs:List V} {H:Hp} {Q:VK} {wx:XK} (h:spM K CT n (mDefX n N.length pin b) vs H Q wx) (nx:∀ ds hs r,mDefX n N.length pin b ds hs=.ok r→r.1.xc=none) :
    tS K CT (fun _ _ _ _=>False) pin b { nx:=fun _ H'=>Q .non H',rt:=Q } (L2.start N vs) H:=by
  obtain⟨W,ds,hs,fd,fh,r,ds',hs',hn,l,k,nd,own,fix,e,q⟩:=h
  have nr:r.xc=none:=nx _ _ _ e
  obtain⟨_,e⟩:=Res.when_eq e
  obtain⟨⟨fl,m'⟩,e1,e⟩:=Res.bind_eq e
  obtain⟨d,e2,e⟩:=Res.bind_eq e
  obtain⟨ds1,e3,e⟩:=Res.bind_eq e
  cases e
  have hvl:vs.length=ds.length:=l.length
  have rs:=RepS.init l (N.length - n)
  have es:L2.start N vs=vs.map some++List.replicate (N.length - n) none:=by
    unfold L2.start;rw[hvl,hn]
  rw[es]
  have rel:Rel K CT W H (vs.map some++List.replicate (N.length - n) none) ⟨ds++List.replicate (N.length - n) .und,hs⟩ (fd++fh):=⟨⟨fd,fh,rfl,rs,k⟩,nd,own,fix⟩
  have fin:∀ v σ' W' H' fp' fr,PostR K CT pin W H (vs.map some++List.replicate (N.length - n) none) (fd++fh) v r m' σ' W' H' fp' fr→Q v H':=fun v σ' W' H' fp' fr p=>by
    obtain⟨f,g,rfl,h1,h2⟩:=p.rel.s
    have off:=rel.off
    obtain⟨g1,rest,l1,pm⟩:=outs_rep h1 hvl e3 (fun t v ht hc=>by
        have hlt:t<(vs.map some).length:=by simpa using (List.getElem?_eq_some_iff.mp ht).1
        rw[Nat.zero_add] at hc
        rw[p.pin t (by simpa using hc),List.getElem?_append_left hlt,List.getElem?_map,ht]
        rfl) (fun t v d ht hd _ pd=>by
        obtain⟨v',f',hv,rd,_⟩:=l.get hd
        rw[ht] at hv
        cases hv
        obtain rfl:=rd.pure pd
        exact rd.ext p.ext off fun a z=>by cases z)
    have pm2:((g1++g)++fr++rest).Perm ((f++g)++fr):=by
      rw[List.perm_iff_count];intro a
      have:=pm.count_eq a
      simp only[List.count_append] at this ⊢;omega
    have nd2:=pm2.nodup_iff.mpr p.nd
    rw[List.nodup_append] at nd2
    have mem:∀ a∈(g1++g)++fr,a∈(f++g)++fr:=fun a z=>pm2.mem_iff.mp (List.mem_append_left _ z)
    refine q v W' H' g1 g fr l1 h2 p.rep nd2.1 (fun a z=>?_) p.rel.fix p.ext fun a z=>p.sub a (mem a z)
    rcases List.mem_append.mp (mem a z) with y | y
    · exact p.rel.own a y
    · exact p.own a y
  refine⟨W,_,fd++fh,fl,m',rel,e1,?_⟩
  cases fl with
  | nx =>
    cases e2
    exact fun σ' W' H' fp' p=>fin .non σ' W' H' fp' [] (p.r0 .non)
  | rt d =>
    cases e2
    exact⟨fun v σ' W' H' fp' fr p=>fin v σ' W' H' fp' fr p,fun x ex=>by rw[nr] at ex;cases ex⟩
  | bk=>cases e2
  | ct=>cases e2
theorem mDef_X{n N:Nat}{pin:List Nat}{b:MS}{ds:List D}{hs:List Ob}{o:D×List D×List Ob}(h:mDef n N pin b ds hs=.ok o): mDefX n N pin b ds hs=.ok o∧o.1.xc=none:=by
  obtain⟨h1,h⟩:=Res.when_eq h
  obtain⟨⟨fl,m'⟩,e1,h⟩:=Res.bind_eq h
  obtain⟨d,e2,h⟩:=Res.bind_eq h
  obtain⟨h3,h⟩:=Res.when_eq h
  obtain⟨ds1,e3,h⟩:=Res.bind_eq h
  cases h
  refine⟨?_,Option.isNone_iff_eq_none.mp h3⟩
  unfold mDefX
  rw[h1,e1]
  show(Res.when true ((D.rtv fl).bind _))=_
  rw[e2]
  show Res.bind (outs pin 0 ds m'.env) _=_
  rw[e3]
  rfl
def keepB(p:Fl→Bool)(b:MS): MS:=fun m=>(b m).bind fun o=>Res.when (p o.1) (.ok o)
def Fl.nox: Fl→Bool
  | .rt d=>d.xc.isNone
  | _=>true
theorem mDefX_keep{n N:Nat}{pin:List Nat}{b:MS}{ds:List D}{hs:List Ob}{o:D×List D×List Ob}(h:mDefX n N pin b ds hs=.ok o)(q:o.1.xc=none): mDefX n N pin (keepB Fl.nox b) ds hs=.ok o:=by
  obtain⟨h1,h⟩:=Res.when_eq h
  obtain⟨⟨fl,m'⟩,e1,h⟩:=Res.bind_eq h
  obtain⟨d,e2,h⟩:=Res.bind_eq h
  obtain⟨ds1,e3,h⟩:=Res.bind_eq h
  cases h
  have pf:fl.nox=true:=by
    cases fl with
    | rt d'=>cases e2;exact Option.isNone_iff_eq_none.mpr q
    | _=>rfl
  unfold mDefX keepB
  rw[h1,e1]
  show(Res.when true (((Res.when fl.nox (Res.ok (fl,m')))).bind _))=_
  rw[pf]
  show(D.rtv fl).bind _=_
  rw[e2]
  show Res.bind (outs pin 0 ds m'.env) _=_
  rw[e3]
  rfl
theorem keepB_eq{p:Fl→Bool}{b:MS}{m:Mem}{o:Fl×Mem}(h:keepB p b m=.ok o): b m=.ok o∧p o.1=true:=by
  obtain⟨o',e,h⟩:=Res.bind_eq h
  obtain⟨h1,h⟩:=Res.when_eq h
  cases h
  exact⟨e,h1⟩
theorem mDefX_nox{n N:Nat}{pin:List Nat}{b:MS}: ∀ ds hs r,mDefX n N pin (keepB Fl.nox b) ds hs=.ok r→r.1.xc=none:=fun ds hs o h=>by
  obtain⟨h1,h⟩:=Res.when_eq h
  obtain⟨⟨fl,m'⟩,e1,h⟩:=Res.bind_eq h
  obtain⟨d,e2,h⟩:=Res.bind_eq h
  obtain⟨ds1,e3,h⟩:=Res.bind_eq h
  cases h
  have:=(keepB_eq e1).2
  cases fl with
  | rt d'=>cases e2;exact Option.isNone_iff_eq_none.mp this
  | nx=>cases e2;rfl
  | bk=>cases e2
  | ct=>cases e2
theorem body_okN{K:PySem.W.Frag}{CT:Nat→Addr}{N:List Str}{n:Nat}{pin:List Nat}{b:MS}{vs:List V}{H:Hp}{Q:VK}{wx:XK}{Wx:WX}(h:spM K CT n (mDefX n N.length pin (keepB Fl.nox b)) vs H Q wx):
    tS K CT Wx pin b { nx:=fun _ H'=>Q .non H',rt:=Q } (L2.start N vs) H:=by
  obtain⟨W,m,fp,fl,m',rel,e,k⟩:=body_ok0 h mDefX_nox
  obtain⟨e,p⟩:=keepB_eq e
  refine⟨W,m,fp,fl,m',rel,e,?_⟩
  cases fl with
  | nx=>exact k
  | bk=>exact k
  | ct=>exact k
  | rt d=>exact⟨k.1,fun x ex=>by rw[Option.isNone_iff_eq_none.mp (show d.xc.isNone=true from p)] at ex;cases ex⟩
theorem body_ok{K:PySem.W.Frag}{CT:Nat→Addr}{N:List Str}{n:Nat}{pin:List Nat}{b:MS}{vs:List V}{H:Hp}{Q:VK}{wx:XK}{Wx:WX}(h:spM K CT n (mDef n N.length pin b) vs H Q wx):
    tS K CT Wx pin b { nx:=fun _ H'=>Q .non H',rt:=Q } (L2.start N vs) H:=by
  obtain⟨W,ds,hs,fd,fh,r,ds',hs',hn,l,k,nd,own,fix,e,q⟩:=h
  obtain⟨e1,e2⟩:=mDef_X e
  exact body_okN (wx:=wx) ⟨W,ds,hs,fd,fh,r,ds',hs',hn,l,k,nd,own,fix,mDefX_keep e1 e2,q⟩
section
variable {P:Program} {w:World} {K:PySem.W.Frag} {mg:Str→Option Value} {base:Heap} {CT:Nat→Addr}
theorem fun_ok{x qual:Str}{st:Stmt}{f:Addr}{fd:FuncData}{N ps:List Str}{k:Nat}{pin:List Nat}{b:MS}(F:Fun K x qual st f fd)(S:FnScope N ps (defScope st))
    (hbody:∀ (cdv:Value) (A:Around) (outer:List Env) (s:Shared) (H:Hp) (wx:XK),Room k (A.deeper (envOfC qual (defScope st) s.heap.objs.size f cdv))→MSs (cxOf CX0 P w K mg base N qual (defScope st) f cdv A outer s H wx).nox CT pin (defBody st) b) :
    FnOk P w K mg base CX0 (k+1) f fd ps (spM K CT ps.length (mDef ps.length N.length pin b)) :=
  F.ok S (fun vs H Q E h=>spM_len h) fun cdv A outer s H vs Q E hr h=>⟨_,hbody cdv A outer s H E hr _ takesF,body_ok h⟩
end
inductive KD (K:PySem.W.Frag):Value→D→Prop
  | non:KD K .none .non
  | bl {b}:KD K (.bool b) (.bl b)
  | int {i t}:KD K (.int i t) (.int i)
  | str {x t}:KD K (.str x t) (.str x)
  | ty {n}:KD K (.type n) (.ty n)
  | fn {n:String} {a}:PySem.W.nsIn K mainGlobals (Str.ofString n)=some (some (.ref a))→KD K (.ref a) (.fn n)
theorem kd_rep{K:PySem.W.Frag}{u:Value}{d:D}(h:KD K u d): ∃ v,RelV v u∧∀ W H,RepD K W H v d []:=by
  cases h with
  | non=>exact⟨.non,rfl,fun _ _=>.non⟩
  | bl=>exact⟨.bl _,rfl,fun _ _=>.bl⟩
  | int=>exact⟨.int _,⟨_,rfl⟩,fun _ _=>.int⟩
  | str=>exact⟨.str _,⟨_,rfl⟩,fun _ _=>.str⟩
  | ty=>exact⟨.ty _,rfl,fun _ _=>.ty⟩
  | fn h=>exact⟨.ref _,rfl,fun _ _=>.fn h⟩
section
variable {X:Cx} {CT:Nat→Addr} {pos:Pos}
theorem meq_glob{x:Str}{d:D}{u:Value}(hg:Gl X x)(hm:X.mg x=some u)(h:KD X.K u d)(hd:(x==("__debug__":Str))=false:=by decide): MEQ X CT (.Name x pos) (mqC d):=by
  obtain⟨v,r,rp⟩:=kd_rep h
  exact meq_c (pe_glob hg hm r hd) rp
theorem meq_ty{x:Str}{n:String}(hg:Gl X x)(hm:X.mg x=none)(hv:bootBuiltins x=some (.type n))(hn:x≠"__name__":=by decide)(hd:(x==("__debug__":Str))=false:=by decide): MEQ X CT (.Name x pos) (mqC (.ty n)) :=
  meq_c (pe_bltn hg hm hv (v:=.ty n) rfl hn hd) fun _ _=>.ty
end
end E
namespace E
open PySem L2 PySem.Spec PyProof.Rows
section
variable {X:Cx} {CT:Nat→Addr} {pin:List Nat} {e o a b:Expr} {es:List Expr} {i j:Nat} {me:M D} {pos apos cpos:Pos} {q:MQ D} {g:D→D→Res D} {op:Operator} {bb:D→Mem→Res Mem} {bs:List D→Mem→Res Mem}
theorem mst_set{x:Str}{pos':Pos}(hN:X.N.Nodup)(hi:X.N[i]?=some x)(hx:Loc X.env.scope x)(hp:i ∉ pin)(he:ME X CT e me)(hs:swapsWith e (some (.Name x pos')) pos.line X.env=pure false:=by rfl)(hf:X.fn x=true∨X.env.scope.names.lookup x=some .local:=by first | exact .inl rfl | exact .inr rfl | assumption):
    MSt X CT pin (.Assign [.Name x pos'] e pos) (sAsg me (bName i)):=fun Wx tk=>ps_weak (ps_set hN hi hx he hs hf) fun D σ H ⟨W,m,fp,fl,m',rel,e,k⟩=>by
  obtain⟨⟨d,m1⟩,e1,e⟩:=Res.bind_eq e
  obtain⟨m2,e2,e⟩:=Res.bind_eq e
  cases e
  refine⟨W,m,fp,d,m1,rel,e1,fun v W1 H1 fp1 fd p=>?_⟩
  exact bName_rep hp p.rel p.rep p.nd p.own e2 fun σ' W' H' fp' q=>k σ' W' H' fp' ⟨q.rel,p.ext.trans q.ext p.sub,subT p.sub q.sub p.ext.there,q.pin,q.len⟩
def mMv(i:Nat): M D:=fun m=>(mqVar i m).bind fun d=>if d.pure=true then .ok (d,m) else .ok (d,{ m with env:=m.env.set i .und })
theorem me_mv{i:Nat}(h:PE X e (tVar i)): ME X CT e (mMv i):=pe_weak h fun σ H Q ⟨W,m,fp,d,m',rel,e,k⟩=>by
  obtain⟨d1,e1,e2⟩:=Res.bind_eq e
  obtain⟨e3,nu⟩:=mqVar_eq e1
  obtain⟨f,g,rfl,h1,h2⟩:=rel.s
  by_cases p:d1.pure=true
  · rw[if_pos p] at e2
    cases e2
    obtain⟨v,A,f1,B,rfl,s,r,kk⟩:=h1.at e3 nu
    obtain rfl:=r.pure p
    exact⟨v,s,k v W H _ [] (Post.mk0 rel r)⟩
  · rw[if_neg p] at e2
    cases e2
    obtain⟨v,f1,f',pm,s,r,kk⟩:=h1.take e3 nu
    have pm2:((f'++g)++f1).Perm (f++g):=by
      rw[List.perm_iff_count];intro a
      have:=pm.count_eq a
      simp only[List.count_append] at this ⊢;omega
    have nd:=pm2.nodup_iff.mpr rel.nd
    have mem:∀ a∈(f'++g)++f1,a∈f++g:=fun a z=>pm2.mem_iff.mp z
    have own:Own W H ((f'++g)++f1):=fun a z=>rel.own a (mem a z)
    have nd':=nd
    rw[List.nodup_append] at nd'
    exact⟨v,s,k v W H (f'++g) f1 ⟨⟨⟨f',g,rfl,kk,h2⟩,nd'.1,(Own.app.mp own).1,rel.fix⟩,r,nd,(Own.app.mp own).2,Ext.refl _ _ _,fun a z=>.inl (mem a z)⟩⟩
theorem ipd_add: OpD X (inplaceOp .Add) dAddI:=by
  refine⟨_,ip_add,fun W H x y d1 d2 f1 f2 d Q x0 a b e q=>?_⟩
  unfold dAddI at e;split at e
  · cases e;cases a;cases b
    exact⟨_,_,rfl,rfl,q _ W H [] (New.sc x0 .int)⟩
  · cases e
theorem mst_aug{x:Str}{pos':Pos}(ho:OpD X (inplaceOp op) g)(hN:X.N.Nodup)(hi:X.N[i]?=some x)(hx:Loc X.env.scope x)(hp:i ∉ pin)(he:ME X CT e me)(hf:X.fn x=true∨X.env.scope.names.lookup x=some .local:=by first | exact .inl rfl | exact .inr rfl | assumption):
    MSt X CT pin (.AugAssign (.Name x pos') op e pos) (sAug i g me):=by
  obtain⟨r,hr,kr⟩:=ho
  refine fun Wx tk=>ps_weak (ps_aug hN hi hx he hr hf) fun D σ H ⟨W,m,fp,fl,m',rel,e,k⟩=>?_
  obtain⟨d0,e0,e⟩:=Res.bind_eq e
  obtain⟨pd,e⟩:=Res.when_eq e
  obtain⟨⟨d1,m1⟩,e1,e⟩:=Res.bind_eq e
  obtain⟨d2,e2,e⟩:=Res.bind_eq e
  obtain⟨hl,e⟩:=Res.when_eq e
  cases e
  rw[Bool.and_eq_true] at hl
  obtain⟨v,f,s,rv,_⟩:=var_of rel e0
  obtain rfl:=rv.pure pd
  refine⟨v,s,W,m,fp,d1,m1,rel,e1,fun y W1 H1 fp1 fd p=>?_⟩
  refine kr W1 H1 v y d0 d1 [] fd d2 _ p.rel.fix (rv.ext p.ext rel.off fun a z=>by cases z) p.rep e2 fun z W2 H2 fz n=>?_
  have:=n.rep.pure hl.1
  subst this
  have r2:Rel X.K CT W2 H2 σ m1 fp1:=p.rel.ext n.ext off_nil (fun a _ z=>by cases z) n.ι n.fix
  refine bName_rep (fd:=[]) hp r2 n.rep (by rw[List.append_nil];exact r2.nd) Own.nil (by unfold bName;rw[hl.2];rfl) fun σ' W' H' fp' q=>k σ' W' H' fp' ?_
  have q1:=q.ext
  rw[List.append_nil] at q1
  have q2:∀ a∈fp',a∈fp1∨H2 a=none:=fun a z=>by
    have:=q.sub a z
    rw[List.append_nil] at this
    exact this
  have x12:Ext W H W2 H2 fp:=p.ext.trans n.ext fun a z=>by cases z
  have s1:∀ a∈fp1,a∈fp∨H a=none:=fun a z=>p.sub a (List.mem_append_left _ z)
  exact⟨q.rel,x12.trans q1 s1,fun a z=>(q2 a z).elim (s1 a) fun y=>.inr (x12.there a y),q.pin,q.len⟩
def bTL(n:Nat)(bs:List D→Mem→Res Mem): D→Mem→Res Mem
  | .tup ds,m=>Res.when (decide (ds.length=n)) (bs ds m)
  | .lst _ ds,m=>Res.when (decide (ds.length=n)&&pureL ds) (bs ds m)
  | _,_=>.fail
theorem mg_tl{k n:Nat}(hc:X.calm=true)(h:MGs X CT pin es bs)(hn:(assignEach es X.env).length=n:=by rfl)(hst:(assignEach es X.env).findIdx? (·.1)=none:=by rfl): MG X CT pin (.Tuple es k pos) (bTL n bs):=by
  have h1:MG X CT pin (.Tuple es k pos) (bTup n bs):=mg_tup hc h hn hst
  have h2:MG X CT pin (.Tuple es k pos) (bLst n bs):=mg_lst hc h hn hst
  refine⟨fun pins s σ H v u Q I r h0=>?_⟩
  obtain⟨W,m,fp,d,fd,m',rel,rp,nd,own,e,kk⟩:=h0
  cases d with
  | tup ds=>exact h1.run pins s σ H v u Q I r ⟨W,m,fp,_,fd,m',rel,rp,nd,own,e,kk⟩
  | lst o ds=>exact h2.run pins s σ H v u Q I r ⟨W,m,fp,_,fd,m',rel,rp,nd,own,e,kk⟩
  | _=>cases e
def sPar(i j:Nat)(a:M (List Arg)): MS:=fun m=>(a m).bind fun r=>(vals r.1).bind fun ds=>match ds with
  | [d1,d2]=>(bName i d1 r.2).bind fun m1=>(bName j d2 m1).bind fun m2=>.ok (.nx,m2)
  | _=>.fail
end
end E
namespace E
open PySem L2 PySem.Spec PyProof.Rows
def eqP(a b:D): Bool:=match a.toPy,b.toPy with
  | some p,some q=>PyData.eqv p q
  | _,_=>false
def memD(a:D)(ds:List D): Bool:=ds.any fun z=>eqP z a
def inOk(a:D)(ds:List D): Bool:=match a.toPy,toPyL ds with
  | some p,some ps=>shp p&&PyData.plainAll ps
  | _,_=>false
@[simp] def dIn(a:D): D→Res D
  | .lst _ ds=>Res.when (inOk a ds) (.ok (.bl (memD a ds)))
  | .tup ds=>Res.when (inOk a ds) (.ok (.bl (memD a ds)))
  | .str z=>match a with
    | .str c=>match c.cps.toList with
      | [n]=>.ok (.bl (decide (n∈z.cps.toList)))
      | _=>.fail
    | _=>.fail
  | .dic _ false dd=>(Res.of (toKey a)).bind fun q=>.ok (.bl (valD dd q).isSome)
  | _=>.fail
@[simp] def dNotIn(a:D): D→Res D
  | .lst _ ds=>Res.when (inOk a ds) (.ok (.bl (!memD a ds)))
  | .tup ds=>Res.when (inOk a ds) (.ok (.bl (!memD a ds)))
  | .str z=>match a with
    | .str c=>match c.cps.toList with
      | [n]=>.ok (.bl (!decide (n∈z.cps.toList)))
      | _=>.fail
    | _=>.fail
  | .dic _ false dd=>(Res.of (toKey a)).bind fun q=>.ok (.bl (!(valD dd q).isSome))
  | _=>.fail
theorem any_py{a:D}{p:PyData}(ha:a.toPy=some p): ∀ {ds:List D} {ps:List PyData},toPyL ds=some ps→(ps.any fun z=>PyData.eqv z p)=ds.any fun z=>eqP z a
  | [],ps,e=>by cases e;rfl
  | d :: ds,ps,e=>by
    unfold toPyL at e
    split at e
    · rename_i q qs e1 e2
      cases e
      rw[List.any_cons,List.any_cons,any_py ha e2]
      congr 1
      unfold eqP
      rw[e1,ha]
    · cases e
theorem inOk_eq{a:D}{ds:List D}(h:inOk a ds=true): ∃ p ps,a.toPy=some p∧toPyL ds=some ps∧p.plain=true∧p.depth≤64∧PyData.plainAll ps=true:=by
  unfold inOk at h
  split at h
  · rename_i p ps e1 e2
    rw[Bool.and_eq_true] at h
    exact⟨p,ps,e1,e2,(shp_of h.1).1,(shp_of h.1).2,h.2⟩
  · cases h
section
variable {X:Cx}
def rInP(K:PySem.W.Frag)(neg:Bool): R2:=fun x y H Q=>∃ d ds,Dp K H x d∧(Dp K H y (.list ds)∨Dp K H y (.tuple ds))∧d.plain=true∧d.depth≤64∧PyData.plainAll ds=true∧Q (.bl (neg != (ds.any fun z=>PyData.eqv z d))) H
theorem op_inP(hu:X.A.units+65<cLine): OpR X (compareOp .In) (rInP X.K false):=by
  intro pins s σ H x y v u Q I rx ry h
  obtain⟨d,ds,hd,he,sd,s2,se,q⟩:=h
  obtain⟨as,r1⟩:=Dp.reads I d x v hd rx
  have q':Q (.bl (ds.any fun z=>PyData.eqv z d)) H:=by simpa using q
  rcases he with he | he
  · obtain⟨bs,r2⟩:=Dp.reads I (.list ds) y u he ry
    exact SeqAt.in_list_data r2 r1 se sd (by omega) ⟨.bl _,H,I,rfl,q'⟩
  · obtain⟨bs,r2⟩:=Dp.reads I (.tuple ds) y u he ry
    exact SeqAt.in_tuple_data r2 r1 se sd (by omega) ⟨.bl _,H,I,rfl,q'⟩
def rInD: R2:=fun x y H Q=>∃ a o,y=.ref a∧DGet H a x o∧Q (.bl o.isSome) H
theorem op_inD(hu:X.A.units+65<cLine): OpR X (compareOp .In) rInD:=by
  intro pins s σ H x y v u Q I rx ry h
  obtain⟨a,o,rfl,g,q⟩:=h
  obtain rfl:u=Value.ref a:=ry
  exact d_in (by omega) I g rx fun s3 I3=>⟨.bl o.isSome,H,I3,rfl,q⟩
theorem od_in (hu:X.A.units+65<cLine):OpD X (compareOp .In) dIn:=by
  refine⟨_,OpR.or (op_inP hu) (OpR.or op_in_sign (op_inD hu)),fun W H x y d1 d2 f1 f2 d Q x0 a b e q=>?_⟩
  cases d2 with
  | lst o ds =>
    obtain⟨h,e⟩:=Res.when_eq e
    cases e
    obtain⟨p,ps,e1,e2,h1,h2,h3⟩:=inOk_eq h
    refine .inl ⟨p,ps,a.dp e1,.inl (b.dp (by rw[D.toPy,e2];rfl)),h1,h2,h3,?_⟩
    rw[any_py e1 e2]
    have e3:(false != memD d1 ds)=memD d1 ds:=by cases memD d1 ds <;> rfl
    show Q (.bl (false != memD d1 ds)) H
    rw[e3]
    exact q _ W H [] (New.sc x0 .bl)
  | tup ds =>
    obtain⟨h,e⟩:=Res.when_eq e
    cases e
    obtain⟨p,ps,e1,e2,h1,h2,h3⟩:=inOk_eq h
    refine .inl ⟨p,ps,a.dp e1,.inr (b.dp (by rw[D.toPy,e2];rfl)),h1,h2,h3,?_⟩
    rw[any_py e1 e2]
    have e3:(false != memD d1 ds)=memD d1 ds:=by cases memD d1 ds <;> rfl
    show Q (.bl (false != memD d1 ds)) H
    rw[e3]
    exact q _ W H [] (New.sc x0 .bl)
  | str z =>
    cases b
    cases d1 with
    | str c =>
      cases a
      unfold dIn at e
      dsimp only at e
      split at e
      · rename_i n en
        cases e
        have:c=⟨#[n]⟩:=by
          cases c with
          | mk l=>cases l with
            | mk l=>simp at en;subst en;rfl
        subst this
        exact .inr (.inl ⟨n,z,rfl,rfl,q _ W H [] (New.sc x0 .bl)⟩)
      · cases e
    | _=>cases e
  | dic o t dd =>
    cases t with
    | true=>cases e
    | false =>
      obtain⟨k,e1,e⟩:=Res.bind_eq (show((Res.of (toKey d1)).bind fun q=>Res.ok (D.bl ((valD dd q).isSome)))=_ from e)
      cases e
      obtain⟨p,rfl,g⟩:=dget_rep b a (Res.of_eq e1)
      rcases g with ⟨n,g⟩ | ⟨d',v,f',n,g,_⟩
      · rw[n] at q
        exact .inr (.inr ⟨p,none,rfl,g,q _ W H [] (New.sc x0 .bl)⟩)
      · rw[n] at q
        exact .inr (.inr ⟨p,some v,rfl,g,q _ W H [] (New.sc x0 .bl)⟩)
  | _=>cases e
theorem room65{k:Nat}{A:Around}(r:Room k A): A.units+65<cLine:=by have:=r.un;omega
end
def mqChain(g g':D→D→Res D)(qa qb qc:MQ D): MQ D:=fun m=>(qa m).bind fun d1=>(qb m).bind fun d2=>(g d1 d2).bind fun r=>r.isB.bind fun c=>if c=true then (qc m).bind fun d3=>(g' d2 d3).bind fun d=>Res.when d.pure (.ok d) else .ok (.bl false)
section
variable {X:Cx} {CT:Nat→Addr} {a b c:Expr} {pos p0:Pos} {op op':CmpOp} {g g':D→D→Res D} {qa qb qc:MQ D} {ml:M (List Arg)}
theorem New.rel{K:PySem.W.Frag}{W W':Wd}{H H':Hp}{v:V}{d:D}{fd fp:List Addr}{σ:L2.St}{m:Mem}(n:New K W H v d W' H' fd)(r:Rel K CT W H σ m fp): Rel K CT W' H' σ m fp :=
  r.ext n.ext off_nil (fun a _ z=>by cases z) n.ι n.fix
theorem chain_tr{r r':R2}(k:∀ W H x y d1 d2 f1 f2 d Q,Fix W H→RepD X.K W H x d1 f1→RepD X.K W H y d2 f2→g d1 d2=.ok d→(∀ v W' H' fd,New X.K W H v d W' H' fd→Q v H')→r x y H Q)
    (k':∀ W H x y d1 d2 f1 f2 d Q,Fix W H→RepD X.K W H x d1 f1→RepD X.K W H y d2 f2→g' d1 d2=.ok d→(∀ v W' H' fd,New X.K W H v d W' H' fd→Q v H')→r' x y H Q) :
    ∀ σ H Q,tQ X.K CT (mqChain g g' qa qb qc) σ H Q→tChain r r' (tQ X.K CT qa) (tQ X.K CT qb) (tQ X.K CT qc) σ H Q:=fun σ H Q ⟨W,m,fp,d,rel,e,q⟩=>by
  obtain⟨d1,e1,e⟩:=Res.bind_eq e
  obtain⟨d2,e2,e⟩:=Res.bind_eq e
  obtain⟨d3,e3,e⟩:=Res.bind_eq e
  obtain⟨cc,e4,e⟩:=Res.bind_eq e
  refine⟨W,m,fp,d1,rel,e1,fun v1 W1 H1 fd1 P1=>⟨W1,m,fp,d2,P1.rel,e2,fun v2 W2 H2 fd2 P2=>?_⟩⟩
  have x12:Ext W H W2 H2 []:=P1.ext.trans P2.ext fun a z=>by cases z
  refine k W2 H2 v1 v2 d1 d2 fd1 fd2 d3 _ P2.rel.fix (P1.rep.ext P2.ext off_nil fun a _ z=>by cases z) P2.rep e3 fun v W3 H3 fd n=>⟨cc,isB_rep n.rep e4,?_⟩
  have x13:Ext W H W3 H3 []:=x12.trans n.ext fun a z=>by cases z
  cases cc with
  | false =>
    cases e
    refine iteF (q _ W3 H3 [] ⟨n.rel P2.rel,.bl,x13,fun a z=>by cases z⟩)
  | true =>
    refine iteT ?_
    rw[if_pos rfl] at e
    obtain⟨d4,e5,e⟩:=Res.bind_eq e
    obtain⟨d5,e6,e⟩:=Res.bind_eq e
    obtain⟨pd,e⟩:=Res.when_eq e
    cases e
    refine⟨W3,m,fp,d4,n.rel P2.rel,e5,fun v4 W4 H4 fd4 P4=>?_⟩
    have r2:=(P2.rep.ext n.ext off_nil fun a _ z=>by cases z).ext P4.ext off_nil fun a _ z=>by cases z
    exact k' W4 H4 v2 v4 d2 d4 fd2 fd4 d _ P4.rel.fix r2 P4.rep e6 fun v W' H' fd n'=>q v W' H' [] (n'.postQ pd P4.rel (x13.trans P4.ext fun a z=>by cases z))
theorem meq_chain(o:OpD X (compareOp op) g)(o':OpD X (compareOp op') g')(ha:MEQ X CT a qa)(hb:MEQ X CT b qb)(hc:MEQ X CT c qc)(hm:lastMarks [op,op'] [b,c]=false:=by with_unfolding_all rfl): MEQ X CT (.Compare a [op,op'] [b,c] pos) (mqChain g g' qa qb qc):=by
  obtain⟨r,h,k⟩:=o
  obtain⟨r',h',k'⟩:=o'
  exact pe_weak (pe_chain h h' ha hb hc hm) (chain_tr k k')
theorem mt_chain(o:OpD X (compareOp op) g)(o':OpD X (compareOp op') g')(ha:MEQ X CT a qa)(hb:MEQ X CT b qb)(hc:MEQ X CT c qc)(hm:lastMarks [op,op'] [b,c]=false:=by with_unfolding_all rfl): MT X CT (.Compare a [op,op'] [b,c] pos) (mtB (mP (mqChain g g' qa qb qc))):=by
  obtain⟨r,h,k⟩:=o
  obtain⟨r',h',k'⟩:=o'
  refine pt_weak (pt_chain h h' ha hb hc hm) fun σ H Q ⟨W,m,fp,cc,m',rel,e,q⟩=>?_
  obtain⟨⟨d,m1⟩,e1,e⟩:=Res.bind_eq e
  obtain⟨c',e2,e⟩:=Res.bind_eq e
  cases e
  obtain⟨d',e3,e1⟩:=Res.bind_eq e1
  obtain⟨pd,e1⟩:=Res.when_eq e1
  cases e1
  refine chain_tr k k' σ H _ ⟨W,m,fp,d,rel,e3,fun v W' H' fd p=>⟨cc,isB_rep p.rep e2,q W' H' fp ⟨p.rel,p.ext.sub (fun a z=>by cases z),fun a z=>.inl z⟩⟩⟩
noncomputable def mLstRg(me:M D): M D:=fun m=>(me m).bind fun r=>match r.1 with
  | .int j=>Res.when (cdec (0≤j∧j≤16777216)) (.ok (.lst true (rangeD 0 j.toNat),r.2))
  | _=>.fail
end
end E
namespace E
open PySem L2 PySem.Spec PyProof.Rows
def setF(f:String)(d:D): List (String×D)→List (String×D)
  | []=>[(f,d)]
  | (g,x)::r=>if g=f then (g,d)::r else (g,x)::setF f d r
def lookF(f:String): List (String×D)→Option D
  | []=>none
  | (g,x)::r=>if g=f then some x else lookF f r
section
variable {K:PySem.W.Frag} {CT:Nat→Addr} {W W':Wd} {H H':Hp} {σ:L2.St} {m:Mem} {fp fd:List Addr}
theorem RepH.at {ι:List Addr} {hs:List Ob} {g:List Addr} (h:RepH K CT W H ι hs g):∀ {n:Nat} {ob:Ob},hs[n]?=some ob→ob.cls<BOXC →
    ∃ a dx fvs A f B,g=A++(a::f)++B∧ι[n]?=some a∧H a=some (.ins (CT ob.cls) dx fvs)∧fvs.map (·.1)=ob.fs.map (fun p=>Str.ofString p.1)∧RepL K W H (fvs.map (·.2)) (ob.fs.map (·.2)) f ∧
      ∀ {W':Wd} {H':Hp} {fq:List Addr} {fvs' fs' f'},Ext W H W' H' fq→Off W fq→(∀ b∈A++B,b ∉ fq)→H' a=some (.ins (CT ob.cls) dx fvs')→fvs'.map (·.1)=fs'.map (fun p=>Str.ofString p.1)→RepL K W' H' (fvs'.map (·.2)) (fs'.map (·.2)) f' →
        RepH K CT W' H' ι (hs.set n ⟨ob.cls,fs'⟩) (A++(a::f')++B):=by
  induction h with
  | nil=>intro n ob e;simp at e
  | @box a d f ι hs g h1 h4 ih =>
    intro n ob e hb
    cases n with
    | zero =>
      obtain rfl:(⟨BOXC,[("",d)]⟩:Ob)=ob:=by simpa using e
      exact absurd hb (Nat.lt_irrefl _)
    | succ n =>
      obtain⟨a',dx',fvs',A,f',B,e1,e2,e3,e4,e5,k⟩:=ih (by simpa using e) hb
      refine⟨a',dx',fvs',(a::f)++A,f',B,by rw[e1];simp,by simpa using e2,e3,e4,e5,fun x o nn q1 q2 q3=>?_⟩
      have hn:∀ b∈a::f,b ∉ _:=fun b z=>nn b (by simp only[List.mem_append];exact .inl (.inl z))
      have:=RepH.box (h1.ext x o hn) (k x o (fun b z=>nn b (by
        rcases List.mem_append.mp z with z | z
        · simp[z]
        · simp[z])) q1 q2 q3)
      simpa using this
  | @lk a od kvs dd ι hs g f0 n0 h1 h2 h3 h4 ih =>
    intro n ob e hb
    cases n with
    | zero =>
      obtain rfl:(⟨LOCKC,[("",.dic true false dd)]⟩:Ob)=ob:=by simpa using e
      exact absurd hb (by show ¬ LOCKC<BOXC;decide)
    | succ n =>
      obtain⟨a',dx',fvs',A,f',B,e1,e2,e3,e4,e5,k⟩:=ih (by simpa using e) hb
      refine⟨a',dx',fvs',A,f',B,e1,by simpa using e2,e3,e4,e5,fun x o nn q1 q2 q3=>?_⟩
      exact RepH.lk (x.fm _ f0) n0 (x.keep _ _ h1 fun z=>o _ z f0) h2 (h3.ext x o fun b z=>nomatch z) (k x o nn q1 q2 q3)
  | @cons a c dx fvs fs f ι hs g h0 h1 h2 h3 h4 ih =>
    intro n ob e hb
    cases n with
    | zero =>
      obtain rfl:(⟨c,fs⟩:Ob)=ob:=by simpa using e
      refine⟨a,dx,fvs,[],f,g,rfl,rfl,h1,h2,h3,fun x o nn q1 q2 q3=>?_⟩
      exact .cons h0 q1 q2 q3 (h4.ext x o fun b z=>nn b (by simpa using z))
    | succ n =>
      obtain⟨a',dx',fvs',A,f',B,e1,e2,e3,e4,e5,k⟩:=ih (by simpa using e) hb
      refine⟨a',dx',fvs',(a::f)++A,f',B,by rw[e1];simp,by simpa using e2,e3,e4,e5,fun x o nn q1 q2 q3=>?_⟩
      have hn:∀ b∈a::f,b ∉ _:=fun b z=>nn b (by simp only[List.mem_append];exact .inl (.inl z))
      have:=RepH.cons h0 (x.keep a _ h1 (hn a (List.mem_cons_self ..))) h2 (h3.ext x o fun b z=>hn b (List.mem_cons_of_mem _ z)) (k x o (fun b z=>nn b (by
        rcases List.mem_append.mp z with z | z
        · simp[z]
        · simp[z])) q1 q2 q3)
      simpa using this
theorem RepH.len{ι:List Addr}{hs:List Ob}{g:List Addr}(h:RepH K CT W H ι hs g): ι.length=hs.length:=by
  induction h with
  | nil=>rfl
  | box _ _ ih=>simp[ih]
  | lk _ _ _ _ _ _ ih=>simp[ih]
  | cons _ _ _ _ _ ih=>simp[ih]
end
def mqAttr (cs:List Nat) (f:String) (q:MQ D):MQ D:=fun m=>(q m).bind fun d=>match d with
  | .loc n=>match m.hs[n]? with
    | some ob=>Res.when (cs.contains ob.cls) (Res.of (lookF f ob.fs))
    | none=>.fail
  | _=>.fail
def sSetA (cs:List Nat) (f:String) (e:M D) (q:MQ D):MS:=fun m=>(e m).bind fun r=>(q r.2).bind fun d=>match d with
  | .loc n=>match r.2.hs[n]? with
    | some ob=>Res.when (cs.contains ob.cls&&decide (ob.fs.length<1000)) (.ok (.nx,⟨r.2.env,r.2.hs.set n ⟨ob.cls,setF f r.1 ob.fs⟩⟩))
    | none=>.fail
  | _=>.fail
section
variable {X:Cx} {CT:Nat→Addr} {pin:List Nat} {e o:Expr} {es:List Expr} {pos pos':Pos} {qa:MQ D} {me:M D} {cs:List Nat} {f:String} {ml:M (List Arg)} {wx:XK}
def callTail(f:CallM)(dd:List D)(as:List Arg)(m:Mem): Res (D×Mem):=(grab as m.env).bind fun q=>(f (q.1++dd) m.hs).bind fun o=>.ok (o.1,⟨giveBack q.2.1 o.2.1 q.2.2,o.2.2⟩)
def isOf (c:Nat) (mn:String) (m:Mem):D→Bool
  | .loc n=>match m.hs[n]? with
    | some ob=>ob.cls==c&&(lookF mn ob.fs).isNone
    | none=>false
  | _=>false
def mMeth(c:Nat)(mn:String)(f:CallM)(dd:List D)(q:MQ D)(a:M (List Arg)): M D:=fun m=>(q m).bind fun d=>Res.when (isOf c mn m d) ((a m).bind fun r=>callTail f dd (.val d::r.1) r.2)
variable {CX:CXT} {k n c:Nat} {fa:Addr} {fd:FuncData} {ps:List Str} {dvs:List V} {ds:List Value} {dd:List D} {mn:String} {p apos:Pos} {g:CallM}
end
end E
namespace E
open PySem L2 PySem.Spec PyProof.Rows
def mMake(c:Nat)(f:CallM)(dd:List D)(a:M (List Arg)): M D:=fun m=>(a m).bind fun r=>(callTail f dd (.val (.loc r.2.hs.length)::r.1) ⟨r.2.env,r.2.hs++[⟨c,[]⟩]⟩).bind fun o=>match o.1 with
  | .non=>.ok (.loc r.2.hs.length,o.2)
  | _=>.fail
section
variable {X:Cx} {CT:Nat→Addr} {wx:XK} {σ:L2.St} {W W1:Wd} {H H1:Hp} {fp fp1 fa:List Addr} {vs:List V} {as:List Arg} {m1 m':Mem} {d:D} {Q:VK} {f:CallM} {dd:List D} {dvs:List V} {n c:Nat}
theorem RepA.ext{W':Wd}{H':Hp}{fp' fq:List Addr}(e:Ext W H W' H' fq)(o:Off W fq)(s:∀ a∈fp,a∈fp')(n2:∀ a∈fp,a ∉ fq){g:List Addr}(h:RepA X.K W H σ fp vs as g)(n:∀ a∈g,a ∉ fq): RepA X.K W' H' σ fp' vs as g:=by
  induction h with
  | nil=>exact .nil
  | val r _ ih=>exact .val (r.ext e o fun a m=>n a (List.mem_append_left _ m)) (ih fun a m=>n a (List.mem_append_right _ m))
  | nam q _ ih=>exact .nam q (ih n)
  | bor r q _ ih=>exact .bor (r.ext e o fun a m=>n2 a (q a m)) (fun a m=>s a (q a m)) (ih n)
variable {CX:CXT} {k:Nat} {fa':Addr} {fd':FuncData} {ps:List Str} {ds:List Value} {x:Str} {p pos:Pos} {e:Expr} {es:List Expr} {ml:M (List Arg)}
end
end E
namespace E
open PySem L2 PySem.Spec PyProof.Rows
def lexB(r:Int→Int→Bool)(z:Nat→Nat→Bool): List Int→List Int→Bool
  | x::xs,y::ys=>if x=y then lexB r z xs ys else r x y
  | xs,ys=>z xs.length ys.length
theorem lexAt_B(r:Int→Int→Bool)(z:Nat→Nat→Bool)(hz:∀ a b,z (a+1) (b+1)=z a b): ∀ (k:Nat) (ns ms:List Int) (i:Nat),i≤ns.length→i≤ms.length→k=min (ns.length - i) (ms.length - i) →
    Ob.lexAt (fun j=>decide (ns.getD j 0=ms.getD j 0)) (fun j=>r (ns.getD j 0) (ms.getD j 0)) (z ns.length ms.length) i k=lexB r z (ns.drop i) (ms.drop i):=by
  have hzi:∀ i a b,z (a+i) (b+i)=z a b:=by
    intro i
    induction i with
    | zero=>intro a b;rfl
    | succ i ih=>intro a b;rw[← Nat.add_assoc,← Nat.add_assoc,hz,ih]
  intro k
  induction k with
  | zero =>
    intro ns ms i h1 h2 hk
    rw[Ob.lexAt_zero]
    have h3:(ns.drop i).length=ns.length - i:=List.length_drop
    have h4:(ms.drop i).length=ms.length - i:=List.length_drop
    have e:z ns.length ms.length=z (ns.drop i).length (ms.drop i).length:=by
      rw[h3,h4,← hzi i (ns.length - i) (ms.length - i),Nat.sub_add_cancel h1,Nat.sub_add_cancel h2]
    rw[e]
    cases hn:ns.drop i with
    | nil=>unfold lexB;rfl
    | cons x xs =>
      cases hm:ms.drop i with
      | nil=>unfold lexB;rfl
      | cons y ys=>rw[hn] at h3;rw[hm] at h4;simp at h3 h4;omega
  | succ k ih =>
    intro ns ms i h1 h2 hk
    have l1:i<ns.length:=by omega
    have l2:i<ms.length:=by omega
    rw[Ob.lexAt_succ,ih ns ms (i+1) (by omega) (by omega) (by omega),List.drop_eq_getElem_cons l1,List.drop_eq_getElem_cons l2]
    have g1:ns.getD i 0=ns[i]:=by simp[List.getD_eq_getElem?_getD,l1]
    have g2:ms.getD i 0=ms[i]:=by simp[List.getD_eq_getElem?_getD,l2]
    rw[g1,g2]
    show(if _ then _ else _)=(if ns[i]=ms[i] then lexB r z (ns.drop (i+1)) (ms.drop (i+1)) else r ns[i] ms[i])
    by_cases e:ns[i]=ms[i]
    · rw[if_pos (decide_eq_true e),if_pos e]
    · rw[if_neg (by rw[decide_eq_false e];simp),if_neg e]
def ltI(x y:Int): Bool:=decide (x<y)
def leI(x y:Int): Bool:=decide (x≤y)
def gtI(x y:Int): Bool:=decide (y<x)
def geI(x y:Int): Bool:=decide (y≤x)
def tupLt(a b:List Int): Bool:=lexB ltI (fun n m=>decide (n<m)) a b
def tupLe(a b:List Int): Bool:=lexB leI (fun n m=>decide (n≤m)) a b
def tupGt(a b:List Int): Bool:=lexB gtI (fun n m=>decide (n > m)) a b
def tupGe(a b:List Int): Bool:=lexB geI (fun n m=>decide (n ≥ m)) a b
@[simp] def dLtT: D→D→Res D
  | .int i,.int j=>.ok (.bl (decide (i<j)))
  | .str i,.str j=>.ok (.bl (decide (i.cps.toList<j.cps.toList)))
  | .tup xs,.tup ys=>match toInts xs,toInts ys with
    | some ns,some ms=>.ok (.bl (tupLt ns ms))
    | _,_=>.fail
  | _,_=>.fail
def rLtTT(K:PySem.W.Frag): R2:=fun x y H Q=>∃ (a b:Addr) (ns ms:List Int),x=.ref a∧y=.ref b∧SqT K H a (ns.map V.int)∧SqT K H b (ms.map V.int)∧Q (.bl (tupLt ns ms)) H
theorem op_ltTT{X:Cx}(hu:X.A.units<cLine): OpR X (compareOp .Lt) (rLtTT X.K):=by
  intro pins s σ H x y v u Q I rx ry h
  obtain⟨a,b,ns,ms,rfl,rfl,ha,hb,q⟩:=h
  cases rx
  cases ry
  obtain⟨its,r1,p1,_⟩:=I.tuple ha
  obtain⟨its2,r2,p2,_⟩:=I.tuple hb
  have i1:IntsAre its ns:=Vals.ints r1
  have i2:IntsAre its2 ms:=Vals.ints r2
  have e1:its.toArray.size=ns.length:=by rw[List.size_toArray];exact i1.length
  have e2:its2.toArray.size=ms.length:=by rw[List.size_toArray];exact i2.length
  have at1:∀ j (h1:j<its.toArray.size),∃ t,its.toArray[j]=.int (ns.getD j 0) t:=fun j h1=>PyProof.Rows.IntsAre.int_at i1 _ _ (by simp at h1;simp[h1])
  have at2:∀ j (h1:j<its2.toArray.size),∃ t,its2.toArray[j]=.int (ms.getD j 0) t:=fun j h1=>PyProof.Rows.IntsAre.int_at i2 _ _ (by simp at h1;simp[h1])
  have R:=Ob.RcOp.tuples_lt (A:=X.A) (s:=s) (e:=fun j=>decide (ns.getD j 0=ms.getD j 0)) (r:=fun j=>ltI (ns.getD j 0) (ms.getD j 0)) p1 p2 hu (fun j h1 h2=>by
    obtain⟨t,et⟩:=at1 j h1
    obtain⟨t',et'⟩:=at2 j h2
    rw[et,et']
    have z:(ns.getD j 0==ms.getD j 0)=decide (ns.getD j 0=ms.getD j 0):=by
      by_cases q:ns.getD j 0=ms.getD j 0
      · rw[decide_eq_true q];exact beq_iff_eq.mpr q
      · rw[decide_eq_false q];exact beq_eq_false_iff_ne.mpr q
    rw[← z]
    exact SeqAt.EqAt.int_int _ _ _ _) (fun j h1 h2 _=>by
    obtain⟨t,et⟩:=at1 j h1
    obtain⟨t',et'⟩:=at2 j h2
    rw[et,et']
    exact Ob.RcOp.lt_int _ _ _ _)
  rw[e1,e2] at R
  have hB:=lexAt_B ltI (fun n m=>decide (n<m)) (fun a b=>by simp) (min ns.length ms.length) ns ms 0 (Nat.zero_le _) (Nat.zero_le _) (by simp)
  rw[List.drop_zero,List.drop_zero] at hB
  rw[hB] at R
  exact R _ _ _ _ ⟨.bl (tupLt ns ms),H,I,rfl,q⟩
theorem od_ltT{X:Cx}(hu:X.A.units<cLine): OpD X (compareOp .Lt) dLtT:=by
  refine⟨_,OpR.or op_lt (OpR.or (op_ltTT hu) op_lt_str),fun W H x y d1 d2 f1 f2 d Q x0 a b e q=>?_⟩
  unfold dLtT at e;split at e
  · cases e;cases a;cases b
    exact .inl ⟨_,_,rfl,rfl,q _ W H [] (New.sc x0 .bl)⟩
  · cases e;cases a;cases b
    exact .inr (.inr ⟨_,_,rfl,rfl,q _ W H [] (New.sc x0 .bl)⟩)
  · split at e
    · rename_i ns ms e1 e2
      cases e
      obtain⟨p,vs,rfl,s,_,l⟩:=a.tupl
      obtain⟨p',vs',rfl,s',_,l'⟩:=b.tupl
      rw[toInts_eq e1] at l
      rw[toInts_eq e2] at l'
      obtain⟨rfl,_⟩:=repI l
      obtain⟨rfl,_⟩:=repI l'
      exact .inr (.inl ⟨p,p',ns,ms,rfl,rfl,s,s',q _ W H [] (New.sc x0 .bl)⟩)
    · cases e
  · cases e
@[simp] def dLeT: D→D→Res D
  | .int i,.int j=>.ok (.bl (decide (i≤j)))
  | .str i,.str j=>.ok (.bl (!decide (j.cps.toList<i.cps.toList)))
  | .tup xs,.tup ys=>match toInts xs,toInts ys with
    | some ns,some ms=>.ok (.bl (tupLe ns ms))
    | _,_=>.fail
  | _,_=>.fail
def rLeTT(K:PySem.W.Frag): R2:=fun x y H Q=>∃ (a b:Addr) (ns ms:List Int),x=.ref a∧y=.ref b∧SqT K H a (ns.map V.int)∧SqT K H b (ms.map V.int)∧Q (.bl (tupLe ns ms)) H
theorem op_leTT{X:Cx}(hu:X.A.units<cLine): OpR X (compareOp .LtE) (rLeTT X.K):=by
  intro pins s σ H x y v u Q I rx ry h
  obtain⟨a,b,ns,ms,rfl,rfl,ha,hb,q⟩:=h
  cases rx
  cases ry
  obtain⟨its,r1,p1,_⟩:=I.tuple ha
  obtain⟨its2,r2,p2,_⟩:=I.tuple hb
  have i1:IntsAre its ns:=Vals.ints r1
  have i2:IntsAre its2 ms:=Vals.ints r2
  have e1:its.toArray.size=ns.length:=by rw[List.size_toArray];exact i1.length
  have e2:its2.toArray.size=ms.length:=by rw[List.size_toArray];exact i2.length
  have at1:∀ j (h1:j<its.toArray.size),∃ t,its.toArray[j]=.int (ns.getD j 0) t:=fun j h1=>PyProof.Rows.IntsAre.int_at i1 _ _ (by simp at h1;simp[h1])
  have at2:∀ j (h1:j<its2.toArray.size),∃ t,its2.toArray[j]=.int (ms.getD j 0) t:=fun j h1=>PyProof.Rows.IntsAre.int_at i2 _ _ (by simp at h1;simp[h1])
  have R:=Ob.RcOp.tuples_le (A:=X.A) (s:=s) (e:=fun j=>decide (ns.getD j 0=ms.getD j 0)) (r:=fun j=>leI (ns.getD j 0) (ms.getD j 0)) p1 p2 hu (fun j h1 h2=>by
    obtain⟨t,et⟩:=at1 j h1
    obtain⟨t',et'⟩:=at2 j h2
    rw[et,et']
    have z:(ns.getD j 0==ms.getD j 0)=decide (ns.getD j 0=ms.getD j 0):=by
      by_cases q:ns.getD j 0=ms.getD j 0
      · rw[decide_eq_true q];exact beq_iff_eq.mpr q
      · rw[decide_eq_false q];exact beq_eq_false_iff_ne.mpr q
    rw[← z]
    exact SeqAt.EqAt.int_int _ _ _ _) (fun j h1 h2 _=>by
    obtain⟨t,et⟩:=at1 j h1
    obtain⟨t',et'⟩:=at2 j h2
    rw[et,et']
    exact Ob.RcOp.le_int _ _ _ _)
  rw[e1,e2] at R
  have hB:=lexAt_B leI (fun n m=>decide (n≤m)) (fun a b=>by simp) (min ns.length ms.length) ns ms 0 (Nat.zero_le _) (Nat.zero_le _) (by simp)
  rw[List.drop_zero,List.drop_zero] at hB
  rw[hB] at R
  exact R _ _ _ _ ⟨.bl (tupLe ns ms),H,I,rfl,q⟩
theorem od_leT{X:Cx}(hu:X.A.units<cLine): OpD X (compareOp .LtE) dLeT:=by
  refine⟨_,OpR.or op_le (OpR.or (op_leTT hu) op_le_str),fun W H x y d1 d2 f1 f2 d Q x0 a b e q=>?_⟩
  unfold dLeT at e;split at e
  · cases e;cases a;cases b
    exact .inl ⟨_,_,rfl,rfl,q _ W H [] (New.sc x0 .bl)⟩
  · cases e;cases a;cases b
    exact .inr (.inr ⟨_,_,rfl,rfl,q _ W H [] (New.sc x0 .bl)⟩)
  · split at e
    · rename_i ns ms e1 e2
      cases e
      obtain⟨p,vs,rfl,s,_,l⟩:=a.tupl
      obtain⟨p',vs',rfl,s',_,l'⟩:=b.tupl
      rw[toInts_eq e1] at l
      rw[toInts_eq e2] at l'
      obtain⟨rfl,_⟩:=repI l
      obtain⟨rfl,_⟩:=repI l'
      exact .inr (.inl ⟨p,p',ns,ms,rfl,rfl,s,s',q _ W H [] (New.sc x0 .bl)⟩)
    · cases e
  · cases e
@[simp] def dGtT: D→D→Res D
  | .int i,.int j=>.ok (.bl (decide (j<i)))
  | .str i,.str j=>.ok (.bl (decide (j.cps.toList<i.cps.toList)))
  | .tup xs,.tup ys=>match toInts xs,toInts ys with
    | some ns,some ms=>.ok (.bl (tupGt ns ms))
    | _,_=>.fail
  | _,_=>.fail
def rGtTT(K:PySem.W.Frag): R2:=fun x y H Q=>∃ (a b:Addr) (ns ms:List Int),x=.ref a∧y=.ref b∧SqT K H a (ns.map V.int)∧SqT K H b (ms.map V.int)∧Q (.bl (tupGt ns ms)) H
theorem op_gtTT{X:Cx}(hu:X.A.units<cLine): OpR X (compareOp .Gt) (rGtTT X.K):=by
  intro pins s σ H x y v u Q I rx ry h
  obtain⟨a,b,ns,ms,rfl,rfl,ha,hb,q⟩:=h
  cases rx
  cases ry
  obtain⟨its,r1,p1,_⟩:=I.tuple ha
  obtain⟨its2,r2,p2,_⟩:=I.tuple hb
  have i1:IntsAre its ns:=Vals.ints r1
  have i2:IntsAre its2 ms:=Vals.ints r2
  have e1:its.toArray.size=ns.length:=by rw[List.size_toArray];exact i1.length
  have e2:its2.toArray.size=ms.length:=by rw[List.size_toArray];exact i2.length
  have at1:∀ j (h1:j<its.toArray.size),∃ t,its.toArray[j]=.int (ns.getD j 0) t:=fun j h1=>PyProof.Rows.IntsAre.int_at i1 _ _ (by simp at h1;simp[h1])
  have at2:∀ j (h1:j<its2.toArray.size),∃ t,its2.toArray[j]=.int (ms.getD j 0) t:=fun j h1=>PyProof.Rows.IntsAre.int_at i2 _ _ (by simp at h1;simp[h1])
  have R:=Ob.RcOp.tuples_gt (A:=X.A) (s:=s) (e:=fun j=>decide (ns.getD j 0=ms.getD j 0)) (r:=fun j=>gtI (ns.getD j 0) (ms.getD j 0)) p1 p2 hu (fun j h1 h2=>by
    obtain⟨t,et⟩:=at1 j h1
    obtain⟨t',et'⟩:=at2 j h2
    rw[et,et']
    have z:(ns.getD j 0==ms.getD j 0)=decide (ns.getD j 0=ms.getD j 0):=by
      by_cases q:ns.getD j 0=ms.getD j 0
      · rw[decide_eq_true q];exact beq_iff_eq.mpr q
      · rw[decide_eq_false q];exact beq_eq_false_iff_ne.mpr q
    rw[← z]
    exact SeqAt.EqAt.int_int _ _ _ _) (fun j h1 h2 _=>by
    obtain⟨t,et⟩:=at1 j h1
    obtain⟨t',et'⟩:=at2 j h2
    rw[et,et']
    exact Ob.RcOp.gt_int _ _ _ _)
  rw[e1,e2] at R
  have hB:=lexAt_B gtI (fun n m=>decide (n > m)) (fun a b=>by simp) (min ns.length ms.length) ns ms 0 (Nat.zero_le _) (Nat.zero_le _) (by simp)
  rw[List.drop_zero,List.drop_zero] at hB
  rw[hB] at R
  exact R _ _ _ _ ⟨.bl (tupGt ns ms),H,I,rfl,q⟩
theorem od_gtT{X:Cx}(hu:X.A.units<cLine): OpD X (compareOp .Gt) dGtT:=by
  refine⟨_,OpR.or op_gt (OpR.or (op_gtTT hu) op_gt_str),fun W H x y d1 d2 f1 f2 d Q x0 a b e q=>?_⟩
  unfold dGtT at e;split at e
  · cases e;cases a;cases b
    exact .inl ⟨_,_,rfl,rfl,q _ W H [] (New.sc x0 .bl)⟩
  · cases e;cases a;cases b
    exact .inr (.inr ⟨_,_,rfl,rfl,q _ W H [] (New.sc x0 .bl)⟩)
  · split at e
    · rename_i ns ms e1 e2
      cases e
      obtain⟨p,vs,rfl,s,_,l⟩:=a.tupl
      obtain⟨p',vs',rfl,s',_,l'⟩:=b.tupl
      rw[toInts_eq e1] at l
      rw[toInts_eq e2] at l'
      obtain⟨rfl,_⟩:=repI l
      obtain⟨rfl,_⟩:=repI l'
      exact .inr (.inl ⟨p,p',ns,ms,rfl,rfl,s,s',q _ W H [] (New.sc x0 .bl)⟩)
    · cases e
  · cases e
@[simp] def dGeT: D→D→Res D
  | .int i,.int j=>.ok (.bl (decide (j≤i)))
  | .str i,.str j=>.ok (.bl (!decide (i.cps.toList<j.cps.toList)))
  | .tup xs,.tup ys=>match toInts xs,toInts ys with
    | some ns,some ms=>.ok (.bl (tupGe ns ms))
    | _,_=>.fail
  | _,_=>.fail
def rGeTT(K:PySem.W.Frag): R2:=fun x y H Q=>∃ (a b:Addr) (ns ms:List Int),x=.ref a∧y=.ref b∧SqT K H a (ns.map V.int)∧SqT K H b (ms.map V.int)∧Q (.bl (tupGe ns ms)) H
theorem op_geTT{X:Cx}(hu:X.A.units<cLine): OpR X (compareOp .GtE) (rGeTT X.K):=by
  intro pins s σ H x y v u Q I rx ry h
  obtain⟨a,b,ns,ms,rfl,rfl,ha,hb,q⟩:=h
  cases rx
  cases ry
  obtain⟨its,r1,p1,_⟩:=I.tuple ha
  obtain⟨its2,r2,p2,_⟩:=I.tuple hb
  have i1:IntsAre its ns:=Vals.ints r1
  have i2:IntsAre its2 ms:=Vals.ints r2
  have e1:its.toArray.size=ns.length:=by rw[List.size_toArray];exact i1.length
  have e2:its2.toArray.size=ms.length:=by rw[List.size_toArray];exact i2.length
  have at1:∀ j (h1:j<its.toArray.size),∃ t,its.toArray[j]=.int (ns.getD j 0) t:=fun j h1=>PyProof.Rows.IntsAre.int_at i1 _ _ (by simp at h1;simp[h1])
  have at2:∀ j (h1:j<its2.toArray.size),∃ t,its2.toArray[j]=.int (ms.getD j 0) t:=fun j h1=>PyProof.Rows.IntsAre.int_at i2 _ _ (by simp at h1;simp[h1])
  have R:=Ob.RcOp.tuples_ge (A:=X.A) (s:=s) (e:=fun j=>decide (ns.getD j 0=ms.getD j 0)) (r:=fun j=>geI (ns.getD j 0) (ms.getD j 0)) p1 p2 hu (fun j h1 h2=>by
    obtain⟨t,et⟩:=at1 j h1
    obtain⟨t',et'⟩:=at2 j h2
    rw[et,et']
    have z:(ns.getD j 0==ms.getD j 0)=decide (ns.getD j 0=ms.getD j 0):=by
      by_cases q:ns.getD j 0=ms.getD j 0
      · rw[decide_eq_true q];exact beq_iff_eq.mpr q
      · rw[decide_eq_false q];exact beq_eq_false_iff_ne.mpr q
    rw[← z]
    exact SeqAt.EqAt.int_int _ _ _ _) (fun j h1 h2 _=>by
    obtain⟨t,et⟩:=at1 j h1
    obtain⟨t',et'⟩:=at2 j h2
    rw[et,et']
    exact Ob.RcOp.ge_int _ _ _ _)
  rw[e1,e2] at R
  have hB:=lexAt_B geI (fun n m=>decide (n ≥ m)) (fun a b=>by simp) (min ns.length ms.length) ns ms 0 (Nat.zero_le _) (Nat.zero_le _) (by simp)
  rw[List.drop_zero,List.drop_zero] at hB
  rw[hB] at R
  exact R _ _ _ _ ⟨.bl (tupGe ns ms),H,I,rfl,q⟩
theorem od_geT{X:Cx}(hu:X.A.units<cLine): OpD X (compareOp .GtE) dGeT:=by
  refine⟨_,OpR.or op_ge (OpR.or (op_geTT hu) op_ge_str),fun W H x y d1 d2 f1 f2 d Q x0 a b e q=>?_⟩
  unfold dGeT at e;split at e
  · cases e;cases a;cases b
    exact .inl ⟨_,_,rfl,rfl,q _ W H [] (New.sc x0 .bl)⟩
  · cases e;cases a;cases b
    exact .inr (.inr ⟨_,_,rfl,rfl,q _ W H [] (New.sc x0 .bl)⟩)
  · split at e
    · rename_i ns ms e1 e2
      cases e
      obtain⟨p,vs,rfl,s,_,l⟩:=a.tupl
      obtain⟨p',vs',rfl,s',_,l'⟩:=b.tupl
      rw[toInts_eq e1] at l
      rw[toInts_eq e2] at l'
      obtain⟨rfl,_⟩:=repI l
      obtain⟨rfl,_⟩:=repI l'
      exact .inr (.inl ⟨p,p',ns,ms,rfl,rfl,s,s',q _ W H [] (New.sc x0 .bl)⟩)
    · cases e
  · cases e
end E
namespace E
open PySem L2 PySem.Spec PyProof.Rows
section
variable {P:Program} {w:World} {K:PySem.W.Frag} {mg:Str→Option Value} {base:Heap} {CT:Nat→Addr}
end
def mOrM(a b:M D): M D:=fun m=>match a m with
  | .ok r=>.ok r
  | _=>b m
end E
namespace E
open PySem L2 PySem.Spec PyProof.Rows
def revIt(it:It): It:=(it.1.reverse,it.2)
def enumD(xs:List D): List D:=(List.range xs.length).map fun(k:Nat)=>D.tup [.int (k:Int),xs.getD k .non]
def miRevV(e:M D): M It:=fun m=>(miV e m).bind fun r=>.ok (revIt r.1,r.2)
def miRevN(i:Nat): M It:=fun m=>(miN i m).bind fun r=>.ok (revIt r.1,r.2)
section
variable {K:PySem.W.Frag} {CT:Nat→Addr} {pi:List Nat} {W W2:Wd} {H H2:Hp} {σ σ2:L2.St} {m2:Mem} {fp fp2:List Addr}
end
section
variable {X:Cx} {CT:Nat→Addr} {pi pin:List Nat} {e tg:Expr} {pos p0:Pos} {me:M D} {i:Nat}
end
@[simp] def enOf(ok:Mem→Prop)(m:Mem): D→Res (It×Mem)
  | .lst _ xs=>Res.when (pureL xs) (.ok ((enumD xs,ok),m))
  | _=>.fail
def miEnV(e:M D): M It:=fun m=>(e m).bind fun r=>enOf (fun(_:Mem)=>True) r.2 r.1
def miEnN(i:Nat): M It:=fun m=>(mqVar i m).bind fun d=>enOf (fun m'=>m'.env[i]?=some d) m d
section
variable {X:Cx} {CT:Nat→Addr} {pi pin:List Nat} {e:Expr} {elts:List Expr} {kk:Nat} {pos p0 tpos:Pos} {me:M D} {i:Nat}
end
end E
namespace E
open PySem L2 PySem.Spec PyProof.Rows
section
variable {X:Cx}
end
end E
namespace E
open PySem L2 PySem.Spec PyProof.Rows
def toPair: D→Option (Int×Int)
  | .tup [.int x,.int y]=>some (x,y)
  | _=>none
def toPairs:List D→Option (List (Int×Int))
  | []=>some []
  | d::r=>match toPair d,toPairs r with
    | some p,some ps=>some (p::ps)
    | _,_=>none
def pD(p:Int×Int): D:=.tup [.int p.1,.int p.2]
def pL(p:Int×Int): List Int:=[p.1,p.2]
def ltP(p q:Int×Int): Prop:=p.1<q.1∨p.1=q.1∧p.2<q.2
instance (p q:Int×Int):Decidable (ltP p q):=by unfold ltP;infer_instance
section
variable {X:Cx} {CT:Nat→Addr} {pi pin:List Nat} {elt tg iter:Expr} {ifs:List Expr} {scope:Scope} {own:List (Str×Nat)} {pos p0 pos':Pos} {it:M E.It} {b:D→Mem→Res Mem} {tt:M Bool} {el:M D}
end
end E
namespace E
open PySem L2 PySem.Spec PyProof.Rows
section
variable {prog:Program} {w:World} {A:Around} {R:Result→Shared→Prop} {h0:Heap} {I S l:Addr} {vs:Array Value} {bt:Nat→Nat→Bool}
end
def maxP: (Int×Int)→List (Int×Int)→Int×Int
  | b,[]=>b
  | b,p::r=>maxP (if ltP b p then p else b) r
def maxI: Int→List Int→Int
  | b,[]=>b
  | b,p::r=>maxI (if b<p then p else b) r
@[simp] def dMaxL: List D→Res D
  | [.lst _ xs]=>match toInts xs with
    | some (n::ns)=>.ok (.int (maxI n ns))
    | _=>match toPairs xs with
      | some (p::ps)=>.ok (pD (maxP p ps))
      | _=>.fail
  | _=>.fail
end E
namespace E
open PySem L2 PySem.Spec PyProof.Rows
def mFz(x:M D): M D:=fun m=>(x m).bind fun r=>.ok (r.1.fz,r.2)
theorem Post.fz{K:PySem.W.Frag}{CT:Nat→Addr}{W W':Wd}{H H':Hp}{σ:L2.St}{fp fp' fd:List Addr}{v:V}{d:D}{m':Mem}(p:Post K CT W H σ fp v d m' W' H' fp' fd): Post K CT W H σ fp v d.fz m' (W'.fixed fd) H' fp' []:=by
  have nd:=p.nd
  rw[List.nodup_append] at nd
  have far:∀ a∈fp',a ∉ fd:=fun a z y=>nd.2.2 a z a y rfl
  have sb:∀ a∈fd,a∈fp∨H a=none:=fun a z=>p.sub a (List.mem_append_right _ z)
  have fx:Fix (W'.fixed fd) H':=fun a z=>by
    rcases z with z | z
    · exact p.rel.fix a z
    · exact(p.own a z).2
  exact⟨p.rel.ext (Ext.fixed fun a m=>m) (fun a m=>(p.own a m).1) far rfl fx,p.rep.fixed,by rw[List.append_nil];exact nd.1,Own.nil,p.ext.trans (Ext.fixed (fp:=fd) fun a m=>m) sb,fun a z=>p.sub a (List.mem_append_left _ (by simpa using z))⟩
theorem me_fz{X:Cx}{CT:Nat→Addr}{e:Expr}{x:M D}(h:ME X CT e x): ME X CT e (mFz x):=pe_weak h fun σ H Q ⟨W,m,fp,d,m',rel,e,k⟩=>by
  obtain⟨⟨d1,m1⟩,e1,e⟩:=Res.bind_eq e
  cases e
  exact⟨W,m,fp,d1,m1,rel,e1,fun v W' H' fp' fd p=>k v _ H' fp' [] p.fz⟩
end E
namespace E
open PySem L2 PySem.Spec PyProof.Rows
def insL(n:Nat)(d:α)(xs:List α): List α:=xs.take n++[d]++xs.drop n
section
variable {X:Cx} {CT:Nat→Addr} {pin:List Nat} {e e2 o:Expr} {es:List Expr} {i:Nat} {mk me:M D} {pos apos cpos:Pos} {q:MQ D}
end
end E
namespace E
open PySem L2 PySem.Spec PyProof.Rows
section
variable {X:Cx} {CT:Nat→Addr} {e:Expr} {q:MQ D} {p0 p1 pos pos1:Pos}
end
end E
namespace E
open PySem L2 PySem.Spec PyProof.Rows
def tN(K:PySem.W.Frag)(CT:Nat→Addr)(x:MQ D): TE:=fun σ H Q=>∃ W m fp d,Rel K CT W H σ m fp∧x m=.ok d∧∀ v W' H' fd,New K W H v d W' H' fd→Q v H'
section
variable {X:Cx} {CT:Nat→Addr} {pin:List Nat} {e o:Expr} {i:Nat} {x q:MQ D} {pos apos cpos:Pos} {cs:List Nat} {f:String}
end
end E
namespace E
open PySem L2 PySem.Spec PyProof.Rows
def repS(x:Str)(n:Int): Str:=if n<1 then Str.empty else if (n==1||x.length==0)=true then x else ⟨(List.replicate n.toNat x.cps).foldl (·++·) #[]⟩
def mulSok(x:Str)(n:Int): Prop:=0≤n∧n<1000∧x.length<1000∧(repS x n).length≤1000000
instance (x:Str) (n:Int):Decidable (mulSok x n):=by unfold mulSok;infer_instance
def dMulS: D→D→Res D
  | .str x,.int n=>.when (decide (mulSok x n)) (.ok (.str (repS x n)))
  | _,_=>.fail
theorem op_mul_str {X:Cx}:OpR X (binaryOp .Mult) (fun x y H Q=>∃ i n,x=.str i∧y=.int n∧mulSok i n∧Q (.str (repS i n)) H):=by
  intro pins s σ H x y v u Q I rx ry h
  obtain⟨i,n,rfl,rfl,⟨h0,h1,h2,h3⟩,q⟩:=h
  obtain⟨t,rfl⟩:=rx
  obtain⟨t',rfl⟩:=ry
  refine PySem.P.mul_str ?_ (fun a b=>?_) (fun a b=>?_) ?_
  · rw[decide_eq_false (by omega),decide_eq_false (by omega)];rfl
  · intro z
    have:(9223372036854775807:Int) / n ≥ 1000:=by
      rw[ge_iff_le,Int.le_ediv_iff_mul_le (by omega)]
      omega
    have z:(i.length:Int) > (2 ^ 63 - 1) / n:=z
    have e:((2:Int) ^ 63 - 1)=9223372036854775807:=by decide
    rw[e] at z
    omega
  · have:i.length*n.toNat≤1000*1000:=Nat.mul_le_mul (by omega) (by omega)
    show decide (_ > sizeLine)=false
    rw[decide_eq_false_iff_not]
    rw[sizeLine_eq]
    omega
  · unfold repS at q h3
    split
    · rename_i c
      rw[if_pos c] at q
      exact⟨by decide,⟨.str Str.empty,H,I.tok _,⟨_,rfl⟩,q⟩⟩
    · rename_i c
      rw[if_neg c] at q h3
      split
      · rename_i c2
        rw[if_pos c2] at q
        exact⟨.str i,H,I,⟨_,rfl⟩,q⟩
      · rename_i c2
        rw[if_neg c2] at q h3
        refine⟨?_,⟨.str _,H,I.tok _,⟨_,rfl⟩,q⟩⟩
        have:=sizeLine_eq
        omega
theorem od_mulS{X:Cx}: OpD X (binaryOp .Mult) dMulS:=by
  refine⟨_,op_mul_str,fun W H x y d1 d2 f1 f2 d Q x0 a b e q=>?_⟩
  unfold dMulS at e
  split at e
  · obtain⟨h,e⟩:=Res.when_eq e
    cases e;cases a;cases b
    exact⟨_,_,rfl,rfl,of_decide_eq_true h,q _ W H [] (New.sc x0 .str)⟩
  · cases e
end E
namespace E
open PySem L2 PySem.Spec PyProof.Rows
theorem RepL.at{K:PySem.W.Frag}{W:Wd}{H:Hp}: ∀ {vs:List V} {ds:List D} {f:List Addr} {j:Nat} {d:D},RepL K W H vs ds f→ds[j]?=some d→∃ v A h B,vs[j]?=some v∧f=A++h++B∧RepD K W H v d h ∧
    ∀ {W':Wd} {H':Hp} {fq:List Addr} {d':D} {h':List Addr},Ext W H W' H' fq→Off W fq→(∀ b∈A++B,b ∉ fq)→RepD K W' H' v d' h'→RepL K W' H' vs (ds.set j d') (A++h'++B)
  | _,_,_,_,_,.nil,e=>by simp at e
  | _,_,_,0,d,.cons r l,e=>by
    cases e
    exact⟨_,[],_,_,rfl,rfl,r,fun x o n r'=>.cons r' (l.ext x o fun b z=>n b (by simpa using z))⟩
  | _,_,_,j+1,d,.cons r l,e=>by
    rename_i d0 ff vs0 ds0
    obtain⟨v,A,h,B,q1,rfl,q2,k⟩:=RepL.at l (by simpa using e)
    refine⟨v,d0++A,h,B,by simpa using q1,by simp,q2,fun x o n r'=>?_⟩
    have:=RepL.cons (r.ext x o fun b z=>n b (by simp[z])) (k x o (fun b z=>n b (by
      rcases List.mem_append.mp z with z | z <;> simp[z])) r')
    simpa using this
section
variable {X:Cx} {CT:Nat→Addr} {pin:List Nat} {e a b o:Expr} {es rest:List Expr} {i:Nat} {x q:MQ D} {xa:MQ (List D)} {pos apos cpos:Pos} {cs:List Nat} {f:String}
end
end E
namespace E
open PySem L2 PySem.Spec PyProof.Rows
section
variable {X:Cx} {CT:Nat→Addr} {e o:Expr} {es:List Expr} {pos:Pos} {mo:M D} {ml:M (List Arg)} {wx:XK}
variable {CX:CXT} {k n c:Nat} {fa pa:Addr} {fd:FuncData} {ps:List Str} {dvs:List V} {ds:List Value} {dd:List D} {mn:String} {p apos:Pos} {g:CallM}
end
end E
namespace E
open PySem L2 PySem.Spec PyProof.Rows
theorem New.fz{K:PySem.W.Frag}{W W':Wd}{H H':Hp}{v:V}{d:D}{fd:List Addr}(n:New K W H v d W' H' fd): New K W H v d.fz (W'.fixed fd) H' [] :=
  ⟨n.rep.fixed,⟨fun a h=>.inl (n.ext.fm a h),fun i a h=>n.ext.im i a h,fun b o h m=>n.ext.keep b o h m,fun a h=>by
      rcases h with h | h
      · exact n.ext.fnew a h
      · exact .inr (.inr (n.fresh a h)),fun b h=>n.ext.there b h⟩,n.ι,fun a h=>by
    rcases h with h | h
    · exact n.fix a h
    · exact(n.own a h).2,List.nodup_nil,Own.nil,fun a z=>nomatch z⟩
section
variable {X:Cx} {CT:Nat→Addr} {pin:List Nat} {e o:Expr} {es:List Expr} {i:Nat} {me:M D} {pos p0 apos cpos:Pos} {T:String} {g:List D→Res D} {ql:MQ (List D)} {x:Str}
end
@[simp] def dSum: List D→Res D
  | [.lst _ xs]=>(Res.of (toInts xs)).bind fun ns=>.ok (.int ns.sum)
  | _=>.fail
end E
namespace E
open PySem L2 PySem.Spec PyProof.Rows
section
variable {X:Cx} {CT:Nat→Addr} {a b:Expr} {i:Nat} {mb:M D} {pos:Pos}
end
end E
namespace E
open PySem L2 PySem.Spec PyProof.Rows
@[simp] def D.owned: D→Bool
  | .lst o _=>o
  | .dic o _ _=>o
  | _=>false
inductive Pl where
  | nm (i:Nat)
  | bx (k:Nat)
  | at (n:Nat) (f:String)
  | it (p:Pl) (j:Nat)
def boxIn: Option Ob→Option D
  | some ⟨c,[(s,d)]⟩=>if c=BOXC∧s="" then some d else none
  | _=>none
theorem boxIn_eq{o:Option Ob}{d:D}(h:boxIn o=some d): o=some ⟨BOXC,[("",d)]⟩:=by
  unfold boxIn at h
  split at h
  · split at h
    · rename_i c
      obtain⟨rfl,rfl⟩:=c
      cases h
      rfl
    · cases h
  · cases h
theorem boxIn_box{d:D}: boxIn (some ⟨BOXC,[("",d)]⟩)=some d:=by
  show(if BOXC=BOXC∧("":String)="" then some d else none)=some d
  rw[if_pos ⟨rfl,rfl⟩]
def atIn(f:String): Option Ob→Option D
  | some ob=>if ob.cls<BOXC then lookF f ob.fs else none
  | none=>none
def Pl.get:Pl→Mem→Option D
  | .nm i,m=>m.env[i]?
  | .bx k,m=>boxIn m.hs[k]?
  | .at n f,m=>atIn f m.hs[n]?
  | .it p j,m=>match p.get m with
    | some (.lst true xs)=>xs[j]?
    | _=>none
def Pl.put:Pl→D→Mem→Mem
  | .nm i,d,m=>⟨m.env.set i d,m.hs⟩
  | .bx k,d,m=>⟨m.env,m.hs.set k ⟨BOXC,[("",d)]⟩⟩
  | .at n f,d,m=>match m.hs[n]? with
    | some ob=>⟨m.env,m.hs.set n ⟨ob.cls,setF f d ob.fs⟩⟩
    | none=>m
  | .it p j,d,m=>match p.get m with
    | some (.lst true xs)=>p.put (.lst true (xs.set j d)) m
    | _=>m
def Pl.late: Pl→Bool
  | .nm _=>true
  | .bx _=>true
  | _=>false
section
variable {K:PySem.W.Frag} {CT:Nat→Addr} {W W' W1 W2:Wd} {H H' H1 H2:Hp} {σ:L2.St} {m m1 m2:Mem} {fp fp1 fp2 fd f g:List Addr} {v x:V} {d d' res:D}
theorem RepD.owned_fp(h:RepD K W H v d f)(o:d.owned=true): ∃ a f',v=.ref a∧f=a::f':=by
  cases h <;> first | cases o;done | exact⟨_,_,rfl,rfl⟩
theorem RepH.atB {ι:List Addr} {hs:List Ob} {g:List Addr} (h:RepH K CT W H ι hs g):∀ {n:Nat} {d:D},hs[n]?=some ⟨BOXC,[("",d)]⟩ →
    ∃ a A f B,g=A++(a::f)++B∧ι[n]?=some a∧RepD K W H (.ref a) d (a::f) ∧
      ∀ {W':Wd} {H':Hp} {fq:List Addr} {d':D} {f':List Addr},Ext W H W' H' fq→Off W fq→(∀ b∈A++B,b ∉ fq)→RepD K W' H' (.ref a) d' (a::f')→RepH K CT W' H' ι (hs.set n ⟨BOXC,[("",d')]⟩) (A++(a::f')++B):=by
  induction h with
  | nil=>intro n ob e;simp at e
  | @box a d0 f ι hs g h1 h4 ih =>
    intro n d e
    cases n with
    | zero =>
      have e:(⟨BOXC,[("",d0)]⟩:Ob)=⟨BOXC,[("",d)]⟩:=by simpa using e
      cases e
      refine⟨a,[],f,g,rfl,rfl,h1,fun x o nn r=>?_⟩
      exact .box r (h4.ext x o fun b z=>nn b (by simpa using z))
    | succ n =>
      obtain⟨a',A,f',B,e1,e2,e3,k⟩:=ih (by simpa using e)
      refine⟨a',(a::f)++A,f',B,by rw[e1];simp,by simpa using e2,e3,fun x o nn r=>?_⟩
      have hn:∀ b∈a::f,b ∉ _:=fun b z=>nn b (by simp only[List.mem_append];exact .inl (.inl z))
      have:=RepH.box (h1.ext x o hn) (k x o (fun b z=>nn b (by
        rcases List.mem_append.mp z with z | z
        · simp[z]
        · simp[z])) r)
      simpa using this
  | @lk a od kvs dd ι hs g f0 n0 h1 h2 h3 h4 ih =>
    intro n d e
    cases n with
    | zero =>
      have e:(⟨LOCKC,[("",.dic true false dd)]⟩:Ob)=⟨BOXC,[("",d)]⟩:=by simpa using e
      exact absurd (congrArg Ob.cls e) (by show ¬ LOCKC=BOXC;decide)
    | succ n =>
      obtain⟨a',A,f',B,e1,e2,e3,k⟩:=ih (by simpa using e)
      exact⟨a',A,f',B,e1,by simpa using e2,e3,fun x o nn r=>RepH.lk (x.fm _ f0) n0 (x.keep _ _ h1 fun z=>o _ z f0) h2 (h3.ext x o fun b z=>nomatch z) (k x o nn r)⟩
  | @cons a c dx fvs fs f ι hs g h0 h1 h2 h3 h4 ih =>
    intro n d e
    cases n with
    | zero =>
      have e:(⟨c,fs⟩:Ob)=⟨BOXC,[("",d)]⟩:=by simpa using e
      cases e
      exact absurd h0 (Nat.lt_irrefl _)
    | succ n =>
      obtain⟨a',A,f',B,e1,e2,e3,k⟩:=ih (by simpa using e)
      refine⟨a',(a::f)++A,f',B,by rw[e1];simp,by simpa using e2,e3,fun x o nn r=>?_⟩
      have hn:∀ b∈a::f,b ∉ _:=fun b z=>nn b (by simp only[List.mem_append];exact .inl (.inl z))
      have:=RepH.cons h0 (x.keep a _ h1 (hn a (List.mem_cons_self ..))) h2 (h3.ext x o fun b z=>hn b (List.mem_cons_of_mem _ z)) (k x o (fun b z=>nn b (by
        rcases List.mem_append.mp z with z | z
        · simp[z]
        · simp[z])) r)
      simpa using this
theorem RepH.snocB{ι:List Addr}{hs:List Ob}{g:List Addr}(h:RepH K CT W H ι hs g){x:Addr}{d:D}{f:List Addr}(hx:RepD K W H (.ref x) d (x::f))(ow:d.owned=true): RepH K CT W H (ι++[x]) (hs++[⟨BOXC,[("",d)]⟩]) (g++(x::f)):=by
  induction h with
  | nil =>
    have:=RepH.box (CT:=CT) (hs:=[]) (g:=[]) hx .nil
    simpa using this
  | box h1 _ ih =>
    have:=RepH.box h1 ih
    simpa using this
  | @lk b od kvs dd ι hs g f0 n0 h1 h2 h3 _ ih =>
    have nx:b≠x:=fun z=>by
      rw[z] at h1
      cases hx with
      | lstO h _=>rw[h] at h1;cases h1
      | dkO h _ _=>rw[h] at h1;cases h1
      | dtO h _ _ _=>rw[h] at h1;cases h1
      | _=>cases ow
    have nn:b ∉ ι++[x]:=fun z=>(List.mem_append.mp z).elim n0 fun z=>nx (List.mem_singleton.mp z)
    exact RepH.lk f0 nn h1 h2 h3 ih
  | cons h0 h1 h2 h3 _ ih =>
    have:=RepH.cons h0 h1 h2 h3 ih
    simpa using this
def Body(K:PySem.W.Frag)(CT:Nat→Addr)(W:Wd)(H:Hp)(σ:L2.St)(m:Mem)(fp:List Addr): Prop:=∃ f g,fp=f++g∧RepS K W H σ m.env f∧RepH K CT W H W.ι m.hs g
def Hole(K:PySem.W.Frag)(CT:Nat→Addr)(W:Wd)(H:Hp)(σ:L2.St)(m:Mem)(fp:List Addr)(p:Pl)(v:V)(d:D): Prop :=
  ∃ A f B,fp=A++f++B∧RepD K W H v d f∧∀ (W':Wd) (H':Hp) (fq:List Addr) (d':D) (f':List Addr),Ext W H W' H' fq→Off W fq→(∀ a∈A++B,a ∉ fq)→W'.ι=W.ι→d'.owned=true→RepD K W' H' v d' f'→Body K CT W' H' σ (p.put d' m) (A++f'++B)
theorem hole_nm{i:Nat}(rel:Rel K CT W H σ m fp)(e:m.env[i]?=some d)(nd:d≠.und): ∃ v,σ[i]?=some (some v)∧Hole K CT W H σ m fp (.nm i) v d:=by
  obtain⟨f,g,rfl,h1,h2⟩:=rel.s
  obtain⟨v,A,f1,B,rfl,s,r,k⟩:=h1.at e nd
  refine⟨v,s,A,f1,B++g,by simp,r,fun W' H' fq d' f' x o n i1 ow r'=>?_⟩
  have ks:=k (v':=v) x o (fun a z=>n a (by
    rcases List.mem_append.mp z with z | z <;> simp[z])) r'
  rw[set_same s] at ks
  refine⟨A++f'++B,g,by simp,ks,?_⟩
  rw[i1]
  exact h2.ext x o fun a z=>n a (by simp[z])
theorem hole_bx{k:Nat}(rel:Rel K CT W H σ m fp)(e:boxIn m.hs[k]?=some d): ∃ a,W.ι[k]?=some a∧Hole K CT W H σ m fp (.bx k) (.ref a) d:=by
  obtain⟨f,g,rfl,h1,h2⟩:=rel.s
  obtain⟨a,A,f1,B,rfl,s,r,kk⟩:=h2.atB (boxIn_eq e)
  refine⟨a,s,f++A,a::f1,B,by simp,r,fun W' H' fq d' f' x o n i1 ow r'=>?_⟩
  obtain⟨a',f2,e1,rfl⟩:=r'.owned_fp ow
  cases e1
  have ks:=kk x o (fun b z=>n b (by
    rcases List.mem_append.mp z with z | z <;> simp[z])) r'
  refine⟨f,A++(a::f2)++B,by simp,h1.ext x o fun b z=>n b (by simp[z]),?_⟩
  rw[i1]
  exact ks
theorem Hole.ext{p:Pl}(h:Hole K CT W H σ m fp p v d)(e:Ext W H W1 H1 [])(i:W1.ι=W.ι): Hole K CT W1 H1 σ m fp p v d:=by
  obtain⟨A,f,B,rfl,r,k⟩:=h
  refine⟨A,f,B,rfl,r.ext e off_nil (fun a _ z=>nomatch z),fun W' H' fq d' f' x o n i1 ow r'=>?_⟩
  exact k W' H' fq d' f' ((e.sub (fun a z=>nomatch z)).trans x fun a z=>.inl z) (fun a z y=>o a z (e.fm a y)) n (i1.trans i) ow r'
structure OpPost (K:PySem.W.Frag) (W:Wd) (H:Hp) (f fd:List Addr) (v:V) (x:V) (res d':D) (W':Wd) (H':Hp) (f' fr:List Addr):Prop where
  ext:Ext W H W' H' f
  ι:W'.ι=W.ι
  fix:Fix W' H'
  rep:RepD K W' H' v d' f'
  res:RepD K W' H' x res fr
  nd:(f'++fr).Nodup
  own:Own W' H' (f'++fr)
  sub:∀ b∈f'++fr,b∈f∨b∈fd∨H b=none
  mine:d'.owned=true
def MutD (X:Cx) (r:V→List V→Hp→VK→Prop) (g:D→List D→Res (D×D)):Prop :=
  ∀ W H v d f vs ds fd res d' Q,Fix W H→Own W H (f++fd)→(f++fd).Nodup→RepD X.K W H v d f→RepL X.K W H vs ds fd→g d ds=.ok (res,d') →
    (∀ x W' H' f' fr,OpPost X.K W H f fd v x res d' W' H' f' fr→Q x H')→r v vs H Q
theorem Hole.post{p:Pl}{A B f f' fr:List Addr}(rel:Rel K CT W H σ m (A++f++B))(nd:(A++f++B++fd).Nodup)(ownd:Own W H fd)
    (k:∀ (W':Wd) (H':Hp) (fq:List Addr) (d':D) (f':List Addr),Ext W H W' H' fq→Off W fq→(∀ a∈A++B,a ∉ fq)→W'.ι=W.ι→d'.owned=true→RepD K W' H' v d' f'→Body K CT W' H' σ (p.put d' m) (A++f'++B))
    (o:OpPost K W H f fd v x res d' W' H' f' fr):Post K CT W H σ (A++f++B++fd) x res (p.put d' m) W' H' (A++f'++B) fr:=by
  have mA:∀ b∈A++B,b∈A++f++B:=fun b z=>by
    rcases List.mem_append.mp z with z | z <;> simp[z]
  have dis:∀ b∈A++B,b ∉ f∧b ∉ fd:=fun b z=>by
    have c1:=List.nodup_iff_count.mp nd b
    have c2:=List.count_pos_iff.mpr z
    simp only[List.count_append] at c1 c2
    refine⟨fun y=>?_,fun y=>?_⟩
    · have c3:=List.count_pos_iff.mpr y;omega
    · have c3:=List.count_pos_iff.mpr y;omega
  have dis2:∀ b∈A++B,b ∉ f'++fr:=fun b z y=>by
    rcases o.sub b y with y | y | y
    · exact(dis b z).1 y
    · exact(dis b z).2 y
    · exact(rel.own b (mA b z)).2 y
  have off:Off W f:=fun b z=>(rel.own b (by simp[z])).1
  obtain⟨s,g,es,h1,h2⟩:=k W' H' f d' f' o.ext off (fun b z=>(dis b z).1) o.ι o.mine o.rep
  have ndAB:(A++B).Nodup:=by
    rw[List.nodup_iff_count]
    intro b
    have:=List.nodup_iff_count.mp nd b
    simp only[List.count_append] at this ⊢
    omega
  have ndT:(A++f'++B++fr).Nodup:=by
    rw[List.nodup_iff_count]
    intro b
    have c1:=List.nodup_iff_count.mp ndAB b
    have c2:=List.nodup_iff_count.mp o.nd b
    simp only[List.count_append] at c1 c2 ⊢
    by_cases z:b∈A++B
    · have c3:=List.count_eq_zero.mpr (dis2 b z)
      simp only[List.count_append] at c3
      omega
    · have c3:=List.count_eq_zero.mpr z
      simp only[List.count_append] at c3
      omega
  have ownAB:Own W' H' (A++B):=(Own.ext (g:=A++B) (fun b z=>rel.own b (mA b z)) o.ext fun b z=>(dis b z).1)
  have ownT:Own W' H' (A++f'++B):=fun b z=>by
    simp only[List.mem_append] at z
    rcases z with (z | z) | z
    · exact ownAB b (by simp[z])
    · exact o.own b (by simp[z])
    · exact ownAB b (by simp[z])
  have nd2:=(List.nodup_append.mp ndT).1
  refine⟨⟨⟨s,g,es,h1,h2⟩,nd2,ownT,o.fix⟩,o.res,ndT,fun b z=>o.own b (by simp[z]),o.ext.sub fun b z=>by simp[z],fun b z=>?_⟩
  have hz:b∈A++B∨b∈f'++fr:=by
    simp only[List.mem_append] at z ⊢
    rcases z with ((z | z) | z) | z <;> simp[z]
  rcases hz with z | z
  · have:=mA b z
    exact .inl (by simp only[List.mem_append] at this ⊢;exact .inl this)
  · rcases o.sub b z with y | y | y
    · exact .inl (by simp[y])
    · exact .inl (by simp[y])
    · exact .inr y
end
def tPl(K:PySem.W.Frag)(CT:Nat→Addr)(rs:MQ Pl): TE:=fun σ H Q=>∃ W m fp p,Rel K CT W H σ m fp∧rs m=.ok p∧∀ v W' H',Rel K CT W' H' σ m fp→Ext W H W' H' [] →
  (∀ d,p.get m=some d→d≠.und→Hole K CT W' H' σ m fp p v d) →
  (p.late=true→∀ W2 H2 m2 fp2 fq d,Rel K CT W2 H2 σ m2 fp2→Ext W' H' W2 H2 fq→p.get m2=some d→d≠.und→Hole K CT W2 H2 σ m2 fp2 p v d)→Q v H'
def MPl(X:Cx)(CT:Nat→Addr)(e:Expr)(rs:MQ Pl): Prop:=PE X e (tPl X.K CT rs)
def rsN(i:Nat): MQ Pl:=fun m=>(mqVar i m).bind fun d=>match d with
  | .loc k=>.ok (.bx k)
  | _=>.ok (.nm i)
section
variable {X:Cx} {CT:Nat→Addr} {e:Expr} {q:MQ D} {rs:MQ Pl} {cs:List Nat} {f:String} {pos:Pos}
theorem pl_nm {i:Nat} (h:PE X e (tVar i)):MPl X CT e (rsN i):=pe_weak h fun σ H Q ⟨W,m,fp,p,rel,e,k⟩=>by
  obtain⟨d,e1,e⟩:=Res.bind_eq e
  obtain⟨e2,nu⟩:=mqVar_eq e1
  obtain⟨v,s,hv⟩:=hole_nm rel e2 nu
  refine⟨v,s,?_⟩
  split at e
  · cases e
    rename_i kk
    obtain⟨f,g,es,h1,h2⟩:=rel.s
    obtain⟨v',A,f1,B,_,s',r,_⟩:=h1.at e2 nu
    rw[s] at s'
    cases s'
    cases r with
    | @loc _ a ei =>
      refine k _ W H rel (Ext.refl _ _ _) (fun d e3 _=>?_) (fun _ W2 H2 m2 fp2 fq d r2 x e3 _=>?_)
      · obtain⟨a',ei',hh⟩:=hole_bx rel e3
        rw[ei] at ei'
        cases ei'
        exact hh
      · obtain⟨a',ei',hh⟩:=hole_bx r2 e3
        have:=x.im _ _ ei
        rw[ei'] at this
        cases this
        exact hh
  · cases e
    refine k v W H rel (Ext.refl _ _ _) (fun d e3 nu=>?_) (fun _ W2 H2 m2 fp2 fq d r2 x e3 nu=>?_)
    · obtain⟨v',s',hh⟩:=hole_nm rel e3 nu
      rw[s] at s'
      cases s'
      exact hh
    · obtain⟨v',s',hh⟩:=hole_nm r2 e3 nu
      rw[s] at s'
      cases s'
      exact hh
end
def unB (m:Mem):D→D
  | .loc k=>match boxIn m.hs[k]? with
    | some d=>d
    | none=>.loc k
  | d=>d
def mqUn(q:MQ D): MQ D:=fun m=>(q m).bind fun d=>.ok (unB m d)
section
variable {X:Cx} {CT:Nat→Addr} {e:Expr} {q:MQ D} {me:M D}
theorem meq_un' (h:MEQ X CT e q):MEQ X CT e (mqUn q):=pe_weak h fun σ H Q ⟨W,m,fp,d,rel,e,k⟩=>by
  obtain⟨d1,e1,e⟩:=Res.bind_eq e
  cases e
  refine⟨W,m,fp,d1,rel,e1,fun v W' H' fd p=>?_⟩
  have rp:=p.rep
  by_cases hx:∃ n d2,d1=.loc n∧boxIn m.hs[n]?=some d2
  · obtain⟨n,d2,rfl,eb⟩:=hx
    cases rp with
    | @loc _ a ei =>
      obtain⟨a',ei',A,f,B,rfl,r,_⟩:=hole_bx p.rel eb
      rw[ei] at ei'
      cases ei'
      have:unB m (.loc n)=d2:=by unfold unB;dsimp only;rw[eb]
      rw[this] at k
      exact k _ W' H' f ⟨p.rel,r,p.ext,fun b z=>by simp[z]⟩
  · have:unB m d1=d1:=by
      unfold unB
      split
      · rename_i kk
        split
        · rename_i d2 eb
          exact absurd ⟨kk,d2,rfl,eb⟩ hx
        · rfl
      · rfl
    rw[this] at k
    exact k v W' H' fd p
def mBox(x:M D): M D:=fun m=>(x m).bind fun r=>Res.when r.1.owned (.ok (.loc r.2.hs.length,⟨r.2.env,r.2.hs++[⟨BOXC,[("",r.1)]⟩]⟩))
theorem me_box(h:ME X CT e me): ME X CT e (mBox me):=pe_weak h fun σ H Q ⟨W,m,fp,d,m',rel,e,k⟩=>by
  obtain⟨⟨d1,m1⟩,e1,e⟩:=Res.bind_eq e
  obtain⟨ow,e⟩:=Res.when_eq e
  cases e
  refine⟨W,m,fp,d1,m1,rel,e1,fun v W1 H1 fp1 fd p=>?_⟩
  obtain⟨a,f',rfl,rfl⟩:=p.rep.owned_fp ow
  obtain⟨s,g,rfl,h1,h2⟩:=p.rel.s
  have x:Ext W1 H1 ⟨W1.F,W1.ι++[a]⟩ H1 []:=⟨fun _ h=>h,fun n b h=>by
    rw[List.getElem?_append_left (List.getElem?_eq_some_iff.mp h).1];exact h,fun _ _ h _=>h,fun _ h=>.inl h,fun _ h=>h⟩
  have h2':RepH X.K CT ⟨W1.F,W1.ι++[a]⟩ H1 (W1.ι++[a]) (m1.hs++[⟨BOXC,[("",d1)]⟩]) (g++(a::f')):=(h2.ext x off_nil fun _ _ z=>nomatch z).snocB (p.rep.ext x off_nil fun _ _ z=>nomatch z) ow
  have el:(W1.ι++[a])[m1.hs.length]?=some a:=by rw[← h2.len];simp
  have own:Own W1 H1 (s++(g++(a::f'))):=fun b z=>by
    simp only[List.mem_append] at z
    rcases z with z | z | z
    · exact p.rel.own b (by simp[z])
    · exact p.rel.own b (by simp[z])
    · exact p.own b z
  have nd:=p.nd
  rw[List.append_assoc] at nd
  refine k (.ref a) ⟨W1.F,W1.ι++[a]⟩ H1 (s++(g++(a::f'))) [] ⟨⟨⟨s,g++(a::f'),rfl,h1.ext x off_nil (fun _ _ z=>nomatch z),h2'⟩,nd,own,p.rel.fix⟩,.loc el,by rw[List.append_nil];exact nd,Own.nil,p.ext.trans x (fun _ z=>nomatch z),fun b z=>p.sub b (by simpa using z)⟩
end
def tyD(T:String)(d:D): Bool:=match d with
  | .lst _ _=>T=="list"
  | .dic true false _=>T=="dict"
  | _=>false
theorem tyD_V{K:PySem.W.Frag}{W:Wd}{H:Hp}{T:String}{v:V}{d:D}{f:List Addr}(r:RepD K W H v d f)(h:tyD T d=true): tyV K T v H:=by
  cases r with
  | lstF h1 l=>exact .inl ⟨by simpa [tyD] using h,_,h1.sq⟩
  | lstO h1 l=>exact .inl ⟨by simpa [tyD] using h,_,.inl (.inl h1)⟩
  | dkO h1 _ _=>exact .inr (.inr (.inl ⟨by simpa [tyD] using h,.inl ⟨_,h1⟩⟩))
  | _=>cases h
theorem tyD_und{T:String}{d:D}(h:tyD T d=true): d≠.und:=fun e=>by subst e;cases h
def mOpL(T:String)(g:D→List D→Res (D×D))(rs:MQ Pl)(a:M (List Arg)): M D:=fun m=>(rs m).bind fun p=>Res.when p.late ((Res.of (p.get m)).bind fun d0=>Res.when (tyD T d0) ((a m).bind fun r=>(vals r.1).bind fun ds=>(Res.of (p.get r.2)).bind fun d=>Res.when (tyD T d) ((g d ds).bind fun o=>.ok (o.1,p.put o.2 r.2))))
section
variable {X:Cx} {CT:Nat→Addr} {e o:Expr} {es:List Expr} {rs:MQ Pl} {ml:M (List Arg)} {al:MQ (List D)} {T:String} {name:Str} {id:String} {r:V→List V→Hp→VK→Prop} {g:D→List D→Res (D×D)} {apos cpos:Pos}
theorem w_opL {X:Cx} {CT:Nat→Addr} {rs:MQ Pl} {ml:M (List Arg)} {T:String} {r:V→List V→Hp→VK→Prop} {g:D→List D→Res (D×D)} (hd:MutD X r g):∀ σ H Q,tM X.K CT (mOpL T g rs ml) σ H Q→tBM X.K T r (tPl X.K CT rs) (tA X.K CT ml) σ H Q:=fun σ H Q ⟨W,m,fp,d,m',rel,e,k⟩=>by
    obtain⟨p,e1,e⟩:=Res.bind_eq e
    obtain⟨lt,e⟩:=Res.when_eq e
    obtain⟨d0,e2,e⟩:=Res.bind_eq e
    have e2:=Res.of_eq e2
    obtain⟨ty0,e⟩:=Res.when_eq e
    obtain⟨⟨as,m1⟩,e3,e⟩:=Res.bind_eq e
    obtain⟨ds,e4,e⟩:=Res.bind_eq e
    obtain⟨d1,e5,e⟩:=Res.bind_eq e
    have e5:=Res.of_eq e5
    obtain⟨ty1,e⟩:=Res.when_eq e
    obtain⟨⟨res,d2⟩,e6,e⟩:=Res.bind_eq e
    cases e
    refine⟨W,m,fp,p,rel,e1,fun v W1 H1 rel1 x1 now later=>?_⟩
    refine⟨?_,W1,m,fp,as,m1,rel1,e3,fun vs W2 H2 fp2 fd p2=>?_⟩
    · obtain⟨A,f,B,_,rd,_⟩:=now d0 e2 (tyD_und ty0)
      exact tyD_V rd ty0
    · obtain⟨A,f,B,rfl,rd,kk⟩:=later lt W2 H2 m1 fp2 fp d1 p2.rel p2.ext e5 (tyD_und ty1)
      have rl:=vals_rep p2.rep e4
      have nd:=p2.nd
      have nd2:(f++fd).Nodup:=by
        rw[List.nodup_iff_count];intro b
        have:=List.nodup_iff_count.mp nd b
        simp only[List.count_append] at this ⊢
        omega
      refine hd W2 H2 v d1 f vs ds fd res d2 Q p2.rel.fix (Own.app.mpr ⟨fun b z=>p2.rel.own b (by simp[z]),p2.own⟩) nd2 rd rl e6 fun x W' H' f' fr op=>?_
      have ps:=Hole.post p2.rel nd p2.own kk op
      have x2:Ext W H W2 H2 fp:=(x1.sub (fq:=fp) fun a z=>nomatch z).trans p2.ext fun a z=>.inl z
      have s2:∀ b∈A++f++B++fd,b∈fp∨H b=none:=fun b z=>(p2.sub b z).imp (fun h=>h) (x1.there b)
      exact k x W' H' _ fr ⟨ps.rel,ps.rep,ps.nd,ps.own,x2.trans ps.ext s2,fun b z=>by
        rcases ps.sub b z with z | z
        · exact s2 b z
        · exact .inr (x2.there b z)⟩
theorem me_opL(pa:PlainAttrs T)(slot:Slot T name id)(hty:typeOf (.builtin id)=pure (.type "method_descriptor"))(hm:MtR X id r)(hd:MutD X r g)(ho:MPl X CT o rs)(ha:MA X CT (e::es) ml)
    (hbase:attributeBase o name X.env (eval o X.env)=eval o X.env:=by rfl)
    (hfew:((backTo cpos (starEach (e::es) X.env)).all (fun x=>!x.1)&&(backToKw cpos (keywordEach [] X.env)).all (fun x=>x.1.isSome)
      && decide ((e::es).length+([]:List Keyword).length+(if ([]:List Keyword).isEmpty then 0 else 1)<30))=true:=by rfl)
    (hline:(apos.endLine==cpos.line)=true:=by rfl) (hs:starEach (e::es) X.env=(false,eval e X.env)::starEach es X.env:=by rfl) (hplain:(backTo cpos (starEach es X.env)).any (·.1)=false:=by rfl) :
    ME X CT (.Call (.Attribute o name apos) (e::es) [] cpos) (mOpL T g rs ml) :=
  pe_weak (pe_bm pa slot hty hm ho ha hbase hfew hline hs hplain) (w_opL hd)
end
end E
namespace E
open PySem L2 PySem.Spec PyProof.Rows
section
variable {K:PySem.W.Frag} {CT:Nat→Addr} {W W':Wd} {H H':Hp} {σ:L2.St} {m:Mem} {fp fd fx fx' fr f g:List Addr} {v x:V} {d d' res:D} {a:Addr}
theorem ext_updA{o:HO}: Ext W H W (upd H a o) [a]:=⟨fun _ h=>h,fun _ _ h=>h,fun b o h n=>by rw[upd_ne (fun z=>n (by simp[z]))];exact h,fun _ h=>.inl h,fun b h=>by
  by_cases e:b=a
  · subst e;rw[upd_same] at h;cases h
  · rw[upd_ne e] at h;exact h⟩
theorem mut_own {o:HO} (x0:Fix W H) (own:Own W H ((a::fx)++fd)) (nd:((a::fx)++fd).Nodup) (cnt:∀ b,(fx'++fr).count b≤(fx++fd).count b)
    (mk:Ext W H W (upd H a o) [a]→Off W [a]→(∀ b∈fx',b ∉ [a])→RepD K W (upd H a o) (.ref a) d' (a::fx')) (rx:RepD K W H x res fr) (ow:d'.owned=true) :
    OpPost K W H (a::fx) fd (.ref a) x res d' W (upd H a o) (a::fx') fr:=by
  have sub:∀ b∈fx'++fr,b∈fx++fd:=fun b z=>by
    have c1:=List.count_pos_iff.mpr z
    exact List.count_pos_iff.mp (Nat.lt_of_lt_of_le c1 (cnt b))
  have na:a ∉ fx++fd:=by
    rw[List.cons_append,List.nodup_cons] at nd
    exact nd.1
  have na':a ∉ fx'++fr:=fun z=>na (sub a z)
  have x:Ext W H W (upd H a o) [a]:=ext_updA
  have off:Off W [a]:=fun b z=>by rw[List.mem_singleton.mp z];exact(own a (by simp)).1
  have nf:∀ b∈fx',b ∉ [a]:=fun b z y=>by
    rw[List.mem_singleton.mp y] at z
    exact na' (by simp[z])
  have nr:∀ b∈fr,b ∉ [a]:=fun b z y=>by
    rw[List.mem_singleton.mp y] at z
    exact na' (by simp[z])
  refine⟨x.sub fun b z=>by rw[List.mem_singleton.mp z];simp,rfl,fix_upd x0,mk x off nf,rx.ext x off nr,?_,?_,?_,ow⟩
  · rw[List.cons_append,List.nodup_cons]
    refine⟨na',?_⟩
    rw[List.nodup_iff_count]
    intro b
    rw[List.cons_append,List.nodup_cons] at nd
    exact Nat.le_trans (cnt b) (List.nodup_iff_count.mp nd.2 b)
  · intro b z
    have ob:¬ W.F b∧H b≠none:=by
      rw[List.cons_append] at z
      rcases List.mem_cons.mp z with z | z
      · subst z;exact own b (by simp)
      · have:=sub b z
        exact own b (by rw[List.cons_append];exact List.mem_cons_of_mem _ this)
    refine⟨ob.1,?_⟩
    by_cases e:b=a
    · subst e;rw[upd_same];exact fun z=>by cases z
    · rw[upd_ne e];exact ob.2
  · intro b z
    rw[List.cons_append] at z
    rcases List.mem_cons.mp z with z | z
    · subst z;exact .inl (by simp)
    · rcases List.mem_append.mp (sub b z) with z | z
      · exact .inl (by simp[z])
      · exact .inr (.inl z)
theorem RepL.erase {vs:List V} {ds:List D}:∀ {g:List Addr},RepL K W H vs ds g→∀ {j:Nat} {d:D},ds[j]?=some d→∃ v f g',vs[j]?=some v∧RepD K W H v d f∧RepL K W H (vs.eraseIdx j) (ds.eraseIdx j) g'∧(g'++f).Perm g:=by
  induction vs generalizing ds with
  | nil=>intro g h j d e;cases h;simp at e
  | cons v vs ih=>intro g h j d e;cases h with
    | @cons _ d0 f0 _ ds g r l =>
      cases j with
      | zero =>
        simp at e;subst e
        exact⟨v,f0,g,rfl,r,l,List.perm_append_comm⟩
      | succ j =>
        obtain⟨v',f,g',e1,r',l',pm⟩:=ih l (by simpa using e)
        refine⟨v',f,f0++g',by simpa using e1,r',RepL.cons r l',?_⟩
        rw[List.append_assoc]
        exact List.Perm.append_left _ pm
end
@[simp] def gAppend: D→List D→Res (D×D)
  | .lst true xs,[y]=>Res.when (decide (xs.length<sizeLine)) (.ok (.non,.lst true (xs++[y])))
  | _,_=>.fail
@[simp] def gInsert: D→List D→Res (D×D)
  | .lst true xs,[.int n,y]=>Res.when (decide (xs.length<sizeLine)&&decide (0≤n∧n≤(xs.length:Int))) (.ok (.non,.lst true (insL n.toNat y xs)))
  | _,_=>.fail
@[simp] def gExtend: D→List D→Res (D×D)
  | .lst true xs,[.lst true ys]=>Res.when (decide (xs.length+ys.length≤sizeLine)) (.ok (.non,.lst true (xs++ys)))
  | _,_=>.fail
@[simp] def gPop: D→List D→Res (D×D)
  | .lst true xs,[]=>(Res.of (xs[xs.length - 1]?)).bind fun y=>.ok (y,.lst true (xs.eraseIdx (xs.length - 1)))
  | _,_=>.fail
@[simp] def gPopAt: D→List D→Res (D×D)
  | .lst true xs,[.int i]=>Res.when (decide (-9223372036854775808≤i∧i<9223372036854775808)) ((Res.of (seqIndex? i xs.length)).bind fun k=>(Res.of (xs[k]?)).bind fun y=>.ok (y,.lst true (xs.eraseIdx k)))
  | _,_=>.fail
section
variable {X:Cx}
theorem mu_append:MutD X rAppend gAppend:=fun W H v d f vs ds fd res d' Q x0 own nd rd rl e k=>by
  unfold gAppend at e
  split at e
  · rename_i xs y
    obtain⟨hl,e⟩:=Res.when_eq e
    cases e
    cases rd with
    | @lstO a vs' _ fx ha l =>
      cases rl with
      | @cons w _ fy _ _ gy ry rn =>
        cases rn
        rw[List.append_nil] at own nd
        refine⟨a,vs',w,rfl,rfl,ha,by rw[l.length];exact of_decide_eq_true hl,k .non W _ _ [] (mut_own x0 (fd:=fy++[]) (fx':=fx++fy) (by rw[List.append_nil];exact own) (by rw[List.append_nil];exact nd) (fun b=>by simp) (fun x off nn=>.lstO upd_same ?_) .non rfl)⟩
        have:=(l.app (RepL.cons ry .nil)).ext x off (by simpa using nn)
        simpa using this
  · cases e
theorem mu_pop: MutD X rPop gPop:=fun W H v d f vs ds fd res d' Q x0 own nd rd rl e k=>by
  unfold gPop at e
  split at e
  · rename_i xs
    obtain⟨y,e1,e⟩:=Res.bind_eq e
    have e1:=Res.of_eq e1
    cases e
    cases rd with
    | @lstO a vs' _ fx ha l =>
      cases rl
      obtain⟨w,fy,g',e2,ry,l',pm⟩:=l.erase e1
      have el:vs'[vs'.length - 1]?=some w:=by rw[l.length];exact e2
      refine⟨a,vs',w,rfl,rfl,ha,el,k w W _ _ fy (mut_own x0 (fd:=[]) (fx':=g') own nd (fun c=>by rw[pm.count_eq c];simp) (fun x off nn=>.lstO upd_same ?_) ry rfl)⟩
      have:=l'.ext x off nn
      rw[← l.length,PyProof.Rows.Copied.eraseIdx_last] at this
      rw[← l.length]
      exact this
  · cases e
end
def mOp0(T:String)(g:D→List D→Res (D×D))(rs:MQ Pl): M D:=fun m=>(rs m).bind fun p=>(Res.of (p.get m)).bind fun d=>Res.when (tyD T d) ((g d []).bind fun o=>.ok (o.1,p.put o.2 m))
section
variable {X:Cx} {CT:Nat→Addr} {pin:List Nat} {e o:Expr} {es:List Expr} {rs:MQ Pl} {T:String} {name:Str} {id:String} {r:V→List V→Hp→VK→Prop} {g:D→List D→Res (D×D)} {pos apos cpos:Pos} {q:MQ D}
theorem me_op0(pa:PlainAttrs T)(slot:Slot T name id)(hty:typeOf (.builtin id)=pure (.type "method_descriptor"))(hm:MtR X id r)(hd:MutD X r g)(ho:MPl X CT o rs)
    (hbase:attributeBase o name X.env (eval o X.env)=eval o X.env:=by rfl) (hline:(apos.endLine==cpos.line)=true:=by rfl) :
    ME X CT (.Call (.Attribute o name apos) [] [] cpos) (mOp0 T g rs) :=
  pe_weak (pe_bm0 pa slot hty hm ho hbase hline) fun σ H Q ⟨W,m,fp,d,m',rel,e,k⟩=>by
    obtain⟨p,e1,e⟩:=Res.bind_eq e
    obtain⟨d0,e2,e⟩:=Res.bind_eq e
    have e2:=Res.of_eq e2
    obtain⟨ty0,e⟩:=Res.when_eq e
    obtain⟨⟨res,d2⟩,e6,e⟩:=Res.bind_eq e
    cases e
    refine⟨W,m,fp,p,rel,e1,fun v W1 H1 rel1 x1 now later=>?_⟩
    obtain⟨A,f,B,rfl,rd,kk⟩:=now d0 e2 (tyD_und ty0)
    refine⟨tyD_V rd ty0,?_⟩
    have nd:(A++f++B++[]).Nodup:=by rw[List.append_nil];exact rel1.nd
    have ndf:(f++[]).Nodup:=by
      rw[List.nodup_iff_count];intro b
      have:=List.nodup_iff_count.mp nd b
      simp only[List.count_append] at this ⊢
      omega
    refine hd W1 H1 v d0 f [] [] [] res d2 Q rel1.fix (Own.app.mpr ⟨fun b z=>rel1.own b (by simp[z]),Own.nil⟩) ndf rd .nil e6 fun x W' H' f' fr op=>?_
    have ps:=Hole.post rel1 nd Own.nil kk op
    have x3:Ext W H W1 H1 (A++f++B):=x1.sub fun a z=>nomatch z
    have s2:∀ b∈A++f++B++[],b∈A++f++B∨H b=none:=fun b z=>.inl (by simpa using z)
    exact k x W' H' _ fr ⟨ps.rel,ps.rep,ps.nd,ps.own,x3.trans ps.ext s2,fun b z=>by
      rcases ps.sub b z with z | z
      · exact s2 b z
      · exact .inr (x3.there b z)⟩
def SetD(X:Cx)(t:TSet)(g:D→List D→Res (D×D)): Prop:=MutD X (fun v vs H Q=>∃ k y,vs=[k,y]∧t v k y H fun H'=>Q .non H') g
end
end E
namespace PySem
open Sem (wp)
end PySem
namespace E
open PySem L2 PySem.Spec PyProof.Rows
@[simp] def dMax2S: List D→Res D
  | [.int i,.int j]=>.ok (.int (if j > i then j else i))
  | [.str i,.str j]=>.ok (.str (if i.cps.toList<j.cps.toList then j else i))
  | _=>.fail
@[simp] def dMin2S: List D→Res D
  | [.int i,.int j]=>.ok (.int (if j<i then j else i))
  | [.str i,.str j]=>.ok (.str (if j.cps.toList<i.cps.toList then j else i))
  | _=>.fail
section
variable {X:Cx}
theorem CallR.or{f:Value}{r1 r2:List V→Hp→VK→Prop}(h1:CallR X f r1)(h2:CallR X f r2): CallR X f (fun xs H Q=>r1 xs H Q∨r2 xs H Q):=fun pins s σ H xs us Q I r h=>by
  rcases h with h | h
  · exact h1 pins s σ H xs us Q I r h
  · exact h2 pins s σ H xs us Q I r h
end
def leS(x y:Str): Bool:=!decide (y.cps.toList<x.cps.toList)
def insS(x:Str): List Str→List Str
  | []=>[x]
  | y::ys=>if leS x y then x::y::ys else y::insS x ys
def sortS: List Str→List Str
  | []=>[]
  | x::xs=>insS x (sortS xs)
def toStrs: List D→Option (List Str)
  | []=>some []
  | .str i::r=>(toStrs r).map (i::·)
  | _::_=>none
theorem toStrs_eq: ∀ {ds:List D} {ns:List Str},toStrs ds=some ns→ds=ns.map .str
  | [],ns,e=>by cases e;rfl
  | .str i::r,ns,e=>by
    simp only[toStrs,Option.map_eq_some_iff] at e
    obtain⟨ms,e1,rfl⟩:=e
    rw[toStrs_eq e1];rfl
theorem toStrs_map: ∀ ns:List Str,toStrs (ns.map .str)=some ns
  | []=>rfl
  | n::ns=>by
    show(toStrs (ns.map .str)).map (n::·)=_
    rw[toStrs_map ns]
    rfl
section
variable {X:Cx}
@[simp] def dSortS: List D→Res D
  | [.lst _ xs]=>match toInts xs with
    | some ns=>.ok (.lst true ((sortI ns).map .int))
    | none=>(Res.of (toStrs xs)).bind fun ns=>Res.when (decide (ns.length<64)) (.ok (.lst true ((sortS ns).map .str)))
  | _=>.fail
end
def signs(z:Str): List D:=z.cps.toList.map fun c=>.str ⟨#[c]⟩
def miT(e:M D): M It:=fun m=>(e m).bind fun r=>match r.1 with
  | .str z=>.ok ((signs z,fun(_:Mem)=>True),r.2)
  | _=>.fail
def miBx (q:MQ D):M It:=fun m=>(q m).bind fun d=>match d with
  | .loc k=>(Res.of (boxIn m.hs[k]?)).bind fun d0=>match d0 with
    | .lst true xs=>Res.when (pureL xs) (.ok ((xs,fun(m':Mem)=>boxIn m'.hs[k]?=some (.lst true xs)),m))
    | _=>.fail
  | _=>.fail
section
variable {X:Cx} {CT:Nat→Addr} {pi:List Nat} {e tg:Expr} {me:M D} {q:MQ D}
theorem runs_s{K:PySem.W.Frag}{W:Wd}{H:Hp}{σ:L2.St}{fp:List Addr}{z:Str}{ok:Mem→Prop}: Runs K CT pi (Its z) W H σ fp (signs z) ok:=by
  intro m2 σ2 W2 H2 fp2 p o i
  unfold signs
  refine⟨fun d e=>?_,fun hl=>by
    have hl:z.cps.size≤i:=by simpa using hl
    exact hl⟩
  rw[List.getElem?_map,Option.map_eq_some_iff] at e
  obtain⟨c,e1,rfl⟩:=e
  have hi:i<z.cps.size:=by
    have:=(List.getElem?_eq_some_iff.mp e1).1
    simpa using this
  refine⟨hi,fun x H3 y=>?_⟩
  obtain⟨rfl,c',e2,rfl⟩:=y
  have:c=c':=by
    rw[Array.getElem?_toList,e2] at e1
    exact(Option.some.inj e1).symm
  subst this
  exact⟨W2,.str,Ext.refl _ _ _,rfl,p.rel.fix⟩
theorem mi_t(h:ME X CT e me): MI X CT pi tg e (miT me):=pi_weak (pi_str h) fun σ H R ⟨W,m,fp,it,m',rel,e,k⟩=>by
  obtain⟨⟨d,m1⟩,e1,e⟩:=Res.bind_eq e
  dsimp only at e
  split at e
  · cases e
    refine⟨W,m,fp,_,_,rel,e1,fun v W1 H1 fp1 fd p=>?_⟩
    have rp:=p.rep
    cases rp
    exact⟨_,rfl,k _ W1 H1 fp1 p.t runs_s⟩
  · cases e
end
end E
namespace PySem
open Sem (wp)
open AutoSeq1 (wpAny_loadPart')
end PySem
namespace E
open PySem L2 PySem.Spec PyProof.Rows
section
variable {K:PySem.W.Frag} {CT:Nat→Addr} {pi:List Nat} {W:Wd} {H:Hp} {σ:L2.St} {fp:List Addr}
end
@[simp] def enOfT(m:Mem): D→Res (It×Mem)
  | .tup xs=>Res.when (pureL xs) (.ok ((enumD xs,fun(_:Mem)=>True),m))
  | _=>.fail
section
variable {X:Cx} {CT:Nat→Addr} {pi pin:List Nat} {e:Expr} {elts:List Expr} {kk:Nat} {pos p0 tpos:Pos} {q:MQ D}
end
end E
namespace E
open PySem L2 PySem.Spec PyProof.Rows
def insQ(p:Int×Int): List (Int×Int)→List (Int×Int)
  | []=>[p]
  | q::r=>if ltP q p then q::insQ p r else p::q::r
def sortQ: List (Int×Int)→List (Int×Int)
  | []=>[]
  | p::r=>insQ p (sortQ r)
section
variable {X:Cx}
@[simp] def dSortQ: List D→Res D
  | [.lst _ xs]=>(Res.of (toPairs xs)).bind fun ps=>.ok (.lst true ((sortQ ps).map pD))
  | _=>.fail
end
end E
namespace E
open PySem PySem.Spec PyProof.Rows L2 RT
section
variable {prog:Program} {w:World} {A:Around} {E:Value→Shared→Prop} {s:Shared}
end
section
variable {prog:Program} {w:World} {A:Around} {E:Value→Shared→Prop} {s:Shared}
end
end E
namespace E
open PySem L2
section
variable {K:PySem.W.Frag} {W:Wd} {H:Hp}
theorem New.dic{p:Addr}(x:Fix W H)(hp:H p=none): New K W H (.ref p) (.dic true false []) W (upd H p (.dK [])) [p] :=
  ⟨.dkO (kvs:=[]) upd_same rfl .nil,ext_upd hp,rfl,fix_upd x,by simp,fun a m=>by
    obtain rfl:a=p:=by simpa using m
    exact⟨fun z=>x a z hp,by rw[upd_same];exact fun z=>by cases z⟩,fun a m=>by
    obtain rfl:a=p:=by simpa using m
    exact hp⟩
theorem RepL.app0{vs ws:List V}{ds es:List D}(a:RepL K W H vs ds [])(b:RepL K W H ws es []): RepL K W H (vs++ws) (ds++es) []:=by
  induction vs generalizing ds with
  | nil=>cases a;exact b
  | cons v vs ih =>
    generalize hf:([]:List Addr)=g at a
    cases a with
    | @cons _ d f _ ds' g' r l =>
      have h:=hf.symm
      rw[List.append_eq_nil_iff] at h
      obtain⟨rfl,rfl⟩:=h
      exact .cons (f:=[]) (g:=[]) r (ih l)
end
section
variable {K:PySem.W.Frag} {W:Wd} {H:Hp}
end
def gOr(g g':D→List D→Res (D×D)): D→List D→Res (D×D):=fun d ds=>match g d ds with
  | .ok r=>.ok r
  | _=>g' d ds
theorem SetD.or{X:Cx}{t t':TSet}{g g':D→List D→Res (D×D)}(h:SetD X t g)(h':SetD X t' g'): SetD X (fun o i v H Q=>t o i v H Q∨t' o i v H Q) (gOr g g'):=fun W H v d f vs ds fd res d' Q x0 own nd rd rl e k=>by
  unfold gOr at e
  split at e
  · rename_i r e1
    cases e
    obtain⟨k0,y,e2,ht⟩:=h W H v d f vs ds fd res d' Q x0 own nd rd rl e1 k
    exact⟨k0,y,e2,.inl ht⟩
  · obtain⟨k0,y,e2,ht⟩:=h' W H v d f vs ds fd res d' Q x0 own nd rd rl e k
    exact⟨k0,y,e2,.inr ht⟩
theorem PSet.or{X:Cx}{t t':TSet}(h:PSet X t)(h':PSet X t'): PSet X (fun o i v H Q=>t o i v H Q∨t' o i v H Q):=by
  intro pins s σ H o i v ov iv u Q I ro ri rv q
  rcases q with q | q
  · exact h pins s σ H o i v ov iv u Q I ro ri rv q
  · exact h' pins s σ H o i v ov iv u Q I ro ri rv q
end E
namespace E
open PySem L2
section
variable {K:PySem.W.Frag} {CT:Nat→Addr} {W W':Wd} {H H':Hp}
def mpNil: M (List (D×D)):=fun m=>.ok ([],m)
def mpCons(qk:MQ D)(mv:M D)(mp:M (List (D×D))): M (List (D×D)):=fun m=>(qk m).bind fun kd=>(Res.of (toKey kd)).bind fun q=>(mv m).bind fun r=>Res.when r.1.pure ((mp r.2).bind fun s=>.ok ((kD q,r.1)::s.1,s.2))
end
end E
namespace E
open PySem L2 PySem.Spec PyProof.Rows PySem.Froz
section
variable {P:Program} {w:World} {A:Around} {Ex:Value→Shared→Prop} {s:Shared}
structure Wk (w:World) (D:SD):Prop where
  r:Ris D.2.2.place.toList
  l:w.params.followText "set-order"=true∨D.2.2.led=true
theorem Wk.tail{ep:Nat}{es:Array (Int×Value)}{t:SetTable}{b:Bool}(k:Wk w (es,ep,t)): Wk w (tailTx ep es t b):=by
  unfold tailTx
  split
  · exact⟨relayAll_ris t es _,k.l.imp id fun z=>by
      show(relayAll t es (SetTable.grown es.size)).2.1.led=true
      rw[relayAll_led]
      exact z⟩
  · exact⟨k.r,k.l⟩
theorem Wk.add{D:SD}(k:Wk w D)(h:Int)(v:Value): Wk w (addTx h v D):=by
  unfold addTx
  refine Wk.tail ⟨?_,?_⟩
  · have:=layNew_ris D.2.2 D.1 h v k.r
    dsimp only
    split <;> exact this
  · have e:=layNew_led D.2.2 D.1 h v
    have:w.params.followText "set-order"=true∨(layNew D.2.2 D.1 h v).2.1.led=true:=k.l.imp id fun z=>by rw[e];exact z
    dsimp only
    split <;> exact this
def strOf: Value→Str
  | .str k _=>k
  | _=>⟨#[]⟩
structure Rws (D:SD) (l:List Str):Prop where
  p:(D.1.toList.map fun e=>strOf e.2).Perm l
  s:∀ e∈D.1.toList,∃ k u,e.2=Value.str k u
theorem Rws.perm{es es':Array (Int×Value)}{ep ep':Nat}{t t':SetTable}{l:List Str}(r:Rws (es,ep,t) l)(p:List.Perm es'.toList es.toList): Rws (es',ep',t') l :=
  ⟨(p.map _).trans r.p,fun e m=>r.s e (p.mem_iff.mp m)⟩
theorem Rws.tail{ep:Nat}{es:Array (Int×Value)}{t:SetTable}{b:Bool}{l:List Str}(r:Rws (es,ep,t) l): Rws (tailTx ep es t b) l:=by
  unfold tailTx
  split
  · exact r.perm (relayAll_perm t es _)
  · exact r.perm (.refl _)
theorem Rws.add{D:SD}{l:List Str}(r:Rws D l)(h:Int)(k:Str)(u:Tok): Rws (addTx h (.str k u) D) (k::l):=by
  obtain⟨es,ep,t⟩:=D
  unfold addTx
  refine Rws.tail ?_
  have pm:=layNew_perm t es h (.str k u)
  rw[Array.toList_push] at pm
  have pc:=pm.trans (List.perm_append_singleton _ _)
  refine⟨(pc.map _).trans (.cons k r.p),fun e m=>?_⟩
  rcases List.mem_cons.mp (pc.mem_iff.mp m) with z | z
  · exact⟨k,u,by rw[z]⟩
  · exact r.s e z
def SetX(P:Program)(w:World)(h:Heap)(a:Addr)(l:List Str): Prop:=∃ D:SD,h.get? a=some (sObj "set" D)∧TxOk P w D l∧l.Nodup∧l.length<scanBound∧Wk w D∧Rws D l
theorem SetX.at{h h':Heap}{a:Addr}{l:List Str}(R:SetX P w h a l)(k:∀ o,h.get? a=some o→h'.get? a=some o): SetX P w h' a l:=by
  obtain⟨D,e,r⟩:=R
  exact⟨D,k _ e,r⟩
end
section
variable {X:Cx}
end
section
variable {X:Cx} {CT:Nat→Addr} {pi pin:List Nat} {elt tg iter:Expr} {ifs:List Expr} {scope:Scope} {own:List (Str×Nat)} {pos p0 pos':Pos} {it:M E.It} {b:D→Mem→Res Mem} {tt:M Bool} {el:M D}
end
end E
namespace E
open PySem L2 PySem.Spec PyProof.Rows
structure Unl (W W':Wd) (H H':Hp) (a:Addr) (od:Obj) (kvs:List (Key×V)):Prop where
  f:W.F a
  h:H a=some (.frz od (.dK kvs))
  hu:H'=upd H a (.dK kvs)
  fu:∀ b,W'.F b↔(W.F b∧b≠a)
  iu:W'.ι=W.ι
section
variable {K:PySem.W.Frag} {CT:Nat→Addr} {W W':Wd} {H H':Hp} {a:Addr} {od:Obj} {kvs:List (Key×V)}
theorem Unl.keep(u:Unl W W' H H' a od kvs){b:Addr}{o:HO}(e:H b=some o)(n:b≠a): H' b=some o:=by rw[u.hu,upd_ne n];exact e
theorem Unl.rd(u:Unl W W' H H' a od kvs){b:Addr}{o:HO}(r:Rd H b o)(n:o≠.dK kvs)(n2:o≠.frz od (.dK kvs)): b≠a∧Rd H' b o:=by
  have ne:b≠a:=by
    rintro rfl
    rcases r with r | ⟨o',r⟩
    · rw[u.h] at r;exact n2 (Option.some.inj r).symm
    · rw[u.h] at r;cases r;exact n rfl
  refine⟨ne,?_⟩
  rcases r with r | ⟨o',r⟩
  · exact .inl (u.keep r ne)
  · exact .inr ⟨o',u.keep r ne⟩
mutual
theorem RepD.unl(u:Unl W W' H H' a od kvs): ∀ {v:V} {d:D} {g:List Addr},RepD K W H v d g→a ∉ g→RepD K W' H' v d g
  | _,_,_,.non,_=>.non
  | _,_,_,.bl,_=>.bl
  | _,_,_,.int,_=>.int
  | _,_,_,.str,_=>.str
  | _,_,_,.loc h,_=>.loc (by rw[u.iu];exact h)
  | _,_,_,.ty,_=>.ty
  | _,_,_,.fn h,_=>.fn h
  | _,_,_,.tup h l,n=>.tup (h.imp (fun q=>by
      obtain⟨n1,r⟩:=u.rd q.2 (fun z=>nomatch z) (fun z=>nomatch z)
      exact⟨(u.fu _).mpr ⟨q.1,n1⟩,r⟩) id) (RepL.unl u l n)
  | _,_,_,.lstF h l,n=>.lstF (h.imp (fun q=>by
      obtain⟨n1,r⟩:=u.rd q.2 (fun z=>nomatch z) (fun z=>nomatch z)
      exact⟨(u.fu _).mpr ⟨q.1,n1⟩,r⟩) id) (RepL.unl u l n)
  | _,_,_,.lstO h l,n=>.lstO (u.keep h fun z=>n (by rw[z];exact List.mem_cons_self ..)) (RepL.unl u l fun z=>n (List.mem_cons_of_mem _ z))
  | _,_,_,.dkF f h k l,n=>by
    have ne:∀ {b:Addr} {kv:List (Key×V)},H b=some (.dK kv)→b≠a:=fun e z=>by rw[z,u.h] at e;cases e
    exact .dkF ((u.fu _).mpr ⟨f,ne h⟩) (u.keep h (ne h)) k (RepL.unl u l n)
  | _,_,_,.dtF f h k t l,n=>by
    have ne:∀ {b:Addr} {kv:List (List Int×Addr×V)},H b=some (DtO b kv)→b≠a:=fun e z=>by unfold DtO at e;rw[z,u.h] at e;cases e
    exact .dtF ((u.fu _).mpr ⟨f,ne h⟩) (u.keep h (ne h)) k (fun p m=>(t p m).imp (fun q=>by
      obtain⟨n1,r⟩:=u.rd q.2 (fun z=>nomatch z) (fun z=>nomatch z)
      exact⟨(u.fu _).mpr ⟨q.1,n1⟩,r⟩) id) (RepL.unl u l n)
  | _,_,_,.dkO h k l,n=>.dkO (u.keep h fun z=>n (by rw[z];exact List.mem_cons_self ..)) k (RepL.unl u l fun z=>n (List.mem_cons_of_mem _ z))
  | _,_,_,.dtO h k t l,n=>.dtO (u.keep h fun z=>n (by rw[z];exact List.mem_cons_self ..)) k (fun p m=>(t p m).imp (fun q=>by
      obtain⟨n1,r⟩:=u.rd q.2 (fun z=>nomatch z) (fun z=>nomatch z)
      exact⟨(u.fu _).mpr ⟨q.1,n1⟩,r⟩) id) (RepL.unl u l fun z=>n (List.mem_cons_of_mem _ z))
theorem RepL.unl(u:Unl W W' H H' a od kvs): ∀ {vs:List V} {ds:List D} {g:List Addr},RepL K W H vs ds g→a ∉ g→RepL K W' H' vs ds g
  | _,_,_,.nil,_=>.nil
  | _,_,_,.cons h l,n=>.cons (RepD.unl u h fun z=>n (List.mem_append_left _ z)) (RepL.unl u l fun z=>n (List.mem_append_right _ z))
end
theorem RepS.unl(u:Unl W W' H H' a od kvs){σ:L2.St}{env:List D}{g:List Addr}(h:RepS K W H σ env g)(n:a ∉ g): RepS K W' H' σ env g:=by
  induction h with
  | nil=>exact .nil
  | und _ ih=>exact .und (ih n)
  | cons r _ ih=>exact .cons (r.unl u fun z=>n (List.mem_append_left _ z)) (ih fun z=>n (List.mem_append_right _ z))
theorem RepH.unl0(u:Unl W W' H H' a od kvs){ι:List Addr}{hs:List Ob}{g:List Addr}(h:RepH K CT W H ι hs g)(n:a ∉ g)(ni:a ∉ ι): RepH K CT W' H' ι hs g:=by
  induction h with
  | nil=>exact .nil
  | box h1 _ ih=>exact .box (h1.unl u fun z=>n (List.mem_append_left _ z)) (ih (fun z=>n (List.mem_append_right _ z)) fun z=>ni (List.mem_cons_of_mem _ z))
  | @lk b od' kvs' dd ι hs g f0 n0 h1 h2 h3 _ ih =>
    have ne:b≠a:=fun z=>ni (by rw[z];exact List.mem_cons_self ..)
    exact .lk ((u.fu _).mpr ⟨f0,ne⟩) n0 (u.keep h1 ne) h2 (h3.unl u fun z=>nomatch z) (ih n fun z=>ni (List.mem_cons_of_mem _ z))
  | @cons b c dx fvs fs f ι hs g h0 h1 h2 h3 _ ih =>
    have ne:b≠a:=fun z=>ni (by rw[z];exact List.mem_cons_self ..)
    exact .cons h0 (u.keep h1 ne) h2 (h3.unl u fun z=>n (by simp[z])) (ih (fun z=>n (List.mem_append_right _ z)) fun z=>ni (List.mem_cons_of_mem _ z))
theorem RepH.unl(u:Unl W W' H H' a od kvs){ι:List Addr}{hs:List Ob}{g:List Addr}(h:RepH K CT W H ι hs g): a ∉ g→∀ {n:Nat} {dd:List (D×D)},hs[n]?=some ⟨LOCKC,[("",.dic true false dd)]⟩→ι[n]?=some a →
    ∃ A B,g=A++B∧RepH K CT W' H' ι (hs.set n ⟨BOXC,[("",.dic true false dd)]⟩) (A++[a]++B):=by
  induction h with
  | nil=>intro na n dd e;simp at e
  | @box b d f ι hs g h1 h4 ih =>
    intro na n dd e ea
    cases n with
    | zero =>
      have e:(⟨BOXC,[("",d)]⟩:Ob)=⟨LOCKC,[("",.dic true false dd)]⟩:=by simpa using e
      exact absurd (congrArg Ob.cls e) (by show ¬ BOXC=LOCKC;decide)
    | succ n =>
      obtain⟨A,B,rfl,k⟩:=ih (fun z=>na (List.mem_append_right _ z)) (n:=n) (dd:=dd) (by simpa using e) (by simpa using ea)
      refine⟨(b::f)++A,B,by simp,?_⟩
      have:=RepH.box (h1.unl u fun z=>na (List.mem_append_left _ z)) k
      simpa using this
  | @lk b od' kvs' dd' ι hs g f0 n0 h1 h2 h3 h4 ih =>
    intro na n dd e ea
    cases n with
    | zero =>
      have e:(⟨LOCKC,[("",.dic true false dd')]⟩:Ob)=⟨LOCKC,[("",.dic true false dd)]⟩:=by simpa using e
      cases e
      obtain rfl:b=a:=by simpa using ea
      rw[u.h] at h1
      cases h1
      refine⟨[],g,rfl,?_⟩
      have:=RepH.box (CT:=CT) (RepD.dkO (a:=b) (by rw[u.hu];exact upd_same) h2 (h3.unl u fun z=>nomatch z)) (h4.unl0 u na n0)
      simpa using this
    | succ n =>
      have ea:ι[n]?=some a:=by simpa using ea
      obtain⟨A,B,e1,k⟩:=ih na (n:=n) (dd:=dd) (by simpa using e) ea
      have ne:b≠a:=fun z=>n0 (by rw[z];exact List.mem_of_getElem? ea)
      exact⟨A,B,e1,.lk ((u.fu _).mpr ⟨f0,ne⟩) n0 (u.keep h1 ne) h2 (h3.unl u fun z=>nomatch z) k⟩
  | @cons b c dx fvs fs f ι hs g h0 h1 h2 h3 h4 ih =>
    intro na n dd e ea
    cases n with
    | zero =>
      have e:(⟨c,fs⟩:Ob)=⟨LOCKC,[("",.dic true false dd)]⟩:=by simpa using e
      have:c=LOCKC:=congrArg Ob.cls e
      rw[this] at h0
      exact absurd h0 (by decide)
    | succ n =>
      obtain⟨A,B,rfl,k⟩:=ih (fun z=>na (List.mem_append_right _ z)) (n:=n) (dd:=dd) (by simpa using e) (by simpa using ea)
      have ne:b≠a:=fun z=>na (by rw[z];simp)
      refine⟨(b::f)++A,B,by simp,?_⟩
      have:=RepH.cons h0 (u.keep h1 ne) h2 (h3.unl u fun z=>na (by simp[z])) k
      simpa using this
end
section
variable {K:PySem.W.Frag} {CT:Nat→Addr} {W W1 W2:Wd} {H H2:Hp} {σ σ2:L2.St} {m2:Mem} {fp fp2:List Addr}
end
def lkIn: Option Ob→Option (List (D×D))
  | some ⟨c,[(s,.dic true false dd)]⟩=>if c=LOCKC∧s="" then some dd else none
  | _=>none
theorem lkIn_box{dd:List (D×D)}: lkIn (some ⟨LOCKC,[("",.dic true false dd)]⟩)=some dd:=by
  show(if LOCKC=LOCKC∧("":String)="" then some dd else none)=some dd
  rw[if_pos ⟨rfl,rfl⟩]
def miLk(i:Nat): M It:=fun m=>match m.env[i]? with
  | some (.loc k)=>(Res.of (lkIn m.hs[k]?)).bind fun dd=>.ok ((dd.map (·.1),fun(_:Mem)=>True),m)
  | _=>.fail
section
variable {X:Cx} {CT:Nat→Addr} {pi:List Nat} {e tg a b:Expr} {i:Nat} {qb:MQ D} {pos:Pos}
end
end E
namespace E
open PySem L2 PySem.Spec PyProof.Rows
inductive HitV (K:PySem.W.Frag) (H:Hp) (ls:List (Key×V)):List (Key×V)→Bool→Prop
  | nil:HitV K H ls [] true
  | miss {k v r}:valV ls k=none→HitV K H ls ((k,v)::r) false
  | hit {k v y r p q b}:valV ls k=some y→Dp K H v p→Dp K H y q→shp p=true→shp q=true→HitV K H ls r b→HitV K H ls ((k,v)::r) (PyData.eqv p q&&b)
section
variable {X:Cx} {pins:List (Addr×Obj)} {σ:L2.St} {H:Hp} {s:Shared}
end
end E
namespace E
open PySem L2
section
variable {X:Cx}
def toBls: List D→Option (List Bool)
  | []=>some []
  | .bl b::r=>(toBls r).map (b::·)
  | _::_=>none
theorem toBls_eq: ∀ {ds:List D} {bs:List Bool},toBls ds=some bs→ds=bs.map .bl
  | [],bs,h=>by cases h;rfl
  | .bl b::r,bs,h=>by
    unfold toBls at h
    obtain⟨bs',e,rfl⟩:=Option.map_eq_some_iff.mp h
    rw[List.map_cons,← toBls_eq e]
  | .non::_,_,h=>by cases h
  | .int _::_,_,h=>by cases h
  | .str _::_,_,h=>by cases h
  | .tup _::_,_,h=>by cases h
  | .lst _ _::_,_,h=>by cases h
  | .dic _ _ _::_,_,h=>by cases h
  | .loc _::_,_,h=>by cases h
  | .ty _::_,_,h=>by cases h
  | .fn _::_,_,h=>by cases h
  | .und::_,_,h=>by cases h
theorem repBl{K:PySem.W.Frag}{W:Wd}{H:Hp}: ∀ {vs:List V} {bs:List Bool} {g:List Addr},RepL K W H vs (bs.map .bl) g→vs=bs.map .bl
  | [],[],_,_=>rfl
  | [],_::_,_,h=>by cases h
  | _::_,[],_,h=>by cases h
  | v :: vs,b::bs,_,h=>by
    rw[List.map_cons] at h
    cases h with
    | cons r l =>
      cases r
      rw[repBl l]
      rfl
def dAll: List D→Res D
  | [.lst _ xs]=>(Res.of (toBls xs)).bind fun bs=>.ok (.bl (bs.all id))
  | _=>.fail
theorem cd_all(hc:X.calm=true): CallD X (.builtin "all") dAll:=⟨_,cr_all hc,fun W H xs ds fs d Q x0 l e k=>by
  unfold dAll at e;split at e
  · obtain⟨bs,e1,e⟩:=Res.bind_eq e
    cases e
    have e2:=toBls_eq (Res.of_eq e1)
    cases l with | cons r l =>
      cases l
      obtain⟨a,vs,g,rfl,s,l,_⟩:=r.lst
      rw[e2] at l
      obtain rfl:=repBl l
      exact⟨a,bs,rfl,s,k _ W H [] (New.sc x0 .bl)⟩
  · cases e⟩
def dOrd: List D→Res D
  | [.str z]=>Res.when (decide (z.length=1)) (.ok (.int (z.cps.getD 0 0:Nat)))
  | _=>.fail
theorem cd_ord: CallD X (.builtin "ord") dOrd:=⟨_,call_ord,fun W H xs ds fs d Q x0 l e k=>by
  unfold dOrd at e;split at e
  · obtain⟨h,e⟩:=Res.when_eq e
    cases e
    cases l with | cons r l =>
      cases l
      cases r
      exact⟨_,rfl,of_decide_eq_true h,k _ W H [] (New.sc x0 .int)⟩
  · cases e⟩
end
end E
namespace L2
open PySem PySem.Spec PyProof.Rows
end L2
namespace E
open PySem L2
theorem repL_rep{K:PySem.W.Frag}{W:Wd}{H:Hp}{vs:List V}{ds:List D}(l:RepL K W H vs ds []): ∀ n:Nat,RepL K W H (List.replicate n vs).flatten (List.replicate n ds).flatten []
  | 0=>.nil
  | n+1=>by
    rw[List.replicate_succ,List.replicate_succ,List.flatten_cons,List.flatten_cons]
    exact l.app0 (repL_rep l n)
end E
namespace E
open PySem L2
section
variable {X:Cx}
end
end E
namespace E
open PySem L2 PySem.Spec PyProof.Rows
def toIs: List D→Option (List Int)
  | []=>some []
  | .int i::r=>(toIs r).map (i::·)
  | _=>none
def keyX: D→Option (List Int)
  | .tup ds=>toIs ds
  | _=>none
theorem toIs_map: ∀ ks:List Int,toIs (ks.map D.int)=some ks
  | []=>rfl
  | k::ks=>by rw[List.map_cons,toIs,toIs_map ks];rfl
theorem keyX_kDX(ks:List Int): keyX (kDX ks)=some ks:=toIs_map ks
section
variable {X:Cx} {pins:List (Addr×Obj)} {σ:L2.St} {H:Hp} {s:Shared} {a b:Addr} {kvs:List (List Int×Addr×V)} {ks:List Int}
end
section
variable {K:PySem.W.Frag} {W:Wd} {H:Hp}
end
section
variable {K:PySem.W.Frag} {W:Wd} {H:Hp}
end
section
variable {X:Cx} {CT:Nat→Addr} {a b:Expr} {qa qb:MQ D} {pos:Pos}
end
section
variable {K:PySem.W.Frag} {W:Wd} {H:Hp}
end
end E
namespace E
open PySem L2 PySem.Spec PyProof.Rows
open PySem.W (alike alikeAll dataLt keyToks keyToksAll AllAlike Sortable EachIs dataLe)
section
variable {X:Cx} {cop:CmpOp} {f:PyData→PyData→Bool}
end
section
variable {X:Cx}
end
end E
namespace E
open PySem L2
end E
namespace E
open PySem L2
end E
namespace E
open PySem L2 PySem.Spec PyProof.Rows
section
variable {X:Cx} {CT:Nat→Addr} {pin:List Nat} {e o:Expr} {pos pos':Pos} {qa qe:MQ D} {cs:List Nat} {f:String} {g:D→D→Res D} {op:Operator}
end
end E
namespace E
open PySem PySem.Spec PyProof.Rows L2 HT
section
variable {prog:Program} {w:World} {A:Around} {E:Value→Shared→Prop} {s:Shared}
end
def rsQ(q:MQ D): MQ Pl:=fun m=>(q m).bind fun d=>match d with
  | .loc k=>.ok (.bx k)
  | _=>.fail
theorem pl_q {X:Cx} {CT:Nat→Addr} {e:Expr} {q:MQ D} (h:MEQ X CT e q):MPl X CT e (rsQ q):=pe_weak h fun σ H Q ⟨W,m,fp,p,rel,e,k⟩=>by
  obtain⟨d,e1,e⟩:=Res.bind_eq e
  refine⟨W,m,fp,d,rel,e1,fun v W1 H1 fd pq=>?_⟩
  have rp:=pq.rep
  split at e
  · cases e
    cases rp with
    | @loc _ a ei =>
      refine k _ W1 H1 pq.rel pq.ext (fun d e3 _=>?_) (fun _ W2 H2 m2 fp2 fq d r2 x e3 _=>?_)
      · obtain⟨a',ei',hh⟩:=hole_bx pq.rel e3
        rw[ei] at ei'
        cases ei'
        exact hh
      · obtain⟨a',ei',hh⟩:=hole_bx r2 e3
        have:=x.im _ _ ei
        rw[ei'] at this
        cases this
        exact hh
  · cases e
def mqJoin(q1 q2:MQ D): MQ D:=fun m=>(q1 m).bind fun d1=>(q2 m).bind fun d2=>match d1,d2 with
  | .str a,.lst _ xs=>(Res.of (toStrs xs)).bind fun ys=>Res.when (decide ((ys.map (·.length)).sum+ys.length*a.length≤16777216)) (.ok (.str (Txt.join a ys)))
  | _,_=>.fail
theorem repL_strs{K:PySem.W.Frag}{W:Wd}{H:Hp}: ∀ {ys:List Str} {vs:List V} {f:List Addr},RepL K W H vs (ys.map D.str) f→vs=ys.map V.str
  | [],_,_,h=>by cases h;rfl
  | y :: ys,_,_,h=>by
    rw[List.map_cons] at h
    cases h with
    | cons r l =>
      cases r
      rw[repL_strs l]
      rfl
end E
namespace E
open PySem PySem.Spec PyProof.Rows L2
section
variable {X:Cx} {CT:Nat→Addr} {CX:CXT} {k n i:Nat} {f:Addr} {fd:FuncData} {ps:List Str} {dvs:List V} {ds:List Value} {dd:List D} {x:Str} {p pos:Pos} {g:CallM} {s:String}
end
end E
namespace E
open PySem PySem.Spec PyProof PyProof.Rows L2
end E
namespace E
open PySem PySem.Spec PyProof PyProof.Rows L2
end E
namespace E
open PySem PySem.Spec PyProof PyProof.Rows L2
end E
namespace E
open PySem L2
end E
namespace E
open PySem L2
end E
namespace E
open PySem L2
section
variable {X:Cx} {CT:Nat→Addr} {es es':List Expr} {pos pos1 pos2:Pos} {cop:CmpOp} {g:D→D→Res D} {q1 q2:MQ (List D)}
end
end E
namespace E
open PySem L2
theorem fn_none{P:Program}{w:World}{K:PySem.W.Frag}{mg:Str→Option Value}{base:Heap}{CT:Nat→Addr}{k n:Nat}{f:Addr}{fd:FuncData}{ps:List Str}(hn:ps.length=n):
    FnOk P w K mg base CX0 k f fd ps (spM K CT n (fun _ _=>.fail)) :=
  ⟨fun vs H Q E h=>by rw[hn];exact spM_len h,fun A outer s H args us vs Q E hr he hb hv hs=>by
    obtain⟨W,ds,hs',fd',fh,r,ds',hs'',_,_,_,_,_,_,e,_⟩:=hs
    cases e⟩
end E
namespace E
open PySem L2
def dMulL: D→D→Res D
  | .lst true ds,.int k=>Res.when (pureL ds&&(decide (-(2 ^ 63)≤k)&&(decide (k<2 ^ 63)&&decide (ds.length*k.toNat≤sizeLine)))) (.ok (.lst true (List.replicate k.toNat ds).flatten))
  | _,_=>.fail
theorem od_mulL{X:Cx}: OpD X (binaryOp .Mult) dMulL:=by
  refine⟨_,op_rep,fun W H x y d1 d2 f1 f2 d Q x0 a b e q=>?_⟩
  unfold dMulL at e
  split at e
  · rename_i ds k
    obtain⟨h,e⟩:=Res.when_eq e
    cases e
    simp only[Bool.and_eq_true,decide_eq_true_eq] at h
    obtain⟨h1,h2,h3,h4⟩:=h
    cases b
    cases a with
    | lstO hl l =>
      obtain rfl:=l.pure h1
      exact⟨_,k,_,rfl,rfl,hl,h2,h3,by rw[l.length];exact h4,fun p hp=>q _ _ _ _ (New.lst x0 hp (repL_rep l _))⟩
  · cases e
end E
namespace E
open PySem L2 PySem.Spec PyProof.Rows
section
variable {X:Cx}
def dStrI: List D→Res D
  | [.int i]=>.when (decide (i.natAbs.log2<1920)) (.ok (.str (toString i)))
  | _=>.fail
theorem cd_strI: CallD X (.type "str") dStrI:=⟨_,call_str_int,fun W H xs ds fs d Q x0 l e k=>by
  unfold dStrI at e
  split at e
  · obtain⟨h,e⟩:=Res.when_eq e
    cases e
    cases l with
    | cons r l =>
      cases l
      cases r
      exact⟨_,rfl,of_decide_eq_true h,k _ W H [] (New.sc x0 .str)⟩
  · cases e⟩
def dIntS: List D→Res D
  | [.str a]=>(Res.of (PySem.intText? a)).bind fun n=>.when (decide (a.length≤640)) (.ok (.int n))
  | _=>.fail
theorem cd_intS: CallD X (.type "int") dIntS:=⟨_,call_int_str,fun W H xs ds fs d Q x0 l e k=>by
  unfold dIntS at e
  split at e
  · obtain⟨n,e1,e⟩:=Res.bind_eq e
    obtain⟨h,e⟩:=Res.when_eq e
    cases e
    cases l with
    | cons r l =>
      cases l
      cases r
      exact⟨_,_,rfl,Res.of_eq e1,of_decide_eq_true h,k _ W H [] (New.sc x0 .int)⟩
  · cases e⟩
end
def mJoin(q1:MQ D)(x:M D): M D:=fun m=>(q1 m).bind fun d1=>(x m).bind fun r=>match d1,r.1 with
  | .str a,.lst _ xs=>(Res.of (toStrs xs)).bind fun ys=>Res.when (decide ((ys.map (·.length)).sum+ys.length*a.length≤16777216)) (.ok (.str (Txt.join a ys),r.2))
  | _,_=>.fail
section
variable {X:Cx} {CT:Nat→Addr} {o e:Expr} {q1:MQ D} {x:M D} {apos pos:Pos}
theorem me_join (ho:MEQ X CT o q1) (he:ME X CT e x) (hs:starEach [e] X.env=[(false,eval e X.env)]:=by rfl) (hbase:attributeBase o "join" X.env (eval o X.env)=eval o X.env:=by rfl) (hline:(apos.endLine==pos.line)=true:=by rfl) :
    ME X CT (.Call (.Attribute o "join" apos) [e] [] pos) (mJoin q1 x) :=
  pe_weak (pe_join ho he hs hbase hline) fun σ H Q ⟨W,m,fp,d,m',rel,e,k⟩=>by
    obtain⟨d1,e1,e⟩:=Res.bind_eq e
    obtain⟨⟨d2,m2⟩,e2,e⟩:=Res.bind_eq e
    refine⟨W,m,fp,d1,rel,e1,fun x W1 H1 f1 p1=>?_⟩
    have r1:=p1.rep
    dsimp only at e
    cases d1 with
    | str a=>cases d2 with
     | lst o' xs =>
      obtain⟨ys,e3,e⟩:=Res.bind_eq e
      have e3:=toStrs_eq (Res.of_eq e3)
      obtain⟨hz,e⟩:=Res.when_eq e
      cases e
      cases r1
      refine⟨⟨_,rfl⟩,W1,m,fp,_,_,p1.rel,e2,fun y W2 H2 fp2 f2 p2=>?_⟩
      have r2:=p2.rep
      subst e3
      have x12:Ext W H W2 H2 fp:=(p1.ext.sub (fq:=fp) fun _ z=>(nomatch z)).trans p2.ext fun a z=>.inl z
      have pr:Post X.K CT W H σ fp (V.str (Txt.join a ys)) (.str (Txt.join a ys)) m' W2 H2 fp2 []:=⟨p2.rel,.str,by rw[List.append_nil];exact p2.rel.nd,Own.nil,x12,fun b z=>by
        rw[List.append_nil] at z
        rcases p2.sub b (List.mem_append_left _ z) with z | z
        · exact .inl z
        · exact .inr (p1.ext.there b z)⟩
      cases r2 with
      | lstF h l =>
        have:=repL_strs l
        subst this
        exact⟨a,_,ys,rfl,rfl,.inl h.sq,of_decide_eq_true hz,k _ W2 H2 fp2 [] pr⟩
      | lstO h l =>
        have:=repL_strs l
        subst this
        exact⟨a,_,ys,rfl,rfl,.inl (SqL.of h),of_decide_eq_true hz,k _ W2 H2 fp2 [] pr⟩
     | _=>cases e
    | _=>cases e
end
def rangeDn(i:Int)(n:Nat): List D:=(List.range n).map fun(k:Nat)=>D.int (i - (k:Int))
noncomputable def miR3(a:M (List Arg)): M It:=fun m=>(a m).bind fun r=>(conts r.2.env r.1).bind fun ds=>match ds with
  | [.int i,.int j,.int c]=>Res.when (b62 i&&(b62 j&&decide (c=-1))) (.ok ((rangeDn i (i - j).toNat,fun(_:Mem)=>True),r.2))
  | _=>.fail
section
variable {X:Cx} {CT:Nat→Addr} {pi:List Nat} {tg a b c:Expr} {pos p0:Pos} {ml:M (List Arg)}
end
def dRep(y z:Str): D→Res D
  | .str x=>Res.when (decide (x.length+(x.length+1)*z.length≤16777216)) (.ok (.str (Txt.replace x y z)))
  | _=>.fail
def tRepC(y z:Str)(to:TE): TE:=fun σ H Q=>to σ H fun x H1=>∃ a,x=.str a∧a.length+(a.length+1)*z.length≤16777216∧Q (.str (Txt.replace a y z)) H1
def PEo(X:Cx)(e:Expr)(t:TE): Prop:=∀ (pins:List (Addr×Obj)) (s:Shared) (σ:L2.St) (H:Hp) (Q:VK),Inv X pins σ H s→t σ H Q →
  wpAny (model X.prog X.w) X.A (eval e X.env) (fun v s'=>1≤s'.toks∧EP X pins σ Q v s') X.xe s
def POo(X:Cx)(e:Option Expr)(t:TO): Prop:=∀ (pins:List (Addr×Obj)) (s:Shared) (σ:L2.St) (H:Hp) (Q:Option Int→Hp→Prop),Inv X pins σ H s→t σ H Q →
  wpAny (model X.prog X.w) X.A (evalPart e X.env) (fun u s'=>1≤s'.toks∧∃ o H',Inv X pins σ H' s'∧IsPart u o∧Q o H') X.xe s
theorem peo_weak{X:Cx}{e:Expr}{t t':TE}(h:PEo X e t)(k:∀ σ H Q,t' σ H Q→t σ H Q): PEo X e t':=fun pins s σ H Q I q=>h pins s σ H Q I (k σ H Q q)
theorem tk_of{α:Type}{M:Model}{A:Around}{s:Shared}{t:Sem α}{Q:α→Shared→Prop}{E:Value→Shared→Prop}{n:Nat}(hn:n≤s.toks)(h:wpAny M A t Q E s): wpAny M A t (fun a s'=>n≤s'.toks∧Q a s') E s :=
  wpAny_mono (PySem.wpAny_toks_of hn h) (fun _ _ x=>x) fun _ _ x=>x.2
section
variable {X:Cx} {o a b:Expr} {to ta tb:TE} {y z:Str} {j0 j1:Nat} {c0 c1 apos pos p2:Pos}
theorem rep_run'{pins:List (Addr×Obj)}{s1:Shared}{σ:L2.St}{Q:VK}{v:Value}(h1:1≤s1.toks)(hyz:(y==z)=false)(e:EP X pins σ (fun x H1=>∃ a,x=.str a∧a.length+(a.length+1)*z.length≤16777216∧Q (.str (Txt.replace a y z)) H1) v s1)
    (hs:starEach [.Constant (.str y) j0 c0,.Constant (.str z) j1 c1] X.env=[(false,eval (.Constant (.str y) j0 c0) X.env),(false,eval (.Constant (.str z) j1 c1) X.env)]) :
    MethodOnS X.prog X.w X.A X.xe "replace" v pos [(false,eval (.Constant (.str y) j0 c0) X.env),(false,eval (.Constant (.str z) j1 c1) X.env)] (EP X pins σ Q) s1:=by
  obtain⟨x,H1,I1,r1,a,rfl,hb,q⟩:=e
  obtain⟨t,rfl⟩:=_root_.id r1
  refine⟨"str",_,F.plainAttrs_str,F.slot_str_replace,F.type_str_replace,typeIs_str _ _ _,(fun _ e=>nomatch e),Calls.callWith_builtin rfl (Calls.evalArgs_plain (Calls.spliced_cons (Calls.Constant_str ?_)))⟩
  refine Calls.spliced_cons (Calls.Constant_str (Calls.spliced_nil ?_))
  exact PySem.SC.replace (show s1.toks≠0 by omega) (show s1.toks+1≠0 by omega) (show s1.toks≠s1.toks+1 by omega) hyz hb fun t' k=>⟨.str (Txt.replace a y z),H1,I1.tok k,⟨t',rfl⟩,q⟩
theorem pe_repo(ho:PEo X o to)(hyz:(y==z)=false)(hs:starEach [.Constant (.str y) j0 c0,.Constant (.str z) j1 c1] X.env=[(false,eval (.Constant (.str y) j0 c0) X.env),(false,eval (.Constant (.str z) j1 c1) X.env)]:=by rfl)
    (hbase:attributeBase o "replace" X.env (eval o X.env)=eval o X.env:=by rfl) (hline:(apos.endLine==pos.line)=true:=by rfl) :
    PE X (.Call (.Attribute o "replace" apos) [.Constant (.str y) j0 c0,.Constant (.str z) j1 c1] [] pos) (tRepC y z to):=by
  refine⟨fun pins s σ H Q I h=>?_⟩
  refine PySem.Call_method2 hbase hs hline (thn (ho pins s σ H _ I h) fun v s1 q=>?_)
  exact rep_run' q.1 hyz q.2 hs
theorem peo_op{op:Operator}{r:R2}{k:Int}{j:Nat}{cp:Pos}(ho:OpR X (binaryOp op) r)(ha:PE X a ta): PEo X (.BinOp a op (.Constant (.int k) j cp) pos) (tOp r ta (tC (.int k))):=by
  intro pins s σ H Q I h
  refine wpAny_BinOp (thn (ha.run pins s σ H _ I h) fun v s1 ⟨x,H1,I1,r1,q1⟩=>wpAny_Constant_int ?_)
  refine tk_of (n:=1) (by show 1≤s1.toks+1;omega) ?_
  exact ho pins { s1 with toks:=s1.toks+1 } σ H1 x (.int k) v _ Q (I1.tok _) r1 ⟨_,rfl⟩ q1
theorem poo_some(h:PEo X a ta): POo X (some a) (tPart ta):=by
  intro pins s σ H Q I hw
  rw[evalPart_some]
  refine thn (h pins s σ H _ I hw) fun u s1 q=>?_
  obtain⟨h1,x,H1,I1,r1,i,rfl,q⟩:=q
  obtain⟨t,rfl⟩:=r1
  exact⟨h1,some i,H1,I1,.int i t,q⟩
theorem peo_slice{lo hi:Option Expr}{tl th:TO}{r:V→Option Int→Option Int→Hp→VK→Prop}(hr:SlR X r)(he:PE X a ta)(hl:POo X lo tl)(hu:PO X hi th): PEo X (.Subscript a (.Slice lo hi none p2) pos) (tSl r ta tl th):=by
  intro pins s σ H Q I h
  refine Subscript_ (thn (he.run pins s σ H _ I h) fun v s1 ⟨x,H1,I1,r1,q1⟩=>?_)
  refine wpAny_Slice (thn (hl pins s1 σ H1 _ I1 q1) fun vl s2 q=>?_)
  obtain⟨ht,l,H2,I2,pl,q2⟩:=q
  refine thn (tk_of (n:=1) ht (hu.run pins s2 σ H2 _ I2 q2)) fun vu s3 q=>?_
  obtain⟨ht3,u,H3,I3,pu,q3⟩:=q
  rw[evalPart_none]
  refine wpAny_pure ?_
  have I4:Inv X pins σ H3 { s3 with heap:=s3.heap.push { cls:=.type "slice",data:=.fields #[vl,vu,.none] } }:=I3.kept (t':=s3.toks) fun b ob q=>Heap.get?_push_of_some _ q
  obtain⟨T,id,hT,hty,hg⟩:=hr pins _ σ H3 x v vl vu l u s3.heap.objs.size Q I4 r1 (Heap.IsSliceOf.new ..) pl pu q3
  refine tk_of (n:=1) (by exact ht3) ?_
  exact tail_any (ops:=[.ref s3.heap.objs.size,v]) hty hT hg (by with_unfolding_all rfl)
end
def MEo(X:Cx)(CT:Nat→Addr)(e:Expr)(m:M D): Prop:=PEo X e (tM X.K CT m)
def MOo(X:Cx)(CT:Nat→Addr)(o:Option Expr)(q:MQ (Option Int)): Prop:=POo X o fun σ H Q=>∃ W m fp i,Rel X.K CT W H σ m fp∧q m=.ok i∧∀ W' H',Ext W H W' H' []→Rel X.K CT W' H' σ m fp→Q i H'
section
variable {X:Cx} {CT:Nat→Addr} {o a b:Expr} {x mb ma:M D} {qa:MQ D} {y z:Str} {j0 j1:Nat} {c0 c1 apos pos p2:Pos} {g:D→D→Res D}
theorem rep_weak(σ:L2.St)(H:Hp)(Q:VK): tM X.K CT (mOp1 (dRep y z) x) σ H Q→tRepC y z (tM X.K CT x) σ H Q:=fun⟨W,m,fp,d,m',rel,e,k⟩=>by
  obtain⟨⟨d1,m1⟩,e1,e⟩:=Res.bind_eq e
  obtain⟨d2,e2,e⟩:=Res.bind_eq e
  cases e
  refine⟨W,m,fp,d1,_,rel,e1,fun v W1 H1 fp1 f1 p=>?_⟩
  have r1:=p.rep
  dsimp only at e2
  unfold dRep at e2
  split at e2
  · obtain⟨hz,e2⟩:=Res.when_eq e2
    cases e2
    cases r1
    exact⟨_,rfl,of_decide_eq_true hz,k _ W1 H1 fp1 [] (p.bl .str)⟩
  · cases e2
theorem me_repo(ho:MEo X CT o x)(hyz:(y==z)=false)(hs:starEach [.Constant (.str y) j0 c0,.Constant (.str z) j1 c1] X.env=[(false,eval (.Constant (.str y) j0 c0) X.env),(false,eval (.Constant (.str z) j1 c1) X.env)]:=by rfl)
    (hbase:attributeBase o "replace" X.env (eval o X.env)=eval o X.env:=by rfl) (hline:(apos.endLine==pos.line)=true:=by rfl) :
    ME X CT (.Call (.Attribute o "replace" apos) [.Constant (.str y) j0 c0,.Constant (.str z) j1 c1] [] pos) (mOp1 (dRep y z) x):=pe_weak (pe_repo ho hyz hs hbase hline) rep_weak
theorem moo_op{op:Operator}{k:Int}{j:Nat}{cp:Pos}(o:OpD X (binaryOp op) g)(ha:MEQ X CT a qa): MOo X CT (some (.BinOp a op (.Constant (.int k) j cp) pos)) (mqSome (mqOp2 g qa (mqC (.int k)))):=by
  obtain⟨r,h,kk⟩:=o
  intro pins s σ H Q I q
  refine poo_some (peo_op h ha) pins s σ H Q I ?_
  obtain⟨W,m,fp,i,rel,e,q⟩:=q
  obtain⟨d1,e1,e2⟩:=Res.bind_eq e
  have q:tQ X.K CT (mqOp2 g qa (mqC (.int k))) σ H (fun x H1=>∃ i,x=.int i∧Q (some i) H1):=⟨W,m,fp,d1,rel,e1,fun v W' H' fd p=>by
    cases d1 <;> cases e2
    cases p.rep
    exact⟨_,rfl,q W' H' p.ext p.rel⟩⟩
  have q:=peQ (CT:=CT) kk σ H _ q
  obtain⟨W,m,fp,d,rel,e,kq⟩:=q
  refine⟨W,m,fp,d,rel,e,fun v W' H' fd p=>?_⟩
  obtain⟨W2,m2,fp2,d2,rel2,e2,k2⟩:=kq v W' H' fd p
  cases e2
  exact k2 (.int k) W2 H' [] (PostQ.mk0 rel2 .int fun a m=>by cases m)
theorem meo_sl{lo hi:Option Expr}{ql qh:MQ (Option Int)}(ha:MEB X CT a ma)(hl:MOo X CT lo ql)(hh:MO X CT hi qh): MEo X CT (.Subscript a (.Slice lo hi none p2) pos) (mSl ma ql qh) :=
  peo_weak (peo_slice ((sl_list.or sl_tupA).or sl_str) ha hl hh) fun σ H Q ⟨W,m,fp,d,m',rel,e,q⟩=>by
    obtain⟨⟨d1,m1⟩,e1,e⟩:=Res.bind_eq e
    obtain⟨l,e2,e⟩:=Res.bind_eq e
    obtain⟨h,e3,e⟩:=Res.bind_eq e
    obtain⟨d3,e4,e⟩:=Res.bind_eq e
    cases e
    refine⟨W,m,fp,d1,_,rel,e1,fun v1 W1 H1 fp1 fd1 P1=>⟨W1,m1,fp1,l,P1.rel,e2,fun W2 H2 x2 r2=>⟨W2,m1,fp1,h,r2,e3,fun W3 H3 x3 r3=>?_⟩⟩⟩
    have x13:Ext W1 H1 W3 H3 []:=x2.trans x3 fun a z=>by cases z
    exact sl_rep r3.fix (P1.rep.ext x13 off_nil fun a _ z=>by cases z) e4 fun v W' H' fd n=>q v W' H' fp1 fd (n.post r3 (P1.ext.trans (x13.sub (fq:=fp1) fun a z=>by cases z) fun a z=>P1.sub a z) P1.sub)
end
end E
namespace E
open PySem PySem.Spec PyProof.Rows L2
section
variable {X:Cx} {CT:Nat→Addr} {CX:CXT} {k n c:Nat} {f C:Addr} {fd:FuncData} {ps:List Str} {dvs:List V} {ds:List Value} {dd:List D} {m:Str} {mn s:String} {p pos apos:Pos} {g:CallM} {o:Expr} {ta:TE} {qa:MQ D}
end
end E
namespace L2
open PySem PySem.Spec PyProof.Rows
section
variable {X:Cx} {tg:Expr}
end
end L2
namespace E
open PySem L2 PySem.Spec PyProof.Rows
end E
namespace E
open PySem L2 PySem.Spec PyProof.Rows
def xcs(d:D): Bool:=d.xc.isSome
theorem xcs_yes{d:D}{x:Nat×Int}(h:d.xc=some x): xcs d=true:=by
  unfold xcs
  rw[h]
  rfl
theorem xcs_of{d:D}(h:d.xc=none): xcs d=false:=by
  unfold xcs
  rw[h]
  rfl
def tMX(K:PySem.W.Frag)(CT:Nat→Addr)(Wx:WX)(e:M D): TE:=fun σ H Q=>∃ W m fp d m',Rel K CT W H σ m fp∧e m=.ok (d,m')∧(∀ v W' H' fp' fd,Post K CT W H σ fp v d m' W' H' fp' fd→Q v H') ∧
  ∀ x,d.xc=some x→∀ cls dd W' H' fp',PostT K CT W H σ fp m' W' H' fp'→XR CT H' cls dd x.1 x.2→Wx cls dd σ H'
def MEX(X:Cx)(CT:Nat→Addr)(e:Expr)(m:M D): Prop:=∀ Wx:WX,Takes X Wx→PE X e (tMX X.K CT Wx m)
def sThen(e:M D)(F:D→MS): MS:=fun m=>(e m).bind fun r=>if xcs r.1=true then .ok (.rt r.1,r.2) else F r.1 r.2
def mHole(d:D): M D:=fun m=>.ok (d,m)
def mOk(e:M D): M D:=fun m=>(e m).bind fun r=>if xcs r.1=true then .fail else .ok r
section
variable {X:Cx} {CT:Nat→Addr} {pin:List Nat} {e:Expr} {me:M D} {pos:Pos}
theorem mOk_eq{m:Mem}{r:D×Mem}(e:me m=.ok r)(h:xcs r.1=false): mOk me m=.ok r:=by
  unfold mOk
  rw[e]
  show(if xcs r.1=true then Res.fail else Res.ok r)=_
  rw[h]
  rfl
theorem tMX_ok{K:PySem.W.Frag}{Wx:WX}{σ:L2.St}{H:Hp}{Q:VK}(h:tM K CT (mOk me) σ H Q): tMX K CT Wx me σ H Q:=by
  obtain⟨W,m,fp,d,m',rel,e,k⟩:=h
  obtain⟨⟨d1,m1⟩,e1,e⟩:=Res.bind_eq e
  cases hx:xcs d1 with
  | true=>rw[show xcs (d1,m1).1=true from hx] at e;cases e
  | false =>
    rw[show xcs (d1,m1).1=false from hx] at e
    cases e
    exact⟨W,m,fp,d,m',rel,e1,k,fun x ex=>by rw[xcs_yes ex] at hx;cases hx⟩
theorem mst_ctx{C:Stmt}{G:WX→Ends→L2.St→VK}{F:D→MS}(he:MEX X CT e me)(hr:∀ Wx,Takes X Wx→∀ t,PE X e t→PS X C (fun D σ H=>t σ H (G Wx D σ)))
    (hw:∀ (Wx:WX) (ma:M D) D σ H,tS X.K CT Wx pin (fun m=>(ma m).bind fun r=>F r.1 r.2) D σ H→tM X.K CT ma σ H (G Wx D σ)):MSt X CT pin C (sThen me F):=fun Wx tk=>ps_weak (hr Wx tk _ (he Wx tk)) fun D σ H ⟨W,m,fp,fl,m',rel,e,k⟩=>by
  obtain⟨⟨d1,m1⟩,e1,e⟩:=Res.bind_eq e
  cases hx:xcs d1 with
  | true =>
    rw[show xcs (d1,m1).1=true from hx] at e
    cases e
    exact⟨W,m,fp,d1,m1,rel,e1,fun v W' H' fp' fd p=>(by rw[xcs_of (xc_rep p.rep)] at hx;cases hx),fun x ex cls dd W' H' fp' p xr=>k.2 x ex cls dd σ W' H' fp' p.s xr⟩
  | false =>
    rw[show xcs (d1,m1).1=false from hx] at e
    refine tMX_ok (hw Wx _ D σ H ⟨W,m,fp,fl,m',rel,?_,k⟩)
    show(mOk me m).bind _=_
    rw[mOk_eq e1 hx]
    exact e
theorem mst_rtX(h:MEX X CT e me): MSt X CT pin (.Return (some e) pos) (sRt me):=fun Wx tk=>ps_weak (ps_ret (h Wx tk)) fun D σ H ⟨W,m,fp,fl,m',rel,e,k⟩=>by
  obtain⟨⟨d,m1⟩,e1,e⟩:=Res.bind_eq e
  cases e
  exact⟨W,m,fp,d,_,rel,e1,fun v W' H' fp' fd p=>k.1 v σ W' H' fp' fd p.r,fun x ex cls dd W' H' fp' p xr=>k.2 x ex cls dd σ W' H' fp' p.s xr⟩
def sAsgX(e:M D)(b:D→Mem→Res Mem): MS:=sThen e fun d m=>(b d m).bind fun m'=>.ok (.nx,m')
theorem mst_setX{i:Nat}{x:Str}{pos':Pos}(hN:X.N.Nodup)(hi:X.N[i]?=some x)(hx:Loc X.env.scope x)(hp:i ∉ pin)(he:MEX X CT e me)(hs:swapsWith e (some (.Name x pos')) pos.line X.env=pure false:=by rfl)(hf:X.fn x=true∨X.env.scope.names.lookup x=some .local:=by first | exact .inl rfl | exact .inr rfl | assumption):
    MSt X CT pin (.Assign [.Name x pos'] e pos) (sAsgX me (bName i)) :=
  mst_ctx he (fun Wx tk t ht=>ps_set hN hi hx ht hs hf) fun Wx ma D σ H ⟨W,m,fp,fl,m',rel,e,k⟩=>by
    obtain⟨⟨d,m1⟩,e1,e⟩:=Res.bind_eq e
    obtain⟨m2,e2,e⟩:=Res.bind_eq e
    cases e
    refine⟨W,m,fp,d,m1,rel,e1,fun v W1 H1 fp1 fd p=>?_⟩
    exact bName_rep hp p.rel p.rep p.nd p.own e2 fun σ' W' H' fp' q=>k σ' W' H' fp' ⟨q.rel,p.ext.trans q.ext p.sub,subT p.sub q.sub p.ext.there,q.pin,q.len⟩
theorem mst_asgX{tg:Expr}{bb:D→Mem→Res Mem}(he:MEX X CT e me)(hg:MG X CT pin tg bb)(hs:swapsWithSole [tg] e pos.line X.env=pure false:=by rfl)(hw:swappedStores [tg] e X.env=pure none:=by rfl)
    (h1:(assignEach [tg] X.env).map (·.2)=[assign tg X.env]:=by rfl):MSt X CT pin (.Assign [tg] e pos) (sAsgX me bb) :=
  mst_ctx he (fun Wx tk t ht=>ps_asg ht hg hs hw h1) fun Wx ma D σ H ⟨W,m,fp,fl,m',rel,e,k⟩=>by
    obtain⟨⟨d,m1⟩,e1,e⟩:=Res.bind_eq e
    obtain⟨m2,e2,e⟩:=Res.bind_eq e
    cases e
    refine⟨W,m,fp,d,m1,rel,e1,fun v W1 H1 fp1 fd p=>⟨W1,m1,fp1,d,fd,_,p.rel,p.rep,p.nd,p.own,e2,fun σ' W' H' fp' q=>k σ' W' H' fp' ⟨q.rel,p.ext.trans q.ext p.sub,subT p.sub q.sub p.ext.there,q.pin,q.len⟩⟩⟩
end
end E
namespace E
open PySem L2 PySem.Spec PyProof.Rows
def spMX(K:PySem.W.Frag)(CT:Nat→Addr)(n:Nat)(f:CallM): Sp:=fun vs H Q E=>∃ W ds hs fd fh r ds' hs',ds.length=n∧RepL K W H vs ds fd∧RepH K CT W H W.ι hs fh∧(fd++fh).Nodup∧Own W H (fd++fh)∧Fix W H∧f ds hs=.ok (r,ds',hs') ∧
  (∀ v W' H' fd' fh' fr,RepL K W' H' vs ds' fd'→RepH K CT W' H' W'.ι hs' fh'→RepD K W' H' v r fr→((fd'++fh')++fr).Nodup→Own W' H' ((fd'++fh')++fr)→Fix W' H'→Ext W H W' H' (fd++fh)→(∀ a∈(fd'++fh')++fr,a∈fd++fh∨H a=none)→Q v H') ∧
  ∀ x,r.xc=some x→∀ cls dd W' H' fd' fh',RepL K W' H' vs ds' fd'→RepH K CT W' H' W'.ι hs' fh'→(fd'++fh').Nodup→Own W' H' (fd'++fh')→Fix W' H'→Ext W H W' H' (fd++fh)→(∀ a∈fd'++fh',a∈fd++fh∨H a=none)→XR CT H' cls dd x.1 x.2→E cls dd H'
theorem spMX_len{K:PySem.W.Frag}{CT:Nat→Addr}{n:Nat}{f:CallM}{vs:List V}{H:Hp}{Q:VK}{E:XK}(h:spMX K CT n f vs H Q E): vs.length=n:=by
  obtain⟨W,ds,hs,fd,fh,r,ds',hs',e,l,_⟩:=h
  rw[l.length,e]
section
variable {X:Cx} {CT:Nat→Addr}
theorem sp_callX{σ:L2.St}{f:CallM}{n:Nat}{W W1:Wd}{H H1:Hp}{fp fp1 fa:List Addr}{vs:List V}{as:List Arg}{m1 m':Mem}{d:D}{Q:VK}{E:XK}(hn:∀ ds hs o,f ds hs=.ok o→ds.length=n)
    (p:PostA X.K CT W H σ fp vs as m1 W1 H1 fp1 fa) (e:((grab as m1.env).bind fun q=>(f (q.1++[]) m1.hs).bind fun o=>Res.ok (o.1,(⟨giveBack q.2.1 o.2.1 q.2.2,o.2.2⟩:Mem)))=.ok (d,m'))
    (q:∀ v W' H' fp' fd,Post X.K CT W H σ fp v d m' W' H' fp' fd→Q v H') (qx:∀ x,d.xc=some x→∀ cls dd W' H' fp',PostT X.K CT W H σ fp m' W' H' fp'→XR CT H' cls dd x.1 x.2→E cls dd H'):spMX X.K CT n f vs H1 Q E:=by
  obtain⟨L,fd,fh,ds',hs',h1,h2,h3,h4,h5,h6,h7,back⟩:=sp_core (dvs:=[]) (fun _ _=>.nil) hn p e
  rw[List.append_nil] at h2
  refine⟨W1,L,m1.hs,fd,fh,d,ds',hs',h1,h2,h3,h4,h5,h6,h7,fun v W2 H2 fd2 fh2 fr l2 k2 rr nd2 own2 fix2 x2 sub2=>?_,fun x ex cls dd W2 H2 fd2 fh2 l2 k2 nd2 own2 fix2 x2 sub2 xr=>?_⟩
  · obtain⟨fp',r1,r2,r3,r4,r5⟩:=back W2 H2 fd2 fh2 fr (by rw[List.append_nil];exact l2) k2 nd2 own2 fix2 x2 sub2
    exact q v W2 H2 fp' fr ⟨r1,rr,r2,r3,r4,r5⟩
  · obtain⟨fp',r1,r2,r3,r4,r5⟩:=back W2 H2 fd2 fh2 [] (by rw[List.append_nil];exact l2) k2 (by rw[List.append_nil];exact nd2) (by rw[List.append_nil];exact own2) fix2 x2 (by rw[List.append_nil];exact sub2)
    rw[List.append_nil] at r5
    exact qx x ex cls dd W2 H2 fp' ⟨r1,r4,r5⟩ xr
variable {k n c:Nat} {f fa:Addr} {fd:FuncData} {ps:List Str} {x:Str} {p pos apos:Pos} {e o:Expr} {es:List Expr} {ml:M (List Arg)} {g:CallM} {qa:MQ D} {mn:String}
theorem mex_call(F:FnOk X.prog X.w X.K X.mg X.base (L2.CX X.prog X.w) k f fd ps (spMX X.K CT n g))(hn:∀ ds hs o,g ds hs=.ok o→ds.length=n)(hr:Room k X.A)(hg:Gl X x)(hm:X.mg x=some (.ref f))(hk:PySem.W.keepIn X.K (.ref f)=true)(hb:Binds X.K fd ps [])
    (ha:MA X CT (e::es) ml) (hdb:(x==("__debug__":Str))=false:=by decide) (he:starEach (e::es) X.env=(false,eval e X.env)::starEach es X.env:=by rfl) (hpl:(backTo pos (starEach es X.env)).any (·.1)=false:=by rfl) :
    MEX X CT (.Call (.Name x p) (e::es) [] pos) (mCall g [] ml):=fun Wx tk=>pe_weak (pe_callS F hr hg hm hk hb (E:=WE Wx) (passAt tk) ha hdb he hpl) fun σ H Q ⟨W,m,fp,d,m',rel,e,q,qx⟩=>by
  obtain⟨⟨as,m1⟩,e1,e⟩:=Res.bind_eq e
  exact⟨W,m,fp,as,m1,rel,e1,fun vs W1 H1 fp1 fa pa=>sp_callX hn pa e q qx⟩
end
open Classical in
noncomputable def onlyB(r:D)(b:MS): MS:=fun m=>(b m).bind fun o=>match o.1 with
  | .rt d=>if d=r then .ok (.rt .non,o.2) else .fail
  | _=>.fail
theorem onlyB_eq{r:D}{b:MS}{m:Mem}{o:Fl×Mem}(h:onlyB r b m=.ok o): b m=.ok (.rt r,o.2)∧o.1=.rt .non:=by
  obtain⟨o',e,h⟩:=Res.bind_eq h
  obtain⟨fl,m'⟩:=o'
  cases fl with
  | rt d =>
    dsimp only at h
    split at h
    · rename_i er
      cases h
      rw[er] at e
      exact⟨e,rfl⟩
    · cases h
  | nx=>cases h
  | bk=>cases h
  | ct=>cases h
theorem body_okX {K:PySem.W.Frag} {CT:Nat→Addr} {N:List Str} {n:Nat} {pin:List Nat} {b:MS} {vs:List V} {H:Hp} {Q:VK} {E:XK} (h:spMX K CT n (mDefX n N.length pin b) vs H Q E) :
    tS K CT (fun cls d _ H'=>E cls d H') pin b { nx:=fun _ H'=>Q .non H',rt:=Q } (L2.start N vs) H:=by
  obtain⟨W,ds,hs,fd,fh,r,ds',hs',hn,l,k,nd,own,fix,e,q,qx⟩:=h
  cases hx:r.xc with
  | none=>exact body_okN (wx:=E) ⟨W,ds,hs,fd,fh,r,ds',hs',hn,l,k,nd,own,fix,mDefX_keep e hx,q⟩
  | some x =>
    have e':mDefX n N.length pin (onlyB r b) ds hs=.ok (.non,ds',hs'):=by
      obtain⟨h1,e⟩:=Res.when_eq e
      obtain⟨⟨fl,m'⟩,e1,e⟩:=Res.bind_eq e
      obtain⟨d,e2,e⟩:=Res.bind_eq e
      obtain⟨ds1,e3,e⟩:=Res.bind_eq e
      cases e
      have ef:fl=.rt r:=by
        cases fl with
        | rt d'=>cases e2;rfl
        | nx=>cases e2;cases hx
        | bk=>cases e2
        | ct=>cases e2
      subst ef
      unfold mDefX
      have e9:onlyB r b ⟨ds++List.replicate (N.length - n) .und,hs⟩=.ok (.rt .non,m'):=by
        unfold onlyB
        rw[e1]
        exact if_pos rfl
      rw[h1,e9]
      show Res.bind (outs pin 0 ds m'.env) _=_
      rw[e3]
      rfl
    obtain⟨W1,m,fp,fl,m',rel,e1,k1⟩:=body_okN (Q:=fun v H'=>v=.non→∀ cls dd,XR CT H' cls dd x.1 x.2→E cls dd H') (Wx:=fun _ _ _ _=>True) (wx:=E) ⟨W,ds,hs,fd,fh,.non,ds',hs',hn,l,k,nd,own,fix,mDefX_keep e' rfl,fun v W' H' fd' fh' fr l' k' r' nd' own' fix' x' sub' ev cls dd xr=>by
      subst ev
      have:fr=[]:=r'.pure rfl
      subst this
      rw[List.append_nil] at nd' own' sub'
      exact qx x hx cls dd W' H' fd' fh' l' k' nd' own' fix' x' sub' xr⟩
    obtain⟨e2,rfl⟩:=onlyB_eq e1
    refine⟨W1,m,fp,.rt r,m',rel,e2,fun v σ' W' H' fp' fr p=>?_,fun y ey cls dd σ' W' H' fp' p xr=>?_⟩
    · rw[xc_rep p.rep] at hx
      cases hx
    · rw[hx] at ey
      cases ey
      exact k1.1 .non σ' W' H' fp' [] (p.r0 .non) rfl cls dd xr
section
variable {P:Program} {w:World} {K:PySem.W.Frag} {mg:Str→Option Value} {base:Heap} {CT:Nat→Addr}
theorem fun_okX{x qual:Str}{st:Stmt}{f:Addr}{fd:FuncData}{N ps:List Str}{k:Nat}{pin:List Nat}{b:MS}(F:Fun K x qual st f fd)(S:FnScope N ps (defScope st))
    (hbody:∀ (cdv:Value) (A:Around) (outer:List Env) (s:Shared) (H:Hp) (E:XK),Room k (A.deeper (envOfC qual (defScope st) s.heap.objs.size f cdv))→PassesOwn (model P w) (A.deeper (envOfC qual (defScope st) s.heap.objs.size f cdv)) (envOfC qual (defScope st) s.heap.objs.size f cdv) (cxOf (L2.CX P w) P w K mg base N qual (defScope st) f cdv A outer s H E).xe →
      MSs (cxOf (L2.CX P w) P w K mg base N qual (defScope st) f cdv A outer s H E) CT pin (defBody st) b) :
    FnOk P w K mg base (L2.CX P w) (k+1) f fd ps (spMX K CT ps.length (mDefX ps.length N.length pin b)) :=
  F.okX S (fun vs H Q E h=>spMX_len h) fun cdv A outer s H vs Q E hr h=>⟨_,hbody cdv A outer s H E hr (passes_of rfl) _ (takes_of rfl rfl rfl rfl),body_okX h⟩
end
end E
namespace E
open PySem L2 PySem.Spec PyProof.Rows
def xA: List Arg→Option D
  | [.val d]=>if xcs d=true then some d else none
  | _=>none
def tAX(K:PySem.W.Frag)(CT:Nat→Addr)(Wx:WX)(e:M (List Arg)): TA:=fun σ H Q=>∃ W m fp as m',Rel K CT W H σ m fp∧e m=.ok (as,m')∧(∀ vs W' H' fp' fd,PostA K CT W H σ fp vs as m' W' H' fp' fd→Q vs H') ∧
  ∀ d,xA as=some d→∀ x,d.xc=some x→∀ cls dd W' H' fp',PostT K CT W H σ fp m' W' H' fp'→XR CT H' cls dd x.1 x.2→Wx cls dd σ H'
def MAX(X:Cx)(CT:Nat→Addr)(es:List Expr)(m:M (List Arg)): Prop:=∀ Wx:WX,Takes X Wx→PA X es (tAX X.K CT Wx m)
def mThenA(a:M (List Arg))(F:List Arg→M D): M D:=fun m=>(a m).bind fun r=>match xA r.1 with
  | some d=>.ok (d,r.2)
  | none=>F r.1 r.2
def mOkA(a:M (List Arg)): M (List Arg):=fun m=>(a m).bind fun r=>if (xA r.1).isSome=true then .fail else .ok r
def maVX(a:M D)(r:M (List Arg)): M (List Arg):=fun m=>(a m).bind fun x=>if xcs x.1=true then .ok ([.val x.1],x.2) else (r x.2).bind fun y=>.ok (.val x.1::y.1,y.2)
def maVL(a:M D)(r:M (List Arg)): M (List Arg):=fun m=>(a m).bind fun x=>(r x.2).bind fun y=>match xA y.1 with
  | some d=>.ok ([.val d],y.2)
  | none=>.ok (.val x.1::y.1,y.2)
theorem xA_eq{as:List Arg}{d:D}(h:xA as=some d): as=[.val d]∧xcs d=true:=by
  unfold xA at h
  split at h
  · split at h
    · rename_i hx
      cases h
      exact⟨rfl,hx⟩
    · cases h
  · cases h
theorem xA_ok{d:D}(h:xcs d=true): xA [.val d]=some d:=if_pos h
theorem xA_rep{K:PySem.W.Frag}{W:Wd}{H:Hp}{σ:L2.St}{fp g:List Addr}{vs:List V}{as:List Arg}(r:RepA K W H σ fp vs as g): xA as=none:=by
  cases e:xA as with
  | none=>rfl
  | some d =>
    obtain⟨rfl,hx⟩:=xA_eq e
    cases r with
    | val rd _=>rw[xcs_of (xc_rep rd)] at hx;cases hx
theorem mOkA_eq{ml:M (List Arg)}{m:Mem}{r:List Arg×Mem}(e:ml m=.ok r)(h:xA r.1=none): mOkA ml m=.ok r:=by
  unfold mOkA
  rw[e]
  show(if (xA r.1).isSome=true then Res.fail else Res.ok r)=_
  rw[h]
  rfl
theorem tAX_ok{K:PySem.W.Frag}{CT:Nat→Addr}{Wx:WX}{ml:M (List Arg)}{σ:L2.St}{H:Hp}{Q:List V→Hp→Prop}(h:tA K CT (mOkA ml) σ H Q): tAX K CT Wx ml σ H Q:=by
  obtain⟨W,m,fp,d,m',rel,e,k⟩:=h
  obtain⟨⟨d1,m1⟩,e1,e⟩:=Res.bind_eq e
  cases hx:xA d1 with
  | some x=>rw[show(xA (d1,m1).1)=some x from hx] at e;cases e
  | none =>
    rw[show(xA (d1,m1).1)=none from hx] at e
    cases e
    exact⟨W,m,fp,d,m',rel,e1,k,fun x ex=>by rw[hx] at ex;cases ex⟩
section
variable {X:Cx} {CT:Nat→Addr} {pin:List Nat} {e a b:Expr} {es:List Expr} {me ma mb:M D} {ml:M (List Arg)} {pos:Pos}
theorem max_v(h:MEX X CT e me)(hr:MA X CT es ml)(hst:starEach (e::es) X.env=(false,eval e X.env)::starEach es X.env:=by rfl): MAX X CT (e::es) (maVX me ml):=fun Wx tk=>pa_weak (pa_cons (h Wx tk) hr hst) fun σ H Q ⟨W,m,fp,as,m',rel,e,k1,k2⟩=>by
  obtain⟨⟨d1,m1⟩,e1,e⟩:=Res.bind_eq e
  cases hx:xcs d1 with
  | true =>
    rw[show xcs (d1,m1).1=true from hx] at e
    cases e
    exact⟨W,m,fp,d1,_,rel,e1,fun v W' H' fp' fd p=>(by rw[xcs_of (xc_rep p.rep)] at hx;cases hx),k2 d1 (xA_ok hx)⟩
  | false =>
    rw[show xcs (d1,m1).1=false from hx] at e
    refine tMX_ok (w_v (ml:=ml) σ H Q ⟨W,m,fp,as,m',rel,?_,k1⟩)
    show(mOk me m).bind _=_
    rw[mOk_eq e1 hx]
    exact e
theorem max_l(h:ME X CT e me)(hr:MAX X CT es ml)(hst:starEach (e::es) X.env=(false,eval e X.env)::starEach es X.env:=by rfl): MAX X CT (e::es) (maVL me ml):=fun Wx tk=>pa_weak (pa_cons h (hr Wx tk) hst) fun σ H Q ⟨W,m,fp,as,m',rel,e,k1,k2⟩=>by
  obtain⟨⟨d1,m1⟩,e1,e⟩:=Res.bind_eq e
  obtain⟨⟨as',m2⟩,e2,e⟩:=Res.bind_eq e
  dsimp only at e2 e
  cases hx:xA as' with
  | some d =>
    rw[hx] at e
    cases e
    obtain⟨rfl,hd⟩:=xA_eq hx
    refine⟨W,m,fp,d1,m1,rel,e1,fun v W1 H1 fp1 fd1 p=>⟨W1,m1,fp1,_,_,p.rel,e2,fun vs W2 H2 fp2 fd2 p2=>(by rw[xA_rep p2.rep] at hx;cases hx),fun d' hd' x ex cls dd W2 H2 fp2 p2 xr=>?_⟩⟩
    rw[hx] at hd'
    cases hd'
    have s1:∀ b∈fp1,b∈fp∨H b=none:=fun b z=>p.sub b (List.mem_append_left _ z)
    exact k2 d hx x ex cls dd W2 H2 fp2 ⟨p2.rel,p.ext.trans p2.ext s1,subT s1 p2.sub p.ext.there⟩ xr
  | none =>
    rw[hx] at e
    cases e
    obtain⟨W',m0,fp',d',m'',rel',e',k'⟩:=w_v (X:=X) (CT:=CT) (ma:=me) (ml:=mOkA ml) σ H Q ⟨W,m,fp,_,_,rel,by unfold maV;rw[e1,Res.bind_ok];show(mOkA ml m1).bind _=_;rw[mOkA_eq e2 hx];rfl,k1⟩
    exact⟨W',m0,fp',d',m'',rel',e',fun v W1 H1 fp1 fd1 p=>tAX_ok (k' v W1 H1 fp1 fd1 p)⟩
theorem mexA_ctx{C:Expr}{G:L2.St→VK→List V→Hp→Prop}{F:List Arg→M D}(he:MAX X CT es ml)(hr:∀ t,PA X es t→PE X C (fun σ H Q=>t σ H (G σ Q)))
    (hw:∀ (ma:M (List Arg)) σ H Q,tM X.K CT (fun m=>(ma m).bind fun r=>F r.1 r.2) σ H Q→tA X.K CT ma σ H (G σ Q)):MEX X CT C (mThenA ml F):=fun Wx tk=>pe_weak (hr _ (he Wx tk)) fun σ H Q ⟨W,m,fp,d,m',rel,e,k1,k2⟩=>by
  obtain⟨⟨d1,m1⟩,e1,e⟩:=Res.bind_eq e
  cases hx:xA d1 with
  | some x =>
    dsimp only at e
    rw[hx] at e
    cases e
    exact⟨W,m,fp,d1,m',rel,e1,fun vs W' H' fp' fd p=>(by rw[xA_rep p.rep] at hx;cases hx),fun d' hd' y ey=>by rw[hx] at hd';cases hd';exact k2 y ey⟩
  | none =>
    dsimp only at e
    rw[hx] at e
    refine tAX_ok (hw _ σ H Q ⟨W,m,fp,d,m',rel,?_,k1⟩)
    show(mOkA ml m).bind _=_
    rw[mOkA_eq e1 hx]
    exact e
def mTupX(a:M (List Arg)): M D:=mThenA a fun as m=>(vals as).bind fun ds=>Res.when (decide (ds.length≤sizeLine)) (.ok (.tup ds,m))
theorem mex_tup(h:MAX X CT es ml){x1}: MEX X CT (.Tuple es x1 pos) (mTupX ml):=mexA_ctx h (fun t ht=>pe_tup ht) fun ma σ H Q q=>w_tup (ml:=ma) σ H Q q
def sRaise(c:Nat)(l:Int): MS:=fun m=>.ok (.rt (xD c l),m)
end
end E
namespace E
open PySem L2 PySem.Spec PyProof.Rows PySem.Calls
abbrev mN: List Str:=["self", "message", "line"]
def malBody(p0 p1 p2 p3 p4 p5 q0 q1 q2 q3:Pos): List Stmt :=
  [.Expr (.Call (.Attribute (.Call (.Name "super" p0) [] [] p1) "__init__" p2) [.Name "message" p3] [] p4) p5,.Assign [.Attribute (.Name "self" q0) "line" q1] (.Name "line" q2) q3]
def malScope: Scope:={ kind:=.function,names:=[("self",.local),("message",.local),("line",.local),("__class__",.free),("super",.globalImplicit)],isGenerator:=false,isCoroutine:=false,more:=[] }
def cxM(P:Program)(w:World)(K:PySem.W.Frag)(mg:Str→Option Value)(base:Heap)(qual:Str)(f cc:Addr)(cd:Value)(A:Around)(outer:List Env)(s:Shared)(H:Hp): Cx where
  prog:=P
  w:=w
  K:=K
  mg:=mg
  base:=base
  A:=A.deeper (PySem.W.ksEnv qual malScope s.heap.objs.size f cd cc)
  N:=mN
  s_0:=s
  H_0:=H
  env:=PySem.W.ksEnv qual malScope s.heap.objs.size f cd cc
  outer:=outer
  stack:=PySem.W.ksEnv qual malScope s.heap.objs.size f cd cc::outer
  ex:=[]
  calm:=true
  fn:=fun x=>x != ("__class__":Str)
  pn:=[]
  xe:=fun _ _=>False
theorem n0: malScope.names.lookup ("self":Str)=some .local:=by decide +kernel
theorem n1: malScope.names.lookup ("message":Str)=some .local:=by decide +kernel
theorem n2: malScope.names.lookup ("line":Str)=some .local:=by decide +kernel
theorem lk3{u0 u1 u2:Value}: (mN.zip [u0,u1,u2]).reverse.lookup ("self":Str)=some u0∧(mN.zip [u0,u1,u2]).reverse.lookup ("message":Str)=some u1∧(mN.zip [u0,u1,u2]).reverse.lookup ("line":Str)=some u2:=by
  have e1:(("self":Str)==("line":Str))=false:=by decide +kernel
  have e2:(("self":Str)==("message":Str))=false:=by decide +kernel
  have e3:(("message":Str)==("line":Str))=false:=by decide +kernel
  have e:(mN.zip [u0,u1,u2]).reverse=[(("line":Str),u2),(("message":Str),u1),(("self":Str),u0)]:=rfl
  rw[e]
  refine⟨?_,?_,?_⟩
  · rw[List.lookup_cons,e1,List.lookup_cons,e2,List.lookup_cons,beq_self_eq_true]
  · rw[List.lookup_cons,e3,List.lookup_cons,beq_self_eq_true]
  · rw[List.lookup_cons,beq_self_eq_true]
theorem vs3 {vs:List V} (h:vs.length=3):∃ a b c,vs=[a,b,c]:=by
  cases vs with
  | nil=>cases h
  | cons a vs=>cases vs with
    | nil=>cases h
    | cons b vs=>cases vs with
      | nil=>cases h
      | cons c vs=>cases vs with
        | nil=>exact⟨a,b,c,rfl⟩
        | cons _ _=>simp at h
theorem at3{v0 v1 v2 z:V}{i:Nat}(q:(start mN [v0,v1,v2])[i]?=some (some z)): (i=0∧z=v0)∨(i=1∧z=v1)∨(i=2∧z=v2):=by
  have q:([some v0,some v1,some v2]:List (Option V))[i]?=some (some z):=q
  cases i with
  | zero=>exact .inl ⟨rfl,(Option.some.inj (Option.some.inj q)).symm⟩
  | succ i=>cases i with
    | zero=>exact .inr (.inl ⟨rfl,(Option.some.inj (Option.some.inj q)).symm⟩)
    | succ i=>cases i with
      | zero=>exact .inr (.inr ⟨rfl,(Option.some.inj (Option.some.inj q)).symm⟩)
      | succ i=>simp at q
section
variable {P:Program} {w:World} {K:PySem.W.Frag} {mg:Str→Option Value} {base:Heap} {qual:Str} {f cc D:Addr} {cd:Value} {A:Around} {outer:List Env} {s:Shared} {H:Hp}
theorem inv_startM {h1:Heap} {tk:Nat} {us:List Value} {vs:List V} (hd:A.handled=none) (e0:Env0 P w K mg base A outer s H) (r:Vals vs us) (hl:vs.length=3)
    (hc:base.get? cc=some ⟨.type "cell",none,.cell (some (.ref D)),#[]⟩∨∃ o,base.get? cc=some o∧o.data=.cell (some (.ref D)))
    (hn:h1.Ns s.heap.objs.size (fun x=>(mN.zip us).reverse.lookup x)) (hk:∀ b o,s.heap.get? b=some o→h1.get? b=some o) :
    Inv (cxM P w K mg base qual f cc cd A outer s H) [] (start mN vs) H { s with heap:=h1,toks:=tk }:=by
  obtain⟨oc,bc,dc⟩:∃ o,base.get? cc=some o∧o.data=.cell (some (.ref D)):=by
    rcases hc with h | h
    · exact⟨_,h,rfl⟩
    · exact h
  have cl1:∀ x c,(cxM P w K mg base qual f cc cd A outer s H).env.cells.lookup x=some c→x=("__class__":Str)∧c=cc:=fun x c h=>by
    have h:([(("__class__":Str),cc)]:List (Str×Addr)).lookup x=some c:=h
    rw[List.lookup_cons] at h
    split at h
    · rename_i hx
      cases h
      exact⟨by simpa using hx,rfl⟩
    · cases h
  have noA:∀ b:Addr,b ∉ (cxM P w K mg base qual f cc cd A outer s H).ex:=fun b z=>absurd (show b∈([]:List Addr) from z) (by simp)
  have hcell:h1.get? cc=some oc:=hk _ _ (e0.bs _ _ bc).1
  refine⟨⟨e0.mod,rfl,rfl,rfl,Nat.le_refl _,fun x y c h1 h2=>(cl1 x c h1).1.trans (cl1 y c h2).1.symm,fun x hx=>?_,fun x c hf h=>?_,fun _=>hd,Around.frames_deeper e0.frames,.inr ⟨rfl,rfl⟩,fun b z=>absurd z (noA b),e0.bs,e0.bsz,fun b _ _=>noA b,fun b z=>absurd z (noA b),e0.funs,e0.frf⟩,
    rfl,e0.bare,Un.kept hk,⟨_,hn,fun i y v h1 h2 h3=>?_⟩,fun x c h=>⟨_,oc,(cl1 x c h).2▸hcell,dc⟩,e0.hok.fresh (Nat.le_refl _),fun x c h=>?_,fun p hp=>absurd (show p∈([]:List (Addr×Obj)) from hp) (by simp),e0.hok.kept hk,?_⟩
  · refine⟨cc,?_⟩
    have hx:malScope.names.lookup x=some .cell∨malScope.names.lookup x=some .free:=hx
    have:x=("__class__":Str):=by
      unfold malScope at hx
      simp only[List.lookup_cons,List.lookup_nil] at hx
      repeat' split at hx
      all_goals (first | (rename_i hq;exact by simpa using hq) | skip)
      all_goals (rcases hx with hx | hx <;> cases hx)
    subst this
    rfl
  · obtain⟨rfl,_⟩:=cl1 x c h
    exact absurd (show(("__class__":Str) != ("__class__":Str))=true from hf) (by decide)
  · obtain⟨v0,v1,v2,rfl⟩:=vs3 hl
    cases r with
    | cons r0 r=>cases r with
      | cons r1 r=>cases r with
        | cons r2 r =>
          cases r
          rename_i u0 u1 u2
          obtain⟨k0,k1,k2⟩:=lk3 (u0:=u0) (u1:=u1) (u2:=u2)
          rcases at3 h2 with ⟨rfl,rfl⟩ | ⟨rfl,rfl⟩ | ⟨rfl,rfl⟩
          · obtain rfl:("self":Str)=y:=Option.some.inj h1
            exact⟨u0,r0,.inl ⟨n0,k0⟩⟩
          · obtain rfl:("message":Str)=y:=Option.some.inj h1
            exact⟨u1,r1,.inl ⟨n1,k1⟩⟩
          · obtain rfl:("line":Str)=y:=Option.some.inj h1
            exact⟨u2,r2,.inl ⟨n2,k2⟩⟩
  · obtain⟨rfl,rfl⟩:=cl1 x c h
    exact(e0.bs _ _ bc).2
  · unfold L2.start
    show _=mN.length
    rw[List.length_append,List.length_map,List.length_replicate,hl]
    rfl
end
def spMal(D:Addr): Sp:=fun vs H Q _=>∃ (a:Addr) (m:Str) (l:Int),vs=[.ref a,.str m,.int l]∧H a=some (exo a D none)∧∀ dx,H dx=none→dx≠a→Q .non (upd (upd H dx (exd dx [(("line":Str),.int l)])) a (exo a D (some dx)))
structure MalC (P:Program) (K:PySem.W.Frag) (D f cc:Addr) (cd:Value):Prop where
  T:OexC K D
  cell:∃ o,K.lookup cc=some o∧o.data=.cell (some (.ref D))
  code:∃ (cda:Addr) (oc:Obj) (vs:Array Value) (file:Str) (tf:Tok),cd=.ref cda∧K.lookup cda=some oc∧oc.data=.fields vs∧vs[2]?=some (.str file tf)∧((P.main.file:Str)==file)=true
  top:(P.main.scope.names.lookup ("super":Str)).isSome=false
  sub:PySem.W.mroIn K D (.ref D)=some true
  sup:PySem.W.ks_superIn K D D "__init__"=some (some (.builtin "ValueError.__init__"))
  ve:PySem.W.subIn K (.ref D) (.type "ValueError")=some true
  st:PySem.W.nsIn K cStatics "thirdparty.any"=some none
  ln:PySem.W.findIn K (.ref D) ("line":Str)=some none
theorem exo_inst{h:Heap}{e C t1:Addr}(he:h.get? e=some ({ cls:=.ref C,dict:=none,data:=.fields #[.ref t1,.none,.none,.none,.bool false,.none] }:Obj)): PySem.W.InstAt h e { cls:=.ref C,dict:=none,data:=.fields #[.ref t1,.none,.none,.none,.bool false,.none] } C none:=⟨he,rfl,rfl,trivial⟩
theorem mw_call{prog:Program}{w:World}{A:Around}{E:Value→Shared→Prop}{s:Shared}{K:PySem.W.Frag}{u e D t0:Addr}{rest:List Value}{Q:Value→Shared→Prop}(T:OexC K D)(kin:K.In s.heap)
    (he:s.heap.get? e=some ({ cls:=.ref D,dict:=none,data:=.fields #[.ref t0,.none,.none,.none,.bool false,.none] }:Obj)) (hu:s.heap.get? u=some (PySem.W.kxs_mw "ValueError.__init__" e)) (hz:rest.length≤sizeLine)
    (h:∀ h' t1,(∀ b o,b≠e→s.heap.get? b=some o→h'.get? b=some o)→h'.get? e=some ({ cls:=.ref D,dict:=none,data:=.fields #[.ref t1,.none,.none,.none,.bool false,.none] }:Obj)→Q .none { s with heap:=h' }) :
    wpAny (model prog w) A (call (.ref u) rest) Q E s:=by
  obtain⟨nm,q,N,bs,bm,sn,sub,ab,col,dd,k0,k1,k2,k3,k5,hC,hbm⟩:=T.cls
  obtain⟨hh,g,d,tk,os⟩:=s
  have b1:(Value.type "method-wrapper"==Value.type "method"||Value.type "method-wrapper"==Value.type "builtin_function_or_method"||Value.type "method-wrapper"==Value.type "method-wrapper")=true:=by decide
  have FE:=PySem.F.excBase_ValueError
  refine wpAny_call (codeAny_of_tree ?_)
  show wpAny (model prog w) A.in1 (callAny (.ref u) ⟨rest,[]⟩) _ _ _
  simp only[callAny]
  refine wpAny_bind (wpAny_load hu ?_)
  simp only[PySem.W.kxs_mw,b1,if_true]
  refine PySem.W.KFB.if_so (by decide) (wpAny_bind (PySem.W.check_bound_init FE.toExcCallFacts (kin _ _ hC) he rfl (wpAny_bind (wpAny_pure (wpAny_pure ⟨PySem.plainId_quiet FE.init.plain _,codeAny_builtin FE.initEntry ?_⟩)))))
  refine PySem.W.exc_init_tree (cls:=.ref D) (t0:=t0) (dv:=none) (c2:=.none) (c3:=.none) (b4:=.bool false) he hz fun h' k e' _=>?_
  exact h h' _ k e'
section
variable {P:Program} {w:World} {K:PySem.W.Frag} {mg:Str→Option Value} {base:Heap} {qual:Str} {f cc D:Addr} {cd:Value} {p0 p1 p2 p3 p4 p5 q0 q1 q2 q3:Pos} {params:Arguments} {dV kV doc pm ct:Value} {an:Option Addr}
theorem mal_init {k:Nat} {oc:Value} {od:Option Addr} {osl:Array (Option Value)} (M:MalC P K D f cc cd) (hsu:mg "super"=none) (hpa:((params.posonlyargs++params.args).head?).map (·.arg)=some "self")
    {pl:Sem Bool} (he:∀ env:Env,eval (.Call (.Attribute (.Call (.Name "super" p0) [] [] p1) "__init__" p2) [.Name "message" p3] [] p4) env=(do
      let v ← attributeBase (.Call (.Name "super" p0) [] [] p1) "__init__" env (eval (.Call (.Name "super" p0) [] [] p1) env)
      standAt p2.atName
      let (g,fs) ← holding [v] (getMethod v "__init__" pl)
      callWith p4 g fs (backTo p4 (starEach [.Name "message" p3] env)) []))
    (lk:K.lookup f=some ⟨oc,od,.func (PySem.W.ksFn "__init__" qual params (malBody p0 p1 p2 p3 p4 p5 q0 q1 q2 q3) malScope dV kV doc pm an cd ct cc),osl⟩) (hcd:PySem.W.codeIn K cd qual=true) :
    FnOk P w K mg base CX0 (k+1) f (PySem.W.ksFn "__init__" qual params (malBody p0 p1 p2 p3 p4 p5 q0 q1 q2 q3) malScope dV kV doc pm an cd ct cc) mN (spMal D):=by
  refine⟨fun vs H Q E ⟨a,m,l,e,_⟩=>by rw[e];rfl,fun A outer s H args us vs Q E hr e0 hb r hsp=>?_⟩
  obtain⟨a,msg,l,rfl,ea,hq⟩:=hsp
  have KX:K.In s.heap:=e0.mod.kin.keeps fun b o e=>(e0.bs b o e).1
  have lim:s.heap.NoLimit:=e0.mod.nolimit.keeps fun b o e=>(e0.bs b o e).1
  have ul:us.length=3:=r.length.symm
  obtain⟨oce,ec1,ec2⟩:=M.cell
  refine PySem.ks_codeAny_call_defAt (fd:=PySem.W.ksFn "__init__" qual params (malBody p0 p1 p2 p3 p4 p5 q0 q1 q2 q3) malScope dV kV doc pm an cd ct cc) (body:=malBody p0 p1 p2 p3 p4 p5 q0 q1 q2 q3) (binds:=mN.zip us) hr.depth (KX _ _ lk) rfl lim (PySem.W.codeRec_of KX hcd) rfl hb
    (by show ∀ x∈malScope.names,x.2≠.cell;decide +kernel) (fun x hx=>?_) (fun h1 hn hk=>?_)
  · have:=(List.of_mem_zip hx).1
    simp only[List.mem_cons,List.not_mem_nil,or_false] at this
    rcases this with e | e | e
    · rw[e];exact n0
    · rw[e];exact n1
    · rw[e];exact n2
  have I:=inv_startM (w:=w) (qual:=qual) (f:=f) (cd:=cd) (tk:=s.toks+(mN.zip us).length) hr.hd e0 r rfl (.inr ⟨oce,e0.mod.kin _ _ ec1,ec2⟩) hn hk
  have hr2:=hr.deeper (PySem.W.ksEnv qual malScope s.heap.objs.size f cd cc)
  obtain⟨ar,har,hself⟩:∃ ar,(params.posonlyargs++params.args).head?=some ar∧ar.arg=("self":Str):=by
    cases hh:(params.posonlyargs++params.args).head? with
    | none=>rw[hh] at hpa;cases hpa
    | some ar=>rw[hh] at hpa;exact⟨ar,rfl,Option.some.inj hpa⟩
  obtain⟨cda,oco,vsc,file,tf,ecd,ecl,ecdt,efl,efile⟩:=M.code
  have KX1:K.In h1:=KX.keeps hk
  obtain⟨cdD,hcdD⟩:∃ cdD,PySem.W.clsIn K D=some cdD:=by
    cases hh:PySem.W.clsIn K D with
    | none=>have:=M.sup;unfold PySem.W.ks_superIn at this;rw[hh] at this;cases this
    | some c=>exact⟨c,rfl⟩
  obtain⟨oD,hD1,hD2⟩:∃ oD,K.lookup D=some oD∧oD.data=.cls cdD:=by
    unfold PySem.W.clsIn at hcdD
    split at hcdD
    · rename_i c d cd' sl ho
      cases hcdD
      exact⟨_,ho,rfl⟩
    · cases hcdD
  obtain⟨mb,hmb,hmb2⟩:=e0.mod.blt
  have bk:∀ b o,base.get? b=some o→h1.get? b=some o:=fun b o e=>hk _ _ (e0.bs _ _ e).1
  obtain⟨u0,u1,u2,rfl⟩:∃ u0 u1 u2,us=[u0,u1,u2]:=by
    cases r with
    | cons _ r=>cases r with
      | cons _ r=>cases r with
        | cons _ r=>cases r;exact⟨_,_,_,rfl⟩
  have ru0:u0=.ref a:=by cases r with | cons h _=>exact h
  subst ru0
  obtain⟨t1,ho⟩:=exo_at I.hok ea
  have ho:h1.get? a=_:=ho
  obtain⟨k0,k1,k2⟩:=lk3 (u0:=.ref a) (u1:=u1) (u2:=u2)
  refine PySem.ks_wpAt_execs_cons (PySem.ks_wpAt_Expr_any (PySem.ks_wpAt_MethodCall (pl:=pl) ?_ (he _)) rfl rfl)
  refine PySem.ks_wpAt_super_base (p0:=p0) (p1:=p1) (show malScope.names.lookup ("super":Str)=some .globalImplicit by decide +kernel) (show malScope.names.lookup ("__class__":Str)=some .free by decide +kernel) (by decide +kernel) rfl (KX1 _ _ lk) rfl har ecd (KX1 _ _ ecl) ecdt efl efile M.top ?_
  refine PySem.W.ks_loadName_global rfl (show malScope.names.lookup ("super":Str)=some .globalImplicit by decide +kernel) (loadGlobal_builtin (e0.mod.glob.keeps bk) hsu (hmb.keeps bk) ((hmb2 _ (by decide +kernel)).trans (show bootBuiltins "super"=some (.type "super") by decide +kernel)) ⟨rfl,?_⟩)
  refine wpAny_loadName_free rfl (show malScope.names.lookup ("__class__":Str)=some .free by decide +kernel) rfl ⟨_,KX1 _ _ ec1,ec2⟩ ?_
  refine wpAny_loadName_local rfl (by rw[hself];exact n0) hn (by rw[hself];exact k0) ?_
  refine PySem.ks_wpAny_isType_cls (KX1 _ _ hD1) hD2 ⟨rfl,?_⟩
  refine PySem.ks_wpAny_call_super (KX1 _ _ hD1) hD2 ho rfl (fun c=>nofun) (PySem.W.looks_mroIn KX1 M.sub) (fun h2 hso k2'=>?_)
  have k12:∀ b o,h1.get? b=some o→h2.get? b=some o:=k2'
  have KX2:K.In h2:=KX1.keeps k12
  have ho2:=k12 _ _ ho
  have nad:a≠D:=fun z=>by
    rw[z,KX1 _ _ hD1] at ho
    cases ho
    cases hD2
  refine PySem.W.kxs_getMethod PySem.W.kxs_ValueError hso (PySem.W.looks_opaque KX2 M.st) (l₀:=cdD.mro) (fun A Q E s k q=>wpAny_bind ((PySem.W.looks_clsIn KX2 hcdD) A _ E s k (wpAny_pure q))) rfl KX2 (by have:=M.sup;unfold PySem.W.ks_superIn at this;rw[hcdD] at this;exact this)
    ((exo_inst ho2).type.andThen (PySem.W.looks_subIn KX2 M.ve)) nad (by decide +kernel) ?_
  have k13:∀ b o,h1.get? b=some o→(h2.push (PySem.W.kxs_mw "ValueError.__init__" a)).get? b=some o:=fun b o e=>Heap.get?_push_of_some _ (k12 b o e)
  have hst:starEach [(.Name "message" p3:Expr)] (PySem.W.ksEnv qual malScope s.heap.objs.size f cd cc)=(false,eval (.Name "message" p3) (PySem.W.ksEnv qual malScope s.heap.objs.size f cd cc))::starEach [] (PySem.W.ksEnv qual malScope s.heap.objs.size f cd cc):=rfl
  have hn3:=hn.keeps k13
  show wpAny (model P w) _ (callWith p4 (.ref h2.objs.size) [] (backTo p4 (starEach [.Name "message" p3] (PySem.W.ksEnv qual malScope s.heap.objs.size f cd cc))) []) _ _ _
  rw[hst]
  refine PySem.W.kxs_callWith (i:="ValueError.__init__") (x:=a) rfl (evalArgs_plain (Calls.spliced_cons (wpAny_Name (wpAny_loadName_local rfl n1 hn3 k1 (Calls.spliced_nil ⟨Heap.get?_push_size _ rfl,?_⟩)) (by decide +kernel))))
  refine mw_call M.T (KX1.keeps k13) (k13 _ _ ho) (Heap.get?_push_size _ rfl) (by rw[sizeLine_eq];show(1:Nat)≤_;omega) fun h4 t4 k4 e4=>?_
  have J0:=I.kept (t':=s.toks+3+1) k13
  have J:=J0.write (t':=s.toks+3+1) (x:=a) (e:=a) (o:=exo a D none) (by rw[ea];exact True.intro) (.inl rfl) k4 ⟨_,e4⟩ (exo_ok e4)
  have eu:upd H a (exo a D none)=H:=by
    funext b
    by_cases hb:b=a
    · rw[hb,upd_same,ea]
    · rw[upd_ne hb]
  rw[eu] at J
  have pself:PE (cxM P w K mg base qual f cc cd A outer s H) (.Name "self" q0) (tVar 0):=pv 0
  have pline:PE (cxM P w K mg base qual f cc cd A outer s H) (.Name "line" q2) (tVar 2):=pv 2
  refine PySem.ks_wpAt_execs_cons (wpAt_of_wpAny (wpAny_mono ((ps_ost (pos:=q3) (p':=q1) (f:="line") pself pline).run [] _ _ H { nx:=fun _ H'=>∃ dx,H dx=none∧dx≠a∧H'=upd (upd H dx (exd dx [(("line":Str),.int l)])) a (exo a D (some dx)),rt:=fun _ _=>False } J ?_) (fun fl s' q=>?_) (fun _ _ z=>z.elim)))
  · exact⟨_,rfl,_,rfl,a,D,rfl,M.T,M.ln,.inl ⟨ea,fun dx n ne=>⟨dx,n,ne,rfl⟩⟩⟩
  · cases fl with
    | next =>
      obtain⟨σ',H',J',dx,n,ne,rfl⟩:=q
      exact wpAt_of_wpAny (wpAny_execs_nil ⟨.non,_,J'.os,J'.bare,J'.base,J'.hok,rfl,hq dx n ne⟩)
    | ret v=>obtain⟨_,_,_,_,_,q⟩:=q;exact q.elim
    | brk=>obtain⟨_,_,_,q⟩:=q;exact q.elim
    | cont=>obtain⟨_,_,_,q⟩:=q;exact q.elim
end
end E
namespace E
open PySem L2 PySem.Spec PyProof.Rows PySem.Calls
theorem mal_binds {K:PySem.W.Frag} {fd:FuncData} {T:Addr} {oT:Value} {dT:Option Addr} {n:Nat} {sT:Array (Option Value)} {tk:Tok} (lT:K.lookup T=some ⟨oT,dT,.seq #[.int 0 tk] n,sT⟩)
    (h:∀ u0 u1:Value,∃ k,bindArgs fd ⟨[u0,u1],[]⟩=seqItems? (.ref T) >>= k∧k (some #[.int 0 tk])=pure (mN.zip [u0,u1,.int 0 tk])):Binds K fd mN [.int 0 tk]:=fun s us X hl=>by
  obtain⟨u0,u1,rfl⟩:∃ u0 u1,us=[u0,u1]:=by
    cases us with
    | nil=>simp at hl
    | cons a us=>cases us with
      | nil=>simp at hl
      | cons b us=>cases us with
        | nil=>exact⟨a,b,rfl⟩
        | cons _ _=>simp at hl
  obtain⟨k,e1,e2⟩:=h u0 u1
  refine BindsTo.of_looks fun M=>?_
  rw[e1]
  exact looks_items X lT rfl (.of_pure e2)
section
variable {X:Cx} {CT:Nat→Addr} {pin:List Nat} {pos pos2:Pos}
theorem upd_xd{H:Hp}{a dx C:Addr}{fs:List (Str×V)}(ha:H a=none)(ne:dx≠a): upd (del (upd (upd (upd H a (exo a C none)) dx (exd dx fs)) a (exo a C (some dx))) a) dx (.xd fs)=upd H dx (.xd fs):=by
  funext b
  by_cases h1:b=dx
  · rw[h1,upd_same,upd_same]
  · rw[upd_ne h1,upd_ne h1]
    by_cases h2:b=a
    · rw[h2,del_same,ha]
    · rw[del_ne h2,upd_ne h2,upd_ne h1,upd_ne h2]
theorem mst_raiseM{c k:Nat}{x t:Str}{j:Nat}{p p2:Pos}{fI:Addr}{fd:FuncData}{tk0:Tok}(hc:X.calm=true)(T:OexC X.K (CT c))(iC:PySem.W.findIn X.K (.ref (CT c)) "__init__"=some (some (.ref fI)))(tI:PySem.W.typeIn X.K (.ref fI)=some (.type "function"))
    (F1:FnOk X.prog X.w X.K X.mg X.base CX0 k fI fd mN (spMal (CT c))) (hr:Room (k+1) X.A) (hb:Binds X.K fd mN [.int 0 tk0]) (hg:Gl X x) (hm:X.mg x=some (.ref (CT c))) (hdb:(x==("__debug__":Str))=false:=by decide) :
    MSt X CT pin (.Raise (some (.Call (.Name x p) [.Constant (.str t) j p2] [] pos)) none pos2) (sRaise c 0):=fun Wx tk =>
  ps_weak (ps_raise hc tk (pmk_oex T iC tI F1 hr hb (dvs:=[.int 0]) (.cons ⟨_,rfl⟩ .nil) pass0 hg hm (pa_cons pe_str pa_nil) hdb)) fun D σ H ⟨W,m,fp,fl,m',rel,e,k2⟩=>by
    cases e
    refine⟨by show(1:Nat)≤1000;omega,fun a ha=>⟨a,t,0,rfl,upd_same,fun dx n ne=>⟨rfl,dx,[(("line":Str),V.int 0)],upd_same,?_,?_,?_⟩⟩⟩
    · rw[upd_ne ne,upd_same]
    · rw[upd_ne ne] at n
      exact n
    · rw[upd_ne ne] at n
      rw[upd_xd ha ne]
      have x:=ext_upd (W:=W) (o:=.xd [(("line":Str),V.int 0)]) n
      exact k2.2 (c,0) rfl _ _ σ W _ fp ⟨rel.ext x off_nil (fun a _ z=>by cases z) rfl (fix_upd rel.fix),x.sub fun a z=>(by cases z),fun a z=>.inl z,fun _ _=>rfl,rfl⟩ ⟨rfl,.inr ⟨dx,rfl,upd_same⟩⟩
def sTry (b:MS) (i:Nat) (k:Nat×Int→MS):MS:=fun m=>(b m).bind fun o=>match o.1 with
  | .rt d=>match d.xc with
    | some x=>Res.when (decide (i<o.2.env.length)) (k x ⟨o.2.env.set i .und,o.2.hs⟩)
    | none=>.ok o
  | _=>.ok o
def tSu(K:PySem.W.Frag)(CT:Nat→Addr)(pin:List Nat)(i:Nat)(k:Nat×Int→MS)(a:Addr)(cls:Value)(dd:Option Addr): TS:=fun D σ H=>∃ x:Nat×Int,XR CT H cls dd x.1 x.2∧σ[i]?=some (some (.ref a))∧tS K CT (fun _ _ _ _=>False) pin (k x) D σ H
theorem RepS.und_at{K:PySem.W.Frag}{W:Wd}{H:Hp}{σ:L2.St}{env:List D}{g:List Addr}(h:RepS K W H σ env g): ∀ {i:Nat} (x:Option V),i<env.length→∃ A f B,g=A++f++B∧RepS K W H (σ.set i x) (env.set i .und) (A++B):=by
  induction h with
  | nil=>intro i x e;simp at e
  | @und x0 σ env g hs ih =>
    intro i x e
    cases i with
    | zero=>exact⟨[],[],g,rfl,.und hs⟩
    | succ i =>
      obtain⟨A,f,B,e1,k⟩:=ih x (by simpa using e)
      exact⟨A,f,B,e1,.und k⟩
  | @cons v σ d0 env f g r hs ih =>
    intro i x e
    cases i with
    | zero=>exact⟨[],f,g,rfl,.und hs⟩
    | succ i =>
      obtain⟨A,f',B,e1,k⟩:=ih x (by simpa using e)
      refine⟨f++A,f',B,by rw[e1];simp,?_⟩
      have:=RepS.cons r k
      simpa using this
theorem Rel.und_at{K:PySem.W.Frag}{W:Wd}{H:Hp}{σ:L2.St}{m:Mem}{fp:List Addr}(r:Rel K CT W H σ m fp){i:Nat}(x:Option V)(hi:i<m.env.length): ∃ fp',Rel K CT W H (σ.set i x) ⟨m.env.set i .und,m.hs⟩ fp'∧∀ a∈fp',a∈fp:=by
  obtain⟨f,g,rfl,h1,h2⟩:=r.s
  obtain⟨A,f0,B,rfl,k⟩:=h1.und_at x hi
  have sub:∀ a∈(A++B)++g,a∈(A++f0++B)++g:=fun a z=>by
    simp only[List.mem_append] at z ⊢
    rcases z with (z | z) | z
    · exact .inl (.inl (.inl z))
    · exact .inl (.inr z)
    · exact .inr z
  refine⟨(A++B)++g,⟨⟨A++B,g,rfl,k,h2⟩,?_,fun a z=>r.own a (sub a z),r.fix⟩,sub⟩
  have nd:=r.nd
  rw[List.nodup_iff_count] at nd ⊢
  intro a
  have:=nd a
  simp only[List.count_append] at this ⊢
  omega
theorem mst_try {x n:Str} {c:Value} {i:Nat} {body suite:List Stmt} {b0:Stmt} {np pos':Pos} {b:MS} {k:Nat×Int→MS} (hs:X.stack=X.env::X.outer) (hf:X.env.frame=some X.env.locals) (hN:X.N.Nodup) (hi:X.N[i]?=some n) (hln:X.env.kindOf n=some .local) (hp:i ∉ pin) (hc:Names X x c)
    (hk:∀ x m o,k x m=.ok o→∃ d,o.1=.rt d∧d.xc=none) (hx:∀ cn:Nat,PySem.W.exmOne X.K (.ref (CT cn)) c=some true∨∀ y m,y=cn→∀ l,k (y,l) m=.fail)
    (hb:∀ (pn:List (Addr×Obj)) (xe:Value→Shared→Prop),PassesOwn (model X.prog X.w) X.A X.env xe→MSs (X.tr pn xe) CT pin body b)
    (hsu:∀ (a:Addr) (oe:Obj) (cls:Value) (d:Option Addr) (pn:List (Addr×Obj)),Zc cls d oe→(∃ vs,oe.data=.fields vs)→PSs (X.suite a ((a,oe)::pn)) (b0::suite) (tSu X.K CT pin i k a cls d)) :
    MSt X CT pin (.Try body [.ExceptHandler (some (.Name x np)) (some n) (b0::suite) pos'] [] [] pos) (sTry b i k):=fun Wx tk =>
  ps_weak (ps_try_as (Wout:=Wx) (tb:=fun W=>tS X.K CT W pin b) (ts:=tSu X.K CT pin i k) hs hf hN hi hln hc tk (fun W pn xe tk' ho=>hb pn xe ho W tk') hsu) fun D σ H ⟨W,m,fp,fl,m',rel,e,kk⟩=>by
    obtain⟨⟨fl1,m1⟩,e1,e⟩:=Res.bind_eq e
    refine⟨W,m,fp,fl1,m1,rel,e1,?_⟩
    cases fl1 with
    | nx=>cases e;exact kk
    | bk=>cases e;exact kk
    | ct=>cases e;exact kk
    | rt d =>
      cases hd:d.xc with
      | none =>
        dsimp only at e
        rw[hd] at e
        cases e
        exact⟨kk.1,fun y ey=>by rw[hd] at ey;cases ey⟩
      | some y =>
        dsimp only at e
        rw[hd] at e
        obtain⟨hl,e⟩:=Res.when_eq e
        have hl:i<m1.env.length:=of_decide_eq_true hl
        refine⟨fun v σ' W' H' fp' fd p=>(by rw[xc_rep p.rep] at hd;cases hd),fun y' ey cls dd σ' W' H' fp' p xr=>?_⟩
        rw[hd] at ey
        cases ey
        obtain⟨rfl,hdd⟩:=xr
        have he:PySem.W.exmOne X.K (.ref (CT y.1)) c=some true:=by
          rcases hx y.1 with h | h
          · exact h
          · have:=h y.1 ⟨m1.env.set i .und,m1.hs⟩ rfl y.2
            rw[show(y.1,y.2)=y from rfl,e] at this
            cases this
        refine⟨true,he,fun _ a na=>⟨y,⟨rfl,hdd⟩,?_,?_⟩,fun z=>by cases z⟩
        · obtain⟨f,g,_,h1,_⟩:=p.rel.s
          exact List.getElem?_set_self (by rw[h1.length];exact hl)
        · obtain⟨fp2,r2,s2⟩:=p.rel.und_at (some (.ref a)) hl
          obtain⟨d',hd',nx⟩:=hk _ _ _ e
          have hd':fl=.rt d':=hd'
          subst hd'
          have p2:PostS X.K CT pin W H σ fp ⟨m1.env.set i .und,m1.hs⟩ (σ'.set i (some (.ref a))) W' H' fp2:=⟨r2,p.ext,fun b z=>p.sub b (s2 b z),fun j hj=>by
            rw[List.getElem?_set_ne (fun z=>hp (by rw[z];exact hj))]
            exact p.pin j hj,by rw[List.length_set];exact p.len⟩
          exact⟨W',_,fp2,.rt d',m',r2,e,fun v σ2 W2 H2 fp3 fd q=>kk.1 v σ2 W2 H2 fp3 fd (p2.transR q),fun y' ey=>by rw[nx] at ey;cases ey⟩
end
end E
namespace E
open PySem L2 PySem.Spec PyProof.Rows PySem.Calls
structure TolC (K:PySem.W.Frag) (mg:Str→Option Value) (C N L:Addr):Prop where
  E:ExcC K C
  gM:mg "Malformed"=some (.ref C)
  gN:mg "NoMessage"=some (.ref N)
  gL:mg "LinkCut"=some (.ref L)
  gV:mg "ValueError"=none
  gI:mg "isinstance"=none
  gi:mg "int"=none
  ve:PySem.W.subIn K (.ref C) (.type "ValueError")=some true
  sN:PySem.W.subIn K (.ref C) (.ref N)=some false
  sL:PySem.W.subIn K (.ref C) (.ref L)=some false
  tN:PySem.W.typeIn K (.ref N)=some (.type "type")
  tL:PySem.W.typeIn K (.ref L)=some (.type "type")
  hN:PySem.W.hasDictIn K N=true
  hL:PySem.W.hasDictIn K L=true
  ln:PySem.W.findIn K (.ref C) ("line":Str)=some none
  nN:(C==N)=false
  nL:(C==L)=false
section
variable {K:PySem.W.Frag} {C N:Addr}
theorem kit_self: PySem.W.kitOne K (.ref C) (.ref C)=some true:=by
  unfold PySem.W.kitOne
  rw[if_pos (beq_self_eq_true _)]
theorem kit_ve(h:PySem.W.subIn K (.ref C) (.type "ValueError")=some true): PySem.W.kitOne K (.ref C) (.type "ValueError")=some true:=by
  unfold PySem.W.kitOne
  rw[if_neg (by simp)]
  show(if PySem.W.kitMeta "ValueError"=true then PySem.W.subIn K (.ref C) (.type "ValueError") else none)=_
  rw[if_pos (by decide +kernel),h]
theorem kit_other(h:PySem.W.subIn K (.ref C) (.ref N)=some false)(t:PySem.W.typeIn K (.ref N)=some (.type "type"))(d:PySem.W.hasDictIn K N=true)(n:(C==N)=false): PySem.W.kitOne K (.ref C) (.ref N)=some false:=by
  unfold PySem.W.kitOne
  have ne:C≠N:=by simpa using n
  rw[if_neg (by simp[ne])]
  show(if ((PySem.W.clsIn K N).isSome&&PySem.W.typeIn K (.ref N)==some (.type "type"))=true then PySem.W.subIn K (.ref C) (.ref N) else none)=_
  obtain⟨cd,hc,_⟩:=PySem.W.any_some d
  rw[if_pos (by rw[hc,t];rfl),h]
end
def rIsT (K:PySem.W.Frag) (D a dd:Addr):List V→Hp→VK→Prop:=fun xs H Q=>(∃ fs,H dd=some (.xd fs)) ∧
  ((∃ (c:V) (cv:Value) (b:Bool),xs=[.ref a,c]∧(∀ u,RelV c u→u=cv)∧PySem.W.kitOne K (.ref D) cv=some b∧Q (.bl b) H) ∨
    ∃ (tp:Addr) (vs:List V) (b:Bool),xs=[.ref a,.ref tp]∧H tp=some (.tup vs)∧(∀ us,Vals vs us→PySem.W.kitAny K (.ref D) us=some b)∧Q (.bl b) H)
theorem call_isT {X:Cx} {a D dd:Addr} {oe:Obj} {pn:List (Addr×Obj)} (C:ExcC X.K D) (hz:Zc (.ref D) (some dd) oe) (hf:∃ vs,oe.data=.fields vs):CallR (X.suite a ((a,oe)::pn)) (.builtin "isinstance") (rIsT X.K D a dd):=by
  intro pins s σ H xs us Q I r h
  obtain⟨⟨fs,hdd⟩,h⟩:=h
  obtain⟨hget,_⟩:=I.pin (a,oe) (List.mem_append.mpr (.inl List.mem_cons_self))
  obtain⟨vs0,hv⟩:=hf
  obtain⟨od,hod⟩:=objOk_get (I.hok dd _ hdd)
  have J:PySem.W.InstAt s.heap a oe D (some od):=by
    obtain⟨oc,ood,oda,osl⟩:=oe
    obtain⟨h1,h2⟩:=hz
    dsimp only at h1 h2 hv
    subst h1 h2 hv
    exact⟨hget,rfl,rfl,hod⟩
  have Z:=PySem.W.kitx_exc (K:=X.K) (x:=a) (C:=D) (ox:=oe) (od:=some od) (by obtain⟨cd,hc,_⟩:=PySem.W.any_some C.hd;rw[hc];rfl) C.hg C.hk C.hs C.ha C.hn C.ht C.hm
  rcases h with ⟨c,cv,b,rfl,hcv,e,q⟩ | ⟨tp,vs,b,rfl,ht,e,q⟩
  · cases r with
    | cons rx rr=>cases rr with
      | cons rt rr =>
        cases rr
        cases rx
        have ec:=hcv _ rt
        subst ec
        exact PySem.W.kia_one Z I.kIn J e (fun z=>nomatch z) fun tk=>⟨.bl b,H,I.kept (t':=tk) fun _ _ z=>z,rfl,q⟩
  · cases r with
    | cons rx rr=>cases rr with
      | cons rt rr =>
        cases rr
        cases rx
        cases rt
        obtain⟨its,r2,⟨o,e1,e2,n,e3⟩,z2⟩:=I.tuple (.inl (.inl ht))
        obtain⟨oc,ood,oda,osl⟩:=o
        dsimp only at e2 e3
        subst e2 e3
        exact PySem.W.kia_tup Z I.kIn J e1 (e its r2) (fun z=>nomatch z) fun tk=>⟨.bl b,H,I.kept (t':=tk) fun _ _ z=>z,rfl,q⟩
section
variable {X:Cx} {CT:Nat→Addr} {C N L a dd:Addr} {oe:Obj} {pn:List (Addr×Obj)} {i:Nat} {ev:Str} {p1 p2 p3 p4 p5 p6 p7 p8 p9 p10 p11 p12 p13 p14 p15 p16 p17:Pos} {k:Nat}
abbrev askE(ev:Str)(p1 p2 p3 p4 p5 p6 p7 p8 p9 p10 p11 p12 p13 p14 p15 p16 p17:Pos)(k:Nat): Expr :=
  .BoolOp .Or [.UnaryOp .Not (.Call (.Name "isinstance" p1) [.Name ev p2,.Name "Malformed" p3] [] p4) p5,.UnaryOp .Not (.Call (.Name "isinstance" p6) [.Name ev p7,.Name "ValueError" p8] [] p9) p10,.Call (.Name "isinstance" p11) [.Name ev p12,.Tuple [.Name "NoMessage" p13,.Name "LinkCut" p14] k p15] [] p16] p17
theorem pt_ask(T:TolC X.K X.mg C N L)(hz:Zc (.ref C) (some dd) oe)(hf:∃ vs,oe.data=.fields vs)(pe:PE (X.suite a ((a,oe)::pn)) (.Name ev p2) (tVar i))(pe7:PE (X.suite a ((a,oe)::pn)) (.Name ev p7) (tVar i))(pe12:PE (X.suite a ((a,oe)::pn)) (.Name ev p12) (tVar i))
    (gI:Gl X "isinstance") (gM:Gl X "Malformed") (gV:Gl X "ValueError") (gN:Gl X "NoMessage") (gL:Gl X "LinkCut") :
    PT (X.suite a ((a,oe)::pn)) (askE ev p1 p2 p3 p4 p5 p6 p7 p8 p9 p10 p11 p12 p13 p14 p15 p16 p17 k) (fun σ H Q=>σ[i]?=some (some (.ref a))∧(∃ fs,H dd=some (.xd fs))∧∀ p,H p=none→Q false (upd H p (.tup [.ref N,.ref L]))):=by
  have is:=call_isT (X:=X) (a:=a) (pn:=pn) T.E hz hf
  have b1:bootBuiltins "isinstance"=some (.builtin "isinstance"):=by decide +kernel
  have b2:bootBuiltins "ValueError"=some (.type "ValueError"):=by decide +kernel
  refine pt_weak (PW.pt (pw_or (pt_not (pt_truth (pe_callB (X:=X.suite a ((a,oe)::pn)) is gI T.gI b1 (pa_cons pe (pa_cons (pe_glob gM T.gM (v:=.ref C) rfl) pa_nil))) (by intro _;rfl))) (pw_or (pt_not (pt_truth (pe_callB (X:=X.suite a ((a,oe)::pn)) is gI T.gI b1 (pa_cons pe7 (pa_cons (pe_bltn gV T.gV b2 (v:=.ty "ValueError") rfl) pa_nil))) (by intro _;rfl)))
    (pw_or1 (pt_truth (pe_callB (X:=X.suite a ((a,oe)::pn)) is gI T.gI b1 (pa_cons pe12 (pa_cons (pe_tup (pa_cons (pe_glob gN T.gN (v:=.ref N) rfl) (pa_cons (pe_glob gL T.gL (v:=.ref L) rfl) pa_nil))) pa_nil))) (by intro _;rfl)))))) fun σ H Q ⟨hσ,hfs,q⟩=>?_
  refine⟨_,hσ,hfs,.inl ⟨_,.ref C,true,rfl,fun u h=>h,kit_self,true,rfl,iteF ?_⟩⟩
  refine⟨_,hσ,hfs,.inl ⟨_,.type "ValueError",true,rfl,fun u h=>h,kit_ve T.ve,true,rfl,iteF ?_⟩⟩
  obtain⟨fs,hd⟩:=hfs
  refine⟨_,hσ,by show(2:Nat)≤sizeLine;rw[sizeLine_eq];omega,fun p hp=>⟨⟨fs,by rw[upd_ne (fun z=>by rw[z,hp] at hd;cases hd)];exact hd⟩,.inr ⟨p,[.ref N,.ref L],false,rfl,upd_same,fun us r=>?_,false,rfl,q p hp⟩⟩⟩
  cases r with
  | cons r1 r=>cases r with
    | cons r2 r =>
      cases r
      cases r1
      cases r2
      unfold PySem.W.kitAny
      rw[kit_other T.sN T.tN T.hN T.nN]
      show PySem.W.kitAny X.K (.ref C) [.ref L]=_
      unfold PySem.W.kitAny
      rw[kit_other T.sL T.tL T.hL T.nL]
      rfl
abbrev toldE(ev w g:Str)(j1 j2 j3:Nat)(p1 p2 p3 p4 p5 p6 p7 p8 p9 p10:Pos): Expr :=
  .Subscript (.List [.Constant (.str w) j1 p1,.Constant (.str g) j2 p2] p3) (.Call (.Name "int" p4) [.Compare (.Attribute (.Name ev p5) "line" p6) [.Eq] [.Constant (.int 0) j3 p7] p8] [] p9) p10
theorem pe_told{w g:Str}{j1 j2 j3:Nat}{q1 q2 q3 q4 q5 q6 q7 q8 q9 q10:Pos}(T:TolC X.K X.mg C N L)(hz:Zc (.ref C) (some dd) oe)(hf:∃ vs,oe.data=.fields vs)(pe:PE (X.suite a ((a,oe)::pn)) (.Name ev q5) (tVar i))(gi:Gl X "int"):
    PE (X.suite a ((a,oe)::pn)) (toldE ev w g j1 j2 j3 q1 q2 q3 q4 q5 q6 q7 q8 q9 q10) (fun σ H Q=>σ[i]?=some (some (.ref a))∧H dd=some (.xd [(("line":Str),.int 0)])∧∀ p,H p=none→Q (.str g) (upd H p (.lst [.str w,.str g]))):=by
  have b1:bootBuiltins "int"=some (.type "int"):=by decide +kernel
  have F:XfC X.K C:=⟨T.E.hg,T.E.hk,T.E.hs,T.E.hd⟩
  refine pe_weak (pe_ix (X:=X.suite a ((a,oe)::pn)) ix_list (pe_lst (pa_cons pe_str (pa_cons pe_str pa_nil))) (pe_callTy (X:=X.suite a ((a,oe)::pn)) call_int1 gi T.gi b1 (pa_cons (pe_cmpR op_eq (pe_xf F T.ln hz hf pe) pe_int (nomark _)) pa_nil)) (fun _ _=>rfl)) fun σ H Q ⟨hσ,hd,q⟩=>?_
  refine⟨by show(2:Nat)≤sizeLine;rw[sizeLine_eq];omega,fun p hp=>⟨_,hσ,rfl,rfl,dd,_,.int 0,rfl,by rw[upd_ne (fun z=>by rw[z,hp] at hd;cases hd)];exact hd,by rw[List.lookup_cons,beq_self_eq_true],?_⟩⟩
  refine⟨rfl,.inr ⟨_,rfl,?_⟩⟩
  refine⟨p,_,1,.str g,rfl,?_,.inl (.inl upd_same),rfl,q p hp⟩
  rw[if_pos (by simp)]
end
theorem pss_no{X:Cx}{st:List Stmt}: PSs X st (fun _ _ _=>False):=⟨fun _ _ _ _ _ _ h=>h.elim⟩
def kTold(c:Nat)(d:D)(x:Nat×Int): MS:=fun m=>if x.1=c∧x.2=0 then .ok (.rt d,m) else .fail
theorem kTold_rt{c:Nat}{d:D}(hd:d.xc=none): ∀ x m o,kTold c d x m=.ok o→∃ d',o.1=.rt d'∧d'.xc=none:=fun x m o h=>by
  unfold kTold at h
  split at h
  · cases h
    exact⟨d,rfl,hd⟩
  · cases h
theorem kTold_c{c cn:Nat}{d:D}(h:cn≠c): ∀ y m,y=cn→∀ l,kTold c d (y,l) m=.fail:=fun y m e l=>by
  subst e
  exact if_neg fun z=>h z.1
section
variable {X:Cx} {CT:Nat→Addr} {pin:List Nat} {N L a:Addr} {cls:Value} {dv:Option Addr} {oe:Obj} {pn:List (Addr×Obj)} {i c:Nat} {ev w g:Str} {bad:List Stmt} {p0 p1 p2 p3 p4 p5 p6 p7 p8 p9 p10 p11 p12 p13 p14 p15 p16 p17 q1 q2 q3 q4 q5 q6 q7 q8 q9 q10 q11 q12 q13:Pos} {k j1 j2 j3 j4 j5:Nat}
theorem suite_ask{last:Stmt}{tl:Addr→TS}(T:TolC X.K X.mg (CT c) N L)(hz:Zc cls dv oe)(hf:∃ vs,oe.data=.fields vs)(pe:∀ p:Pos,PE (X.suite a ((a,oe)::pn)) (.Name ev p) (tVar i))
    (gI:Gl X "isinstance") (gM:Gl X "Malformed") (gV:Gl X "ValueError") (gN:Gl X "NoMessage") (gL:Gl X "LinkCut") {d:D}
    (hl:∀ dd,dv=some dd→cls=.ref (CT c)→PSs (X.suite a ((a,oe)::pn)) [last] (tl dd))
    (hq:∀ (D:Ends) (σ:L2.St) (H:Hp) (W:Wd) (m:Mem) (fp:List Addr) (dd p:Addr),Rel X.K CT W H σ m fp→H p=none→σ[i]?=some (some (.ref a))→H dd=some (.xd [(("line":Str),.int 0)]) →
      (∀ v σ' W' H' fp' fd,PostR X.K CT pin W H σ fp v d m σ' W' H' fp' fd→D.rt v H')→tl dd D σ (upd H p (.tup [.ref N,.ref L]))) :
    PSs (X.suite a ((a,oe)::pn)) [.If (askE ev p1 p2 p3 p4 p5 p6 p7 p8 p9 p10 p11 p12 p13 p14 p15 p16 p17 k) bad [] p0,last] (tSu X.K CT pin i (kTold c d) a cls dv):=by
  refine⟨fun pins s σ H D I ⟨x,⟨hcl,hdd⟩,hσ,W,m,fp,fl,m',rel,e,kk⟩=>?_⟩
  unfold kTold at e
  split at e
  · rename_i hx
    obtain⟨x1,x2⟩:=x
    obtain⟨rfl,rfl⟩:=hx
    cases e
    rcases hdd with ⟨z,_⟩ | ⟨dd,rfl,hd⟩
    · cases z
    subst hcl
    have ask:=pt_ask (p1:=p1) (p2:=p2) (p3:=p3) (p4:=p4) (p5:=p5) (p6:=p6) (p7:=p7) (p8:=p8) (p9:=p9) (p10:=p10) (p11:=p11) (p12:=p12) (p13:=p13) (p14:=p14) (p15:=p15) (p16:=p16) (p17:=p17) (k:=k) T hz hf (pe p2) (pe p7) (pe p12) gI gM gV gN gL
    exact(pss_cons (ps_if ask (pss_no (st:=bad)) pss_nil) (hl dd rfl rfl)).run pins s σ H D I ⟨hσ,⟨_,hd⟩,fun p hp=>iteF (hq D σ H W _ fp dd p rel hp hσ hd kk.1)⟩
  · cases e
theorem dd_keep{H:Hp}{dd p:Addr}{o u:HO}(hd:H dd=some o)(hp:H p=none): upd H p u dd=some o:=by
  rw[upd_ne (fun z=>by rw[z,hp] at hd;cases hd)]
  exact hd
theorem suite_tup{kt:Nat}(hN:∀ p:Pos,PE (X.suite a ((a,oe)::pn)) (.Name ev p) (tVar i))(T:TolC X.K X.mg (CT c) N L)(hz:Zc cls dv oe)(hf:∃ vs,oe.data=.fields vs)
    (gI:Gl X "isinstance") (gM:Gl X "Malformed") (gV:Gl X "ValueError") (gN:Gl X "NoMessage") (gL:Gl X "LinkCut") (gi:Gl X "int") :
    PSs (X.suite a ((a,oe)::pn)) [.If (askE ev p1 p2 p3 p4 p5 p6 p7 p8 p9 p10 p11 p12 p13 p14 p15 p16 p17 k) bad [] p0,.Return (some (.Tuple [toldE ev w g j1 j2 j3 q1 q2 q3 q4 q5 q6 q7 q8 q9 q10,.Constant .none j4 q11] kt q12)) q13] (tSu X.K CT pin i (kTold c (.tup [.str g,.non])) a cls dv) :=
  suite_ask T hz hf hN gI gM gV gN gL (fun dd e1 e2=>pss_one (ps_ret (pe_tup (pa_cons (pe_told (dd:=dd) T (by rw[← e1,← e2];exact hz) hf (hN q5) gi) (pa_cons pe_non pa_nil))))) fun D σ H W m fp dd p rel hp hσ hd kk=>by
    refine⟨hσ,dd_keep hd hp,fun p1 hp1=>⟨by show(2:Nat)≤sizeLine;rw[sizeLine_eq];omega,fun p2 hp2=>kk _ σ (W.fixed [p2]) _ fp [] ?_⟩⟩
    have x1:=ext_upd (W:=W) (o:=.tup [.ref N,.ref L]) hp
    have x2:=ext_upd (W:=W) (o:=.lst [.str w,.str g]) hp1
    have x3:=ext_updF (W:=W) (o:=.tup [.str g,.non]) hp2
    have r3:=((rel.ext x1 off_nil (fun a _ z=>by cases z) rfl (fix_upd rel.fix)).ext x2 off_nil (fun a _ z=>by cases z) rfl (fix_upd (fix_upd rel.fix))).ext x3 off_nil (fun a _ z=>by cases z) rfl (fix_updF (fix_upd (fix_upd rel.fix)))
    have x13:Ext W H (W.fixed [p2]) (upd (upd (upd H p (.tup [.ref N,.ref L])) p1 (.lst [.str w,.str g])) p2 (.tup [.str g,.non])) fp:=((x1.trans x2 fun a z=>by cases z).trans x3 fun a z=>by cases z).sub fun a z=>by cases z
    exact⟨r3,.tup (.inl ⟨.inr (by simp),.inl upd_same⟩) (RepL.cons (f:=[]) (g:=[]) .str (RepL.cons (f:=[]) (g:=[]) .non .nil)),by rw[List.append_nil];exact rel.nd,Own.nil,x13,fun b z=>.inl (by simpa using z),fun _ _=>rfl⟩
end
end E
namespace E
open PySem L2 PySem.Spec PyProof.Rows PySem.Calls
def TopMal(P:Program)(K:PySem.W.Frag)(C:Addr): Prop:=OexC K C∧∀ (w:World) (mg:Str→Option Value) (base:Heap),mg "super"=none →
  ∃ (fI:Addr) (fd:FuncData) (tk:Tok),PySem.W.findIn K (.ref C) "__init__"=some (some (.ref fI))∧PySem.W.typeIn K (.ref fI)=some (.type "function")∧FnOk P w K mg base CX0 1 fI fd mN (spMal C)∧Binds K fd mN [.int 0 tk]
theorem top_mal{P:Program}{K:PySem.W.Frag}{C f cc cda T:Addr}{qual:Str}{p0 p1 p2 p3 p4 p5 q0 q1 q2 q3:Pos}{params:Arguments}{kV doc pm ct oc cl ccl oT:Value}{an od cld cdd dT:Option Addr}{osl csl ccs sT:Array (Option Value)}{vs:Array Value}{file:Str}{tf tk:Tok}{n:Nat}{pl:Sem Bool}
    {nm q:Str} {N:Addr} {bs bm:List Value} {sn:List Str} {sub:List Value} {ab:Bool} {col:Option Bool} {dd:Option Addr} {k0 k1 k2 k3 k5:Option Value}
    (hC:K.lookup C=some (excClassObj nm q C N bs bm true sn sub ab col dd k0 k1 k2 k3 k5 "ValueError.__new__"))
    (iC:PySem.W.findIn K (.ref C) "__init__"=some (some (.ref f)))
    (lk:K.lookup f=some ⟨oc,od,.func (PySem.W.ksFn "__init__" qual params (malBody p0 p1 p2 p3 p4 p5 q0 q1 q2 q3) malScope (.ref T) kV doc pm an (.ref cda) ct cc),osl⟩)
    (lc:K.lookup cc=some ⟨cl,cld,.cell (some (.ref C)),csl⟩) (la:K.lookup cda=some ⟨ccl,cdd,.fields vs,ccs⟩) (lT:K.lookup T=some ⟨oT,dT,.seq #[.int 0 tk] n,sT⟩)
    (sa:PySem.W.findIn K (.ref C) "__setattr__"=some (some (.builtin "object.__setattr__"))) (exC:PySem.W.subIn K (.ref C) (.type "BaseException")=some true) (tyC:PySem.W.typeIn K (.ref C)=some (.type "type")) (kC:PySem.W.keepIn K (.ref C)=true)
    (tI:PySem.W.typeIn K (.ref f)=some (.type "function")) (hcd:PySem.W.codeIn K (.ref cda) qual=true) (sub1:PySem.W.mroIn K C (.ref C)=some true)
    (sup:PySem.W.ks_superIn K C C "__init__"=some (some (.builtin "ValueError.__init__"))) (ve:PySem.W.subIn K (.ref C) (.type "ValueError")=some true) (st:PySem.W.nsIn K cStatics "thirdparty.any"=some none) (ln:PySem.W.findIn K (.ref C) ("line":Str)=some none)
    (hbm:PySem.HandSPX.refsVE bm=true) (hvs:vs[2]?=some (.str file tf)) (hfile:((P.main.file:Str)==file)=true) (top:(P.main.scope.names.lookup ("super":Str)).isSome=false) (hpa:((params.posonlyargs++params.args).head?).map (·.arg)=some "self")
    (he:∀ env:Env,eval (.Call (.Attribute (.Call (.Name "super" p0) [] [] p1) "__init__" p2) [.Name "message" p3] [] p4) env=(do
      let v ← attributeBase (.Call (.Name "super" p0) [] [] p1) "__init__" env (eval (.Call (.Name "super" p0) [] [] p1) env)
      standAt p2.atName
      let (g,fs) ← holding [v] (getMethod v "__init__" pl)
      callWith p4 g fs (backTo p4 (starEach [.Name "message" p3] env)) []))
    (hbi:∀ u0 u1:Value,∃ k,bindArgs (PySem.W.ksFn "__init__" qual params (malBody p0 p1 p2 p3 p4 p5 q0 q1 q2 q3) malScope (.ref T) kV doc pm an (.ref cda) ct cc) ⟨[u0,u1],[]⟩=seqItems? (.ref T) >>= k∧k (some #[.int 0 tk])=pure (mN.zip [u0,u1,.int 0 tk])):TopMal P K C:=by
  have T0:OexC K C:=⟨⟨_,_,_,_,_,_,_,_,_,_,_,_,_,_,_,hC,hbm⟩,sa,exC,tyC,kC⟩
  exact⟨T0,fun w mg base hsu=>⟨f,_,tk,iC,tI,mal_init (w:=w) (base:=base) ⟨T0,⟨_,lc,rfl⟩,⟨cda,_,vs,file,tf,rfl,la,rfl,hvs,hfile⟩,top,sub1,sup,ve,st,ln⟩ hsu hpa he lk hcd,mal_binds lT hbi⟩⟩
def MalR(P:Program)(w:World)(K:PySem.W.Frag)(mg:Str→Option Value)(base:Heap)(CT:Nat→Addr)(c:Nat): Prop:=mg "Malformed"=some (.ref (CT c))∧OexC K (CT c) ∧
  ∃ (fI:Addr) (fd:FuncData) (tk:Tok),PySem.W.findIn K (.ref (CT c)) "__init__"=some (some (.ref fI))∧PySem.W.typeIn K (.ref fI)=some (.type "function")∧FnOk P w K mg base CX0 1 fI fd mN (spMal (CT c))∧Binds K fd mN [.int 0 tk]
theorem TopMal.r{P:Program}{w:World}{K:PySem.W.Frag}{mg:Str→Option Value}{base:Heap}{CT:Nat→Addr}{c:Nat}{C:Addr}(h:TopMal P K C)(hs:mg "super"=none)(hm:mg "Malformed"=some (.ref C))(e:CT c=C): MalR P w K mg base CT c:=by
  subst e
  exact⟨hm,h.1,h.2 w mg base hs⟩
section
variable {X:Cx} {CT:Nat→Addr} {pin:List Nat} {pos pos2 p p2:Pos} {c:Nat} {t:Str} {j:Nat}
theorem mst_raiseR(R:MalR X.prog X.w X.K X.mg X.base CT c)(hc:X.calm=true)(hr:Room 2 X.A)(hg:Gl X "Malformed"): MSt X CT pin (.Raise (some (.Call (.Name "Malformed" p) [.Constant (.str t) j p2] [] pos)) none pos2) (sRaise c 0):=by
  obtain⟨hm,T,fI,fd,tk,iC,tI,F1,hb⟩:=R
  exact mst_raiseM hc T iC tI F1 hr hb hg hm
end
def Catch(K:PySem.W.Frag)(mg:Str→Option Value)(CT:Nat→Addr)(x:Str)(c:Nat): Prop:=∃ A:Addr,mg x=some (.ref A)∧PySem.W.exmOne K (.ref (CT c)) (.ref A)=some true
theorem catch_mk{K:PySem.W.Frag}{mg:Str→Option Value}{CT:Nat→Addr}{x:Str}{c:Nat}{A C:Addr}(hm:mg x=some (.ref A))(e:CT c=C)(h1:PySem.W.subIn K (.ref A) (.type "BaseException")=some true)(h2:PySem.W.hasDictIn K A=true)(h3:PySem.W.typeIn K (.ref A)=some (.type "type"))(h4:PySem.W.subIn K (.ref C) (.ref A)=some true): Catch K mg CT x c:=by
  subst e
  exact⟨A,hm,PySem.W.exm_ref h1 h2 h3 h4⟩
section
variable {X:Cx} {CT:Nat→Addr} {pin:List Nat} {pos:Pos}
theorem mst_tryT{x n:Str}{i c:Nat}{body suite:List Stmt}{b0:Stmt}{np pos':Pos}{b:MS}{d:D}(hs:X.stack=X.env::X.outer)(hf:X.env.frame=some X.env.locals)(hN:X.N.Nodup)(hi:X.N[i]?=some n)(hln:X.env.kindOf n=some .local)(hp:i ∉ pin)(hg:Gl X x)(hc:Catch X.K X.mg CT x c)(hd:d.xc=none)
    (hb:∀ (pn:List (Addr×Obj)) (xe:Value→Shared→Prop),PassesOwn (model X.prog X.w) X.A X.env xe→MSs (X.tr pn xe) CT pin body b)
    (hsu:∀ (a:Addr) (oe:Obj) (cls:Value) (d':Option Addr) (pn:List (Addr×Obj)),Zc cls d' oe→(∃ vs,oe.data=.fields vs)→PSs (X.suite a ((a,oe)::pn)) (b0::suite) (tSu X.K CT pin i (kTold c d) a cls d')) (hdb:(x==("__debug__":Str))=false:=by decide) :
    MSt X CT pin (.Try body [.ExceptHandler (some (.Name x np)) (some n) (b0::suite) pos'] [] [] pos) (sTry b i (kTold c d)):=by
  obtain⟨A,hm,he⟩:=hc
  exact mst_try hs hf hN hi hln hp ⟨hg,hdb,.inl hm⟩ (kTold_rt hd) (fun cn=>by
    by_cases h:cn=c
    · subst h;exact .inl he
    · exact .inr (kTold_c h)) hb hsu
end
end E
namespace E
open PySem L2 PySem.Spec PyProof.Rows
def fuel: Nat:=1000000000
def spLaw(K:PySem.W.Frag): Sp:=fun vs H Q _=>∃ (a:Addr) (ns:List Int),vs=[.ref a]∧SqL K H a (ns.map V.int)∧ns.length≤63∧∀ H',Q (.bl true) H'
theorem sp_law{K:PySem.W.Frag}{CT:Nat→Addr}{m:CallM}(h:∀ ns:List Int,ns.length≤63→∃ ds hs,m [.lst false (ns.map .int)] []=.ok (.bl true,ds,hs)): ∀ vs H Q wx,spLaw K vs H Q wx→spM K CT 1 m vs H Q wx:=by
  rintro vs H Q wx ⟨a,ns,rfl,s,hl,q⟩
  obtain⟨ds,hs,e⟩:=h ns hl
  have hF:FzL K ⟨fun x=>x=a∧H a≠none,[]⟩ H a (ns.map V.int):=by
    rcases s with s | s
    · refine .inl ⟨⟨rfl,?_⟩,s⟩
      rcases s with s | ⟨o,s⟩ <;> (rw[s];exact fun z=>by cases z)
    · exact .inr s
  refine⟨⟨fun x=>x=a∧H a≠none,[]⟩,_,[],[],[],.bl true,ds,hs,rfl,RepL.cons (f:=[]) (g:=[]) (.lstF hF (repIs ns)) .nil,.nil,List.nodup_nil,Own.nil,fun x hx=>by rw[hx.1];exact hx.2,e,fun v W' H' fd' fh' fr _ _ r _ _ _ _ _=>?_⟩
  cases r
  exact q H'
theorem law_end{P:Program}{w:World}{K:PySem.W.Frag}{mg:Str→Option Value}{CT:Nat→Addr}{m:CallM}{k:Nat}{fa:Addr}{x:Str}(h:∀ ns:List Int,ns.length≤63→∃ ds hs,m [.lst false (ns.map .int)] []=.ok (.bl true,ds,hs))
    (r:∃ fd:FuncData,(∀ (s:Shared) (v:Value),BindsTo s fd ⟨[v],[]⟩ [(x,v)])∧∀ base:Heap,K.In base→base.Ns mainGlobals mg→FnOk P w K mg base CX0 k fa fd [x] (spM K CT 1 m)) :
    ∃ fd:FuncData,(∀ (s:Shared) (v:Value),BindsTo s fd ⟨[v],[]⟩ [(x,v)])∧∀ base:Heap,K.In base→base.Ns mainGlobals mg→FnOk P w K mg base CX0 k fa fd [x] (spLaw K):=by
  obtain⟨fd,b,f⟩:=r
  exact⟨fd,b,fun base h1 h2=>(f base h1 h2).imp (sp_law h)⟩
end E
namespace E
open PySem L2
def getV: Option D→Res D
  | some .und=>.fail
  | some d=>.ok d
  | none=>.fail
@[simp] theorem getV_none: getV none=.fail:=rfl
@[simp] theorem getV_und: getV (some .und)=.fail:=rfl
@[simp] theorem getV_pure{a:D}(h:a.pure=true): getV (some a)=.ok a:=by cases a <;> first | rfl | (simp at h)
@[simp] theorem getV_non: getV (some (.non ))=.ok (.non ):=rfl
@[simp] theorem getV_bl(b:Bool): getV (some (.bl b))=.ok (.bl b):=rfl
@[simp] theorem getV_int(b:Int): getV (some (.int b))=.ok (.int b):=rfl
@[simp] theorem getV_str(b:Str): getV (some (.str b))=.ok (.str b):=rfl
@[simp] theorem getV_loc(b:Nat): getV (some (.loc b))=.ok (.loc b):=rfl
@[simp] theorem getV_ty(b:String): getV (some (.ty b))=.ok (.ty b):=rfl
@[simp] theorem getV_tup(b:List D): getV (some (.tup b))=.ok (.tup b):=rfl
@[simp] theorem getV_lst(o:Bool)(b:List D): getV (some (.lst o b))=.ok (.lst o b):=rfl
@[simp] theorem getV_dic(o t:Bool)(b:List (D×D)): getV (some (.dic o t b))=.ok (.dic o t b):=rfl
@[simp] theorem defd_pure{a:D}(h:a.pure=true): a.defd=true:=by cases a <;> first | rfl | (simp at h)
@[simp] theorem defd_und: D.und.defd=false:=rfl
@[simp] theorem defd_non: (.non :D).defd=true:=rfl
@[simp] theorem defd_bl(b:Bool): (.bl b:D).defd=true:=rfl
@[simp] theorem defd_int(b:Int): (.int b:D).defd=true:=rfl
@[simp] theorem defd_str(b:Str): (.str b:D).defd=true:=rfl
@[simp] theorem defd_loc(b:Nat): (.loc b:D).defd=true:=rfl
@[simp] theorem defd_ty(b:String): (.ty b:D).defd=true:=rfl
@[simp] theorem defd_tup(b:List D): (.tup b:D).defd=true:=rfl
@[simp] theorem defd_lst(o:Bool)(b:List D): (.lst o b:D).defd=true:=rfl
@[simp] theorem defd_dic(o t:Bool)(b:List (D×D)): (.dic o t b:D).defd=true:=rfl
def grabV (i:Nat) (as:List Arg) (env:List D):Option D→Res (List D×List (Option Nat)×List D)
  | some .und=>.fail
  | some d=>if d.pure=true then (grab as env).bind fun r=>.ok (d::r.1,none::r.2.1,r.2.2)
    else (grab as (env.set i .und)).bind fun r=>.ok (d::r.1,some i::r.2.1,r.2.2)
  | none=>.fail
@[simp] theorem grab_nil(env:List D): grab [] env=.ok ([],[],env):=by unfold grab;rfl
@[simp] theorem grab_val(d:D)(as:List Arg)(env:List D): grab (.val d::as) env=((grab as env).bind fun r=>.ok (d::r.1,none::r.2.1,r.2.2)):=by rw[grab]
@[simp] theorem grab_bor(d:D)(as:List Arg)(env:List D): grab (.bor d::as) env=Res.when d.pure ((grab as env).bind fun r=>.ok (d::r.1,none::r.2.1,r.2.2)):=by rw[grab]
@[simp] theorem grab_nam(i:Nat)(as:List Arg)(env:List D): grab (.nam i::as) env=grabV i as env env[i]?:=by
  rw[grab]
  generalize env[i]?=o
  rcases o with _ | d
  · rfl
  · cases d <;> rfl
@[simp] theorem grabV_none(i:Nat)(as:List Arg)(env:List D): grabV i as env none=.fail:=rfl
@[simp] theorem grabV_und(i:Nat)(as:List Arg)(env:List D): grabV i as env (some .und)=.fail:=rfl
@[simp] theorem grabV_pure(i:Nat)(as:List Arg)(env:List D){a:D}(h:a.pure=true): grabV i as env (some a)=((grab as env).bind fun r=>.ok (a::r.1,none::r.2.1,r.2.2)):=by cases a <;> simp_all [grabV]
@[simp] theorem grabV_non(i:Nat)(as:List Arg)(env:List D): grabV i as env (some (.non ))=((grab as env).bind fun r=>.ok ((.non )::r.1,none::r.2.1,r.2.2)):=grabV_pure i as env rfl
@[simp] theorem grabV_bl(i:Nat)(as:List Arg)(env:List D)(b:Bool): grabV i as env (some (.bl b))=((grab as env).bind fun r=>.ok ((.bl b)::r.1,none::r.2.1,r.2.2)):=grabV_pure i as env rfl
@[simp] theorem grabV_int(i:Nat)(as:List Arg)(env:List D)(b:Int): grabV i as env (some (.int b))=((grab as env).bind fun r=>.ok ((.int b)::r.1,none::r.2.1,r.2.2)):=grabV_pure i as env rfl
@[simp] theorem grabV_str(i:Nat)(as:List Arg)(env:List D)(b:Str): grabV i as env (some (.str b))=((grab as env).bind fun r=>.ok ((.str b)::r.1,none::r.2.1,r.2.2)):=grabV_pure i as env rfl
@[simp] theorem grabV_loc(i:Nat)(as:List Arg)(env:List D)(b:Nat): grabV i as env (some (.loc b))=((grab as env).bind fun r=>.ok ((.loc b)::r.1,none::r.2.1,r.2.2)):=grabV_pure i as env rfl
@[simp] theorem grabV_ty(i:Nat)(as:List Arg)(env:List D)(b:String): grabV i as env (some (.ty b))=((grab as env).bind fun r=>.ok ((.ty b)::r.1,none::r.2.1,r.2.2)):=grabV_pure i as env rfl
@[simp] theorem grabV_tup(i:Nat)(as:List Arg)(env:List D)(b:List D): grabV i as env (some (.tup b))=if (.tup b:D).pure=true then (grab as env).bind fun r=>.ok ((.tup b:D)::r.1,none::r.2.1,r.2.2) else (grab as (env.set i .und)).bind fun r=>.ok ((.tup b:D)::r.1,some i::r.2.1,r.2.2):=rfl
@[simp] theorem grabV_lst(i:Nat)(as:List Arg)(env:List D)(o:Bool)(b:List D): grabV i as env (some (.lst o b))=if (.lst o b:D).pure=true then (grab as env).bind fun r=>.ok ((.lst o b:D)::r.1,none::r.2.1,r.2.2) else (grab as (env.set i .und)).bind fun r=>.ok ((.lst o b:D)::r.1,some i::r.2.1,r.2.2):=rfl
@[simp] theorem grabV_dic(i:Nat)(as:List Arg)(env:List D)(o t:Bool)(b:List (D×D)): grabV i as env (some (.dic o t b))=if (.dic o t b:D).pure=true then (grab as env).bind fun r=>.ok ((.dic o t b:D)::r.1,none::r.2.1,r.2.2) else (grab as (env.set i .und)).bind fun r=>.ok ((.dic o t b:D)::r.1,some i::r.2.1,r.2.2):=rfl
@[simp] theorem mqC_ap(d:D)(env:List D)(hs:List Ob): mqC d ⟨env,hs⟩=(fun _:Mem=>.ok d) ⟨env,hs⟩:=rfl
@[simp] theorem mqVar_ap(i:Nat)(env:List D)(hs:List Ob): mqVar i ⟨env,hs⟩=getV env[i]?:=rfl
@[simp] theorem mP_ap(q:MQ D)(env:List D)(hs:List Ob): mP q ⟨env,hs⟩=(fun m:Mem=>(q m).bind fun d=>Res.when d.pure (.ok (d,m))) ⟨env,hs⟩:=rfl
@[simp] theorem mVar_ap(i:Nat)(env:List D)(hs:List Ob): mVar i ⟨env,hs⟩=(fun m:Mem=>(mqVar i m).bind fun d=>if d.pure=true then .ok (d,m) else .ok (d.fz,{ m with env:=m.env.set i d.fz })) ⟨env,hs⟩:=rfl
@[simp] theorem mB_ap(q:MQ D)(env:List D)(hs:List Ob): mB q ⟨env,hs⟩=(fun m:Mem=>(q m).bind fun d=>.ok (d,m)) ⟨env,hs⟩:=rfl
@[simp] theorem mOp2_ap(g:D→D→Res D)(ma mb:M D)(env:List D)(hs:List Ob): mOp2 g ma mb ⟨env,hs⟩=(fun m:Mem=>(ma m).bind fun r1=>(mb r1.2).bind fun r2=>(g r1.1 r2.1).bind fun d=>.ok (d,r2.2)) ⟨env,hs⟩:=rfl
@[simp] theorem mOpN_ap(g:D→D→Res D)(i:Nat)(mb:M D)(env:List D)(hs:List Ob): mOpN g i mb ⟨env,hs⟩=(fun m:Mem=>(mqVar i m).bind fun _=>(mb m).bind fun r2=>(mqVar i r2.2).bind fun d1=>(g d1 r2.1).bind fun d=>.ok (d,r2.2)) ⟨env,hs⟩:=rfl
@[simp] theorem mqOp2_ap(g:D→D→Res D)(qa qb:MQ D)(env:List D)(hs:List Ob): mqOp2 g qa qb ⟨env,hs⟩=(fun m:Mem=>(qa m).bind fun d1=>(qb m).bind fun d2=>(g d1 d2).bind fun d=>Res.when d.pure (.ok d)) ⟨env,hs⟩:=rfl
@[simp] theorem mOpQ_ap(g:D→D→Res D)(qa qb:MQ D)(env:List D)(hs:List Ob): mOpQ g qa qb ⟨env,hs⟩=(fun m:Mem=>(qa m).bind fun d1=>(qb m).bind fun d2=>(g d1 d2).bind fun d=>.ok (d,m)) ⟨env,hs⟩:=rfl
@[simp] theorem mtB_ap(e:M D)(env:List D)(hs:List Ob): mtB e ⟨env,hs⟩=(fun m:Mem=>(e m).bind fun r=>r.1.isB.bind fun b=>.ok (b,r.2)) ⟨env,hs⟩:=rfl
@[simp] theorem mtV_ap(e:M D)(env:List D)(hs:List Ob): mtV e ⟨env,hs⟩=(fun m:Mem=>(e m).bind fun r=>r.1.tru.bind fun b=>.ok (b,r.2)) ⟨env,hs⟩:=rfl
@[simp] theorem mtAnd_ap(a b:M Bool)(env:List D)(hs:List Ob): mtAnd a b ⟨env,hs⟩=(fun m:Mem=>(a m).bind fun r=>if r.1=true then b r.2 else .ok (false,r.2)) ⟨env,hs⟩:=rfl
@[simp] theorem mtOr_ap(a b:M Bool)(env:List D)(hs:List Ob): mtOr a b ⟨env,hs⟩=(fun m:Mem=>(a m).bind fun r=>if r.1=true then .ok (true,r.2) else b r.2) ⟨env,hs⟩:=rfl
@[simp] theorem mtNot_ap(a:M Bool)(env:List D)(hs:List Ob): mtNot a ⟨env,hs⟩=(fun m:Mem=>(a m).bind fun r=>.ok (!r.1,r.2)) ⟨env,hs⟩:=rfl
@[simp] theorem mAnd_ap(a b:M D)(env:List D)(hs:List Ob): mAnd a b ⟨env,hs⟩=(fun m:Mem=>(a m).bind fun r=>r.1.isB.bind fun c=>if c=true then b r.2 else .ok (.bl false,r.2)) ⟨env,hs⟩:=rfl
@[simp] theorem mOr_ap(a b:M D)(env:List D)(hs:List Ob): mOr a b ⟨env,hs⟩=(fun m:Mem=>(a m).bind fun r=>r.1.isB.bind fun c=>if c=true then .ok (.bl true,r.2) else b r.2) ⟨env,hs⟩:=rfl
@[simp] theorem mNot_ap(a:M D)(env:List D)(hs:List Ob): mNot a ⟨env,hs⟩=(fun m:Mem=>(a m).bind fun r=>r.1.isB.bind fun c=>.ok (.bl (!c),r.2)) ⟨env,hs⟩:=rfl
@[simp] theorem mIf_ap(t:M Bool)(a b:M D)(env:List D)(hs:List Ob): mIf t a b ⟨env,hs⟩=(fun m:Mem=>(t m).bind fun r=>if r.1=true then a r.2 else b r.2) ⟨env,hs⟩:=rfl
@[simp] theorem mOp1_ap(g:D→Res D)(ma:M D)(env:List D)(hs:List Ob): mOp1 g ma ⟨env,hs⟩=(fun m:Mem=>(ma m).bind fun r=>(g r.1).bind fun d=>.ok (d,r.2)) ⟨env,hs⟩:=rfl
@[simp] theorem mqOp1_ap(g:D→Res D)(qa:MQ D)(env:List D)(hs:List Ob): mqOp1 g qa ⟨env,hs⟩=(fun m:Mem=>(qa m).bind fun d1=>(g d1).bind fun d=>Res.when d.pure (.ok d)) ⟨env,hs⟩:=rfl
@[simp] theorem mqIx_ap(qa qb:MQ D)(env:List D)(hs:List Ob): mqIx qa qb ⟨env,hs⟩=(fun m:Mem=>(qa m).bind fun d1=>(qb m).bind fun d2=>dIx d1 d2) ⟨env,hs⟩:=rfl
@[simp] theorem mIx_ap(ma mb:M D)(env:List D)(hs:List Ob): mIx ma mb ⟨env,hs⟩=(fun m:Mem=>(ma m).bind fun r1=>(mb r1.2).bind fun r2=>(dIx r1.1 r2.1).bind fun d=>Res.when d.pure (.ok (d,r2.2))) ⟨env,hs⟩:=rfl
@[simp] theorem mIxN_ap(i:Nat)(mb:M D)(env:List D)(hs:List Ob): mIxN i mb ⟨env,hs⟩=(fun m:Mem=>(mqVar i m).bind fun _=>(mb m).bind fun r2=>(mqVar i r2.2).bind fun d1=>(dIx d1 r2.1).bind fun d=>Res.when d.pure (.ok (d,r2.2))) ⟨env,hs⟩:=rfl
@[simp] theorem mqNone_ap(env:List D)(hs:List Ob): mqNone  ⟨env,hs⟩=(fun _:Mem=>.ok none) ⟨env,hs⟩:=rfl
@[simp] theorem mqSome_ap(q:MQ D)(env:List D)(hs:List Ob): mqSome q ⟨env,hs⟩=(fun m:Mem=>(q m).bind fun d=>match d with
  | .int i=>.ok (some i)
  | _=>.fail) ⟨env,hs⟩:=rfl
@[simp] theorem mSl_ap(ma:M D)(lo hi:MQ (Option Int))(env:List D)(hs:List Ob): mSl ma lo hi ⟨env,hs⟩=(fun m:Mem=>(ma m).bind fun r=>(lo r.2).bind fun l=>(hi r.2).bind fun h=>(dSl r.1 l h).bind fun d=>.ok (d,r.2)) ⟨env,hs⟩:=rfl
@[simp] theorem maNil_ap(env:List D)(hs:List Ob): maNil  ⟨env,hs⟩=(fun m:Mem=>.ok ([],m)) ⟨env,hs⟩:=rfl
@[simp] theorem maV_ap(a:M D)(r:M (List Arg))(env:List D)(hs:List Ob): maV a r ⟨env,hs⟩=(fun m:Mem=>(a m).bind fun x=>(r x.2).bind fun y=>.ok (.val x.1::y.1,y.2)) ⟨env,hs⟩:=rfl
@[simp] theorem maN_ap(i:Nat)(r:M (List Arg))(env:List D)(hs:List Ob): maN i r ⟨env,hs⟩=(fun m:Mem=>(mqVar i m).bind fun _=>(r m).bind fun y=>.ok (.nam i::y.1,y.2)) ⟨env,hs⟩:=rfl
@[simp] theorem maQ_ap(q:MQ (List D))(env:List D)(hs:List Ob): maQ q ⟨env,hs⟩=(fun m:Mem=>(q m).bind fun ds=>.ok (ds.map .bor,m)) ⟨env,hs⟩:=rfl
@[simp] theorem mqNil_ap(env:List D)(hs:List Ob): mqNil  ⟨env,hs⟩=(fun _:Mem=>.ok []) ⟨env,hs⟩:=rfl
@[simp] theorem mqCons_ap(a:MQ D)(r:MQ (List D))(env:List D)(hs:List Ob): mqCons a r ⟨env,hs⟩=(fun m:Mem=>(a m).bind fun x=>(r m).bind fun y=>.ok (x::y)) ⟨env,hs⟩:=rfl
@[simp] theorem mTup_ap(a:M (List Arg))(env:List D)(hs:List Ob): mTup a ⟨env,hs⟩=(fun m:Mem=>(a m).bind fun r=>(vals r.1).bind fun ds=>Res.when (decide (ds.length≤sizeLine)) (.ok (.tup ds,r.2))) ⟨env,hs⟩:=rfl
@[simp] theorem mLst_ap(a:M (List Arg))(env:List D)(hs:List Ob): mLst a ⟨env,hs⟩=(fun m:Mem=>(a m).bind fun r=>(vals r.1).bind fun ds=>Res.when (decide (ds.length≤sizeLine)) (.ok (.lst true ds,r.2))) ⟨env,hs⟩:=rfl
@[simp] theorem mqTup_ap(a:MQ (List D))(env:List D)(hs:List Ob): mqTup a ⟨env,hs⟩=(fun m:Mem=>(a m).bind fun ds=>Res.when (pureL ds&&decide (ds.length≤sizeLine)) (.ok (.tup ds))) ⟨env,hs⟩:=rfl
@[simp] theorem mCB_ap(g:List D→Res D)(a:M (List Arg))(env:List D)(hs:List Ob): mCB g a ⟨env,hs⟩=(fun m:Mem=>(a m).bind fun r=>(conts r.2.env r.1).bind fun ds=>(g ds).bind fun d=>.ok (d,r.2)) ⟨env,hs⟩:=rfl
@[simp] theorem mqCB_ap(g:List D→Res D)(a:MQ (List D))(env:List D)(hs:List Ob): mqCB g a ⟨env,hs⟩=(fun m:Mem=>(a m).bind fun ds=>(g ds).bind fun d=>Res.when d.pure (.ok d)) ⟨env,hs⟩:=rfl
@[simp] theorem mCall_ap(f:CallM)(dd:List D)(a:M (List Arg))(env:List D)(hs:List Ob): mCall f dd a ⟨env,hs⟩=(fun m:Mem=>(a m).bind fun r=>(grab r.1 r.2.env).bind fun q=>(f (q.1++dd) r.2.hs).bind fun o=>.ok (o.1,⟨giveBack q.2.1 o.2.1 q.2.2,o.2.2⟩)) ⟨env,hs⟩:=rfl
@[simp] theorem sPass_ap(env:List D)(hs:List Ob): sPass  ⟨env,hs⟩=(fun m:Mem=>.ok (.nx,m)) ⟨env,hs⟩:=rfl
@[simp] theorem sBk_ap(env:List D)(hs:List Ob): sBk  ⟨env,hs⟩=(fun m:Mem=>.ok (.bk,m)) ⟨env,hs⟩:=rfl
@[simp] theorem sCt_ap(env:List D)(hs:List Ob): sCt  ⟨env,hs⟩=(fun m:Mem=>.ok (.ct,m)) ⟨env,hs⟩:=rfl
@[simp] theorem sNever_ap(env:List D)(hs:List Ob): sNever  ⟨env,hs⟩=(fun _:Mem=>.fail) ⟨env,hs⟩:=rfl
@[simp] theorem sSeq_ap(a b:MS)(env:List D)(hs:List Ob): sSeq a b ⟨env,hs⟩=(fun m:Mem=>(a m).bind fun r=>match r.1 with
  | .nx=>b r.2
  | .bk=>.ok (.bk,r.2)
  | .ct=>.ok (.ct,r.2)
  | .rt d=>.ok (.rt d,r.2)) ⟨env,hs⟩:=rfl
@[simp] theorem sEx_ap(e:M D)(env:List D)(hs:List Ob): sEx e ⟨env,hs⟩=(fun m:Mem=>(e m).bind fun r=>.ok (.nx,r.2)) ⟨env,hs⟩:=rfl
@[simp] theorem sRt_ap(e:M D)(env:List D)(hs:List Ob): sRt e ⟨env,hs⟩=(fun m:Mem=>(e m).bind fun r=>.ok (.rt r.1,r.2)) ⟨env,hs⟩:=rfl
@[simp] theorem sRtN_ap(env:List D)(hs:List Ob): sRtN  ⟨env,hs⟩=(fun m:Mem=>.ok (.rt .non,m)) ⟨env,hs⟩:=rfl
@[simp] theorem sIf_ap(t:M Bool)(a b:MS)(env:List D)(hs:List Ob): sIf t a b ⟨env,hs⟩=(fun m:Mem=>(t m).bind fun r=>if r.1=true then a r.2 else b r.2) ⟨env,hs⟩:=rfl
@[simp] theorem sAsg_ap(e:M D)(b:D→Mem→Res Mem)(env:List D)(hs:List Ob): sAsg e b ⟨env,hs⟩=(fun m:Mem=>(e m).bind fun r=>(b r.1 r.2).bind fun m'=>.ok (.nx,m')) ⟨env,hs⟩:=rfl
@[simp] theorem miV_ap(e:M D)(env:List D)(hs:List Ob): miV e ⟨env,hs⟩=(fun m:Mem=>(e m).bind fun r=>(itOf (fun(_:Mem)=>True) r.1).bind fun it=>.ok (it,r.2)) ⟨env,hs⟩:=rfl
@[simp] theorem miN_ap(i:Nat)(env:List D)(hs:List Ob): miN i ⟨env,hs⟩=(fun m:Mem=>(mqVar i m).bind fun d=>(itOf (fun m'=>m'.env[i]?=some d) d).bind fun it=>.ok (it,m)) ⟨env,hs⟩:=rfl
@[simp] theorem miR1_ap(a:M (List Arg))(env:List D)(hs:List Ob): miR1 a ⟨env,hs⟩=(fun m:Mem=>(a m).bind fun r=>(conts r.2.env r.1).bind fun ds=>match ds with
  | [.int j]=>Res.when (b62 j) (.ok ((rangeD 0 j.toNat,fun(_:Mem)=>True),r.2))
  | _=>.fail) ⟨env,hs⟩:=rfl
@[simp] theorem miR2_ap(a:M (List Arg))(env:List D)(hs:List Ob): miR2 a ⟨env,hs⟩=(fun m:Mem=>(a m).bind fun r=>(conts r.2.env r.1).bind fun ds=>match ds with
  | [.int i,.int j]=>Res.when (b62 i&&b62 j) (.ok ((rangeD i (j - i).toNat,fun(_:Mem)=>True),r.2))
  | _=>.fail) ⟨env,hs⟩:=rfl
@[simp] theorem sFor_ap(it:M It)(b:D→Mem→Res Mem)(body:MS)(env:List D)(hs:List Ob): sFor it b body ⟨env,hs⟩=(fun m:Mem=>(it m).bind fun r=>forM r.1.2 b body r.1.1 r.2) ⟨env,hs⟩:=rfl
@[simp] theorem mLc_ap(it:M E.It)(vs:List Nat)(b:D→Mem→Res Mem)(tt:M Bool)(el:M D)(env:List D)(hs:List Ob): mLc it vs b tt el ⟨env,hs⟩=(fun m:Mem=>(it m).bind fun r =>
  Res.when (vs.all fun v=>decide (v<r.2.env.length)) ((lcM r.1.2 vs b tt el r.1.1 [] ⟨undL vs r.2.env,r.2.hs⟩).bind fun o=>.ok (.lst true o.1,⟨restore r.2.env vs o.2.env,o.2.hs⟩))) ⟨env,hs⟩:=rfl
@[simp] theorem mtYes_ap(env:List D)(hs:List Ob): mtYes  ⟨env,hs⟩=(fun m:Mem=>.ok (true,m)) ⟨env,hs⟩:=rfl
@[simp] theorem mAppN_ap(i:Nat)(a:M D)(env:List D)(hs:List Ob): mAppN i a ⟨env,hs⟩=(fun m:Mem=>(mqVar i m).bind fun d0=>Res.when d0.isL ((a m).bind fun r=>(mqVar i r.2).bind fun d=>match d with
  | .lst true xs=>Res.when (decide (xs.length<sizeLine)) (.ok (.non,{ r.2 with env:=r.2.env.set i (.lst true (xs++[r.1])) }))
  | _=>.fail)) ⟨env,hs⟩:=rfl
@[simp] theorem sAug_ap(i:Nat)(g:D→D→Res D)(e:M D)(env:List D)(hs:List Ob): sAug i g e ⟨env,hs⟩=(fun m:Mem=>(mqVar i m).bind fun d0=>Res.when d0.pure ((e m).bind fun r=>(g d0 r.1).bind fun d=>Res.when (d.pure&&decide (i<r.2.env.length)) (.ok (.nx,{ r.2 with env:=r.2.env.set i d })))) ⟨env,hs⟩:=rfl
@[simp] theorem mMv_ap(i:Nat)(env:List D)(hs:List Ob): mMv i ⟨env,hs⟩=(fun m:Mem=>(mqVar i m).bind fun d=>if d.pure=true then .ok (d,m) else .ok (d,{ m with env:=m.env.set i .und })) ⟨env,hs⟩:=rfl
@[simp] theorem sPar_ap(i j:Nat)(a:M (List Arg))(env:List D)(hs:List Ob): sPar i j a ⟨env,hs⟩=(fun m:Mem=>(a m).bind fun r=>(vals r.1).bind fun ds=>match ds with
  | [d1,d2]=>(bName i d1 r.2).bind fun m1=>(bName j d2 m1).bind fun m2=>.ok (.nx,m2)
  | _=>.fail) ⟨env,hs⟩:=rfl
@[simp] theorem mqChain_ap(g g':D→D→Res D)(qa qb qc:MQ D)(env:List D)(hs:List Ob): mqChain g g' qa qb qc ⟨env,hs⟩=(fun m:Mem=>(qa m).bind fun d1=>(qb m).bind fun d2=>(g d1 d2).bind fun r=>r.isB.bind fun c=>if c=true then (qc m).bind fun d3=>(g' d2 d3).bind fun d=>Res.when d.pure (.ok d) else .ok (.bl false)) ⟨env,hs⟩:=rfl
@[simp] theorem mLstRg_ap(me:M D)(env:List D)(hs:List Ob): mLstRg me ⟨env,hs⟩=(fun m:Mem=>(me m).bind fun r=>match r.1 with
  | .int j=>Res.when (cdec (0≤j∧j≤16777216)) (.ok (.lst true (rangeD 0 j.toNat),r.2))
  | _=>.fail) ⟨env,hs⟩:=rfl
@[simp] theorem mqAttr_ap(cs:List Nat)(f:String)(q:MQ D)(env:List D)(hs:List Ob): mqAttr cs f q ⟨env,hs⟩=(fun m:Mem=>(q m).bind fun d=>match d with
  | .loc n=>match m.hs[n]? with
    | some ob=>Res.when (cs.contains ob.cls) (Res.of (lookF f ob.fs))
    | none=>.fail
  | _=>.fail) ⟨env,hs⟩:=rfl
@[simp] theorem sSetA_ap(cs:List Nat)(f:String)(e:M D)(q:MQ D)(env:List D)(hs:List Ob): sSetA cs f e q ⟨env,hs⟩=(fun m:Mem=>(e m).bind fun r=>(q r.2).bind fun d=>match d with
  | .loc n=>match r.2.hs[n]? with
    | some ob=>Res.when (cs.contains ob.cls&&decide (ob.fs.length<1000)) (.ok (.nx,⟨r.2.env,r.2.hs.set n ⟨ob.cls,setF f r.1 ob.fs⟩⟩))
    | none=>.fail
  | _=>.fail) ⟨env,hs⟩:=rfl
@[simp] theorem mMeth_ap(c:Nat)(mn:String)(f:CallM)(dd:List D)(q:MQ D)(a:M (List Arg))(env:List D)(hs:List Ob): mMeth c mn f dd q a ⟨env,hs⟩=(fun m:Mem=>(q m).bind fun d=>Res.when (isOf c mn m d) ((a m).bind fun r=>callTail f dd (.val d::r.1) r.2)) ⟨env,hs⟩:=rfl
@[simp] theorem mMake_ap(c:Nat)(f:CallM)(dd:List D)(a:M (List Arg))(env:List D)(hs:List Ob): mMake c f dd a ⟨env,hs⟩=(fun m:Mem=>(a m).bind fun r=>(callTail f dd (.val (.loc r.2.hs.length)::r.1) ⟨r.2.env,r.2.hs++[⟨c,[]⟩]⟩).bind fun o=>match o.1 with
  | .non=>.ok (.loc r.2.hs.length,o.2)
  | _=>.fail) ⟨env,hs⟩:=rfl
@[simp] theorem mOrM_ap(a b:M D)(env:List D)(hs:List Ob): mOrM a b ⟨env,hs⟩=(fun m:Mem=>match a m with
  | .ok r=>.ok r
  | _=>b m) ⟨env,hs⟩:=rfl
@[simp] theorem miRevV_ap(e:M D)(env:List D)(hs:List Ob): miRevV e ⟨env,hs⟩=(fun m:Mem=>(miV e m).bind fun r=>.ok (revIt r.1,r.2)) ⟨env,hs⟩:=rfl
@[simp] theorem miRevN_ap(i:Nat)(env:List D)(hs:List Ob): miRevN i ⟨env,hs⟩=(fun m:Mem=>(miN i m).bind fun r=>.ok (revIt r.1,r.2)) ⟨env,hs⟩:=rfl
@[simp] theorem miEnV_ap(e:M D)(env:List D)(hs:List Ob): miEnV e ⟨env,hs⟩=(fun m:Mem=>(e m).bind fun r=>enOf (fun(_:Mem)=>True) r.2 r.1) ⟨env,hs⟩:=rfl
@[simp] theorem miEnN_ap(i:Nat)(env:List D)(hs:List Ob): miEnN i ⟨env,hs⟩=(fun m:Mem=>(mqVar i m).bind fun d=>enOf (fun m'=>m'.env[i]?=some d) m d) ⟨env,hs⟩:=rfl
@[simp] theorem bName_ap(i:Nat)(d:D)(env:List D)(hs:List Ob): bName i d ⟨env,hs⟩=Res.when (decide (i<env.length)) (.ok ⟨env.set i d,hs⟩):=rfl
@[simp] theorem bNil_ap(env:List D)(hs:List Ob): bNil [] ⟨env,hs⟩=.ok ⟨env,hs⟩:=rfl
@[simp] theorem bCons_ap(b:D→Mem→Res Mem)(bs:List D→Mem→Res Mem)(d:D)(ds:List D)(env:List D)(hs:List Ob): bCons b bs (d::ds) ⟨env,hs⟩=(b d ⟨env,hs⟩).bind (bs ds):=rfl
@[simp] theorem bTL_tup(n:Nat)(bs:List D→Mem→Res Mem)(ds:List D)(env:List D)(hs:List Ob): bTL n bs (.tup ds) ⟨env,hs⟩=Res.when (decide (ds.length=n)) (bs ds ⟨env,hs⟩):=rfl
@[simp] theorem bTL_lst(n:Nat)(o:Bool)(bs:List D→Mem→Res Mem)(ds:List D)(env:List D)(hs:List Ob): bTL n bs (.lst o ds) ⟨env,hs⟩=Res.when (decide (ds.length=n)&&pureL ds) (bs ds ⟨env,hs⟩):=rfl
@[simp] theorem bSub_ap(i:Nat)(q:MQ D)(d:D)(env:List D)(hs:List Ob): bSub i q d ⟨env,hs⟩=(q ⟨env,hs⟩).bind fun k=>(mqVar i ⟨env,hs⟩).bind fun x=>match x,k with
  | .lst true xs,.int k=>(Res.of (ixN xs.length k)).bind fun j=>.ok ⟨env.set i (.lst true (xs.set j d)),hs⟩
  | _,_=>.fail:=rfl
@[simp] theorem Res.ifP_t{α:Type}(r:Res α): Res.ifP True r=r:=if_pos trivial
@[simp] theorem forM_nil(ok:Mem→Prop)(b:D→Mem→Res Mem)(body:MS)(env:List D)(hs:List Ob): E.forM ok b body [] ⟨env,hs⟩=Res.ifP (ok ⟨env,hs⟩) (.ok (.nx,⟨env,hs⟩)):=rfl
@[simp] theorem forM_cons(ok:Mem→Prop)(b:D→Mem→Res Mem)(body:MS)(x:D)(xs:List D)(env:List D)(hs:List Ob): E.forM ok b body (x::xs) ⟨env,hs⟩=Res.ifP (ok ⟨env,hs⟩) ((b x ⟨env,hs⟩).bind fun m1=>(body m1).bind fun o=>match o.1 with
      | .nx=>E.forM ok b body xs o.2
      | .ct=>E.forM ok b body xs o.2
      | .bk=>.ok (.nx,o.2)
      | .rt d=>.ok (.rt d,o.2)):=rfl
@[simp] theorem mDef_ap(n N:Nat)(pin:List Nat)(body:MS)(ds:List D)(hs:List Ob): mDef n N pin body ds hs=Res.when (decide (ds.length=n)) ((body ⟨ds++List.replicate (N - n) .und,hs⟩).bind fun r=>(D.rtv r.1).bind fun d=>Res.when d.xc.isNone ((outs pin 0 ds r.2.env).bind fun ds'=>.ok (d,ds',r.2.hs))):=rfl
end E
namespace Y
open PySem E
open L2 (ixN atI)
abbrev Pt:= List (Option D)
inductive Mt:Pt→List D→Prop
  | nil:Mt [] []
  | any {p e d}:Mt p e→Mt (none::p) (d::e)
  | one {p e d}:Mt p e→Mt (some d::p) (d::e)
theorem Mt.get{p:Pt}{e:List D}(h:Mt p e): ∀ {i:Nat} {d:D},p[i]?=some (some d)→e[i]?=some d:=by
  induction h with
  | nil=>intro i d q;simp at q
  | any _ ih=>intro i d q;cases i with
    | zero=>simp at q
    | succ i=>simpa using ih (by simpa using q)
  | one _ ih=>intro i d q;cases i with
    | zero=>simpa using q
    | succ i=>simpa using ih (by simpa using q)
theorem Mt.set{p:Pt}{e:List D}(h:Mt p e): ∀ (i:Nat) (d:D),Mt (p.set i (some d)) (e.set i d):=by
  induction h with
  | nil=>intro i d;exact .nil
  | any k ih=>intro i d;cases i with
    | zero=>exact .one k
    | succ i=>exact .any (ih i d)
  | one k ih=>intro i d;cases i with
    | zero=>exact .one k
    | succ i=>exact .one (ih i d)
theorem Mt.setn{p:Pt}{e:List D}(h:Mt p e): ∀ (i:Nat) (d:D),Mt (p.set i none) (e.set i d):=by
  induction h with
  | nil=>intro i d;exact .nil
  | any k ih=>intro i d;cases i with
    | zero=>exact .any k
    | succ i=>exact .any (ih i d)
  | one k ih=>intro i d;cases i with
    | zero=>exact .any k
    | succ i=>exact .one (ih i d)
theorem Mt.len{p:Pt}{e:List D}(h:Mt p e): e.length=p.length:=by
  induction h with
  | nil=>rfl
  | any _ ih=>simp[ih]
  | one _ ih=>simp[ih]
theorem Mt.refl: ∀ e:List D,Mt (e.map some) e
  | []=>.nil
  | _::e=>.one (Mt.refl e)
inductive Wk:Pt→Pt→Prop
  | nil:Wk [] []
  | drop {p q x}:Wk p q→Wk (none::p) (x::q)
  | keep {p q x}:Wk p q→Wk (x::p) (x::q)
  | cast {p q d d'}:d=d'→Wk p q→Wk (some d'::p) (some d::q)
theorem Wk.mt{p q:Pt}(h:Wk p q): ∀ {e:List D},Mt q e→Mt p e:=by
  induction h with
  | nil=>intro e m;exact m
  | drop _ ih=>intro e m;cases m with
    | any k=>exact .any (ih k)
    | one k=>exact .any (ih k)
  | keep _ ih=>intro e m;cases m with
    | any k=>exact .any (ih k)
    | one k=>exact .one (ih k)
  | cast x _ ih=>intro e m;subst x;cases m with
    | one k=>exact .one (ih k)
theorem Wk.rfl: ∀ p:Pt,Wk p p
  | []=>.nil
  | _::p=>.keep (Wk.rfl p)
structure Sx (p:Pt) (h:List Ob) (m:Mem):Prop where
  e:Mt p m.env
  h:m.hs=h
theorem Sx.wk{p q:Pt}{h:List Ob}{m:Mem}(s:Sx q h m)(k:Wk p q): Sx p h m:=⟨k.mt s.e,s.h⟩
def YT(p:Pt)(h:List Ob)(q:MQ D)(d:D): Prop:=∀ m,Sx p h m→q m=.ok d
def YL(p:Pt)(h:List Ob)(q:MQ (List D))(ds:List D): Prop:=∀ m,Sx p h m→q m=.ok ds
def YM(p:Pt)(h:List Ob)(x:M D)(d:D)(p':Pt)(h':List Ob): Prop:=∀ m,Sx p h m→∃ m',x m=.ok (d,m')∧Sx p' h' m'
def YB(p:Pt)(h:List Ob)(x:M Bool)(b:Bool)(p':Pt)(h':List Ob): Prop:=∀ m,Sx p h m→∃ m',x m=.ok (b,m')∧Sx p' h' m'
def YA(p:Pt)(h:List Ob)(x:M (List E.Arg))(as:List E.Arg)(p':Pt)(h':List Ob): Prop:=∀ m,Sx p h m→∃ m',x m=.ok (as,m')∧Sx p' h' m'
def YG(p:Pt)(h:List Ob)(b:Mem→Res Mem)(p':Pt)(h':List Ob): Prop:=∀ m,Sx p h m→∃ m',b m=.ok m'∧Sx p' h' m'
def YO(p:Pt)(h:List Ob)(q:MQ (Option Int))(o:Option Int): Prop:=∀ m,Sx p h m→q m=.ok o
def YI(p:Pt)(h:List Ob)(x:M E.It)(xs:List D)(ok:Mem→Prop)(p':Pt)(h':List Ob): Prop:=∀ m,Sx p h m→∃ m',x m=.ok ((xs,ok),m')∧Sx p' h' m'
section
variable {p p' p1 p2:Pt} {h h' h1 h2:List Ob} {q q1 q2 q3:MQ D} {d d' d1 d2 d3:D} {x x1 x2:M D} {i j:Nat} {g g':D→D→Res D}
theorem YT.c: YT p h (mqC d) d:=fun _ _=>rfl
theorem YT.var(e:p[i]?=some (some d))(n:d.defd=true): YT p h (mqVar i) d:=fun m s=>by
  unfold mqVar
  rw[s.e.get e]
  cases d <;> first | rfl | cases n
theorem YT.op2(a:YT p h q1 d1)(b:YT p h q2 d2)(e:g d1 d2=.ok d)(u:d.pure=true): YT p h (mqOp2 g q1 q2) d:=fun m s=>by
  unfold mqOp2
  rw[a m s,Res.bind_ok,b m s,Res.bind_ok,e,Res.bind_ok,u]
  rfl
theorem YT.op1{g:D→Res D}(a:YT p h q1 d1)(e:g d1=.ok d)(u:d.pure=true): YT p h (mqOp1 g q1) d:=fun m s=>by
  unfold mqOp1
  rw[a m s,Res.bind_ok,e,Res.bind_ok,u]
  rfl
theorem YT.ix(a:YT p h q1 d1)(b:YT p h q2 d2)(e:dIx d1 d2=.ok d): YT p h (mqIx q1 q2) d:=fun m s=>by
  unfold mqIx
  rw[a m s,Res.bind_ok,b m s,Res.bind_ok,e]
theorem YL.nil: YL p h mqNil []:=fun _ _=>rfl
theorem YL.cons{l:MQ (List D)}{ds:List D}(a:YT p h q d)(b:YL p h l ds): YL p h (mqCons q l) (d::ds):=fun m s=>by
  unfold mqCons
  rw[a m s,Res.bind_ok,b m s]
  rfl
theorem YT.cb{l:MQ (List D)}{ds:List D}{g:List D→Res D}(a:YL p h l ds)(e:g ds=.ok d)(u:d.pure=true): YT p h (mqCB g l) d:=fun m s=>by
  unfold mqCB
  rw[a m s,Res.bind_ok,e,Res.bind_ok,u]
  rfl
theorem YT.chain{b:Bool}(a:YT p h q1 d1)(b1:YT p h q2 d2)(e1:g d1 d2=.ok (.bl b))(c:b=true→YT p h q3 d3)(e2:b=true→g' d2 d3=.ok d)(e3:b=false→d=.bl false)(u:d.pure=true): YT p h (mqChain g g' q1 q2 q3) d:=fun m s=>by
  unfold mqChain
  rw[a m s,Res.bind_ok,b1 m s,Res.bind_ok,e1,Res.bind_ok]
  cases b with
  | false=>cases e3 rfl;rfl
  | true =>
    show((q3 m).bind fun d3=>(g' d2 d3).bind fun d=>Res.when d.pure (.ok d))=_
    rw[c rfl m s,Res.bind_ok,e2 rfl,Res.bind_ok,u]
    rfl
theorem YT.chainT{b c:Bool}(a:YT p h q1 d1)(b1:YT p h q2 d2)(e1:g d1 d2=.ok (.bl b))(k:YT p h q3 d3)(e2:g' d2 d3=.ok (.bl c)): YT p h (mqChain g g' q1 q2 q3) (.bl (b&&c)) :=
  YT.chain a b1 e1 (fun _=>k) (fun hb=>by subst hb;exact e2) (fun hb=>by subst hb;rfl) rfl
theorem YM.pp(a:YT p h q d)(u:d.pure=true): YM p h (mP q) d p h:=fun m s=>⟨m,by
  unfold mP
  rw[a m s,Res.bind_ok,u]
  rfl,s⟩
theorem YM.qb(a:YT p h q d): YM p h (mB q) d p h:=fun m s=>⟨m,by
  unfold mB
  rw[a m s,Res.bind_ok],s⟩
theorem fz_same{d:D}(n:d.defd=true)(u:d.pure=true): d.fz=d:=fz_pure d (by intro e;subst e;cases n) (fun _ _=>trivial) u
theorem set_get{e:List D}(k:e[i]?=some d): e.set i d=e:=by
  apply List.ext_getElem?
  intro j
  rw[List.getElem?_set]
  split
  · rename_i ej;subst ej
    rw[if_pos (List.getElem?_eq_some_iff.mp k).1,k]
  · rfl
theorem YM.var(e:p[i]?=some (some d))(n:d.defd=true)(f:d.fz=d'): YM p h (mVar i) d' (p.set i (some d')) h:=fun m s=>by
  unfold mVar
  rw[YT.var e n m s,Res.bind_ok]
  by_cases u:d.pure=true
  · have:d=d':=(fz_same n u).symm.trans f
    subst this
    refine⟨m,by rw[if_pos u],?_,s.h⟩
    have:=s.e.set i d
    rw[set_get (s.e.get e)] at this
    exact this
  · rw[if_neg u,f]
    exact⟨_,rfl,s.e.set i d',s.h⟩
theorem YM.varP(e:p[i]?=some (some d))(n:d.defd=true)(u:d.pure=true): YM p h (mVar i) d p h:=fun m s=>by
  unfold mVar
  rw[YT.var e n m s,Res.bind_ok,if_pos u]
  exact⟨m,rfl,s⟩
theorem YM.mv(e:p[i]?=some (some d))(n:d.defd=true): YM p h (mMv i) d (p.set i none) h:=fun m s=>by
  unfold mMv
  rw[YT.var e n m s,Res.bind_ok]
  have k:=s.e.setn i
  by_cases u:d.pure=true
  · refine⟨m,by rw[if_pos u],?_,s.h⟩
    have:=k d
    rw[set_get (s.e.get e)] at this
    exact this
  · rw[if_neg u]
    exact⟨_,rfl,k _,s.h⟩
theorem YM.fz(a:YM p h x d p' h')(e:d.fz=d'): YM p h (mFz x) d' p' h':=fun m s=>by
  obtain⟨m1,e1,s1⟩:=a m s
  refine⟨m1,?_,s1⟩
  unfold mFz
  rw[e1,Res.bind_ok,e]
theorem YM.op2(a:YM p h x1 d1 p1 h1)(b:YM p1 h1 x2 d2 p' h')(e:g d1 d2=.ok d): YM p h (mOp2 g x1 x2) d p' h':=fun m s=>by
  obtain⟨m1,e1,s1⟩:=a m s
  obtain⟨m2,e2,s2⟩:=b m1 s1
  refine⟨m2,?_,s2⟩
  unfold mOp2
  rw[e1,Res.bind_ok,e2,Res.bind_ok,e]
  rfl
theorem YM.opN(g0:p[i]?=some (some d1))(n0:d1.defd=true)(b:YM p h x2 d2 p' h')(g1:p'[i]?=some (some d3))(n1:d3.defd=true)(e:g d3 d2=.ok d): YM p h (mOpN g i x2) d p' h':=fun m s=>by
  obtain⟨m2,e2,s2⟩:=b m s
  refine⟨m2,?_,s2⟩
  unfold mOpN
  rw[YT.var g0 n0 m s,Res.bind_ok,e2,Res.bind_ok,YT.var g1 n1 m2 s2,Res.bind_ok,e]
  rfl
theorem YM.opQ(a:YT p h q1 d1)(b:YT p h q2 d2)(e:g d1 d2=.ok d): YM p h (mOpQ g q1 q2) d p h:=fun m s=>⟨m,by
  unfold mOpQ
  rw[a m s,Res.bind_ok,b m s,Res.bind_ok,e]
  rfl,s⟩
theorem YM.op1{g:D→Res D}(a:YM p h x1 d1 p' h')(e:g d1=.ok d): YM p h (mOp1 g x1) d p' h':=fun m s=>by
  obtain⟨m1,e1,s1⟩:=a m s
  refine⟨m1,?_,s1⟩
  unfold mOp1
  rw[e1,Res.bind_ok,e]
  rfl
theorem YM.and{b:Bool}(a:YM p h x1 (.bl b) p1 h1)(k:b=true→YM p1 h1 x2 d p' h')(k2:b=false→d=.bl false∧h'=h1∧Wk p' p1): YM p h (mAnd x1 x2) d p' h':=fun m s=>by
  obtain⟨m1,e1,s1⟩:=a m s
  unfold mAnd
  rw[e1,Res.bind_ok]
  cases b with
  | true=>exact k rfl m1 s1
  | false =>
    obtain⟨rfl,rfl,w⟩:=k2 rfl
    exact⟨m1,rfl,s1.wk w⟩
theorem YM.or{b:Bool}(a:YM p h x1 (.bl b) p1 h1)(k:b=false→YM p1 h1 x2 d p' h')(k2:b=true→d=.bl true∧h'=h1∧Wk p' p1): YM p h (mOr x1 x2) d p' h':=fun m s=>by
  obtain⟨m1,e1,s1⟩:=a m s
  unfold mOr
  rw[e1,Res.bind_ok]
  cases b with
  | false=>exact k rfl m1 s1
  | true =>
    obtain⟨rfl,rfl,w⟩:=k2 rfl
    exact⟨m1,rfl,s1.wk w⟩
theorem YM.andT{b c:Bool}(a:YM p h x1 (.bl b) p1 h1)(k:YM p1 h1 x2 (.bl c) p1 h1): YM p h (mAnd x1 x2) (.bl (b&&c)) p1 h1 :=
  YM.and a (fun hb=>by subst hb;exact k) (fun hb=>by subst hb;exact⟨rfl,rfl,Wk.rfl _⟩)
theorem YM.orT{b c:Bool}(a:YM p h x1 (.bl b) p1 h1)(k:YM p1 h1 x2 (.bl c) p1 h1): YM p h (mOr x1 x2) (.bl (b||c)) p1 h1 :=
  YM.or a (fun hb=>by subst hb;exact k) (fun hb=>by subst hb;exact⟨rfl,rfl,Wk.rfl _⟩)
theorem YM.not{b:Bool}(a:YM p h x1 (.bl b) p' h'): YM p h (mNot x1) (.bl (!b)) p' h':=fun m s=>by
  obtain⟨m1,e1,s1⟩:=a m s
  refine⟨m1,?_,s1⟩
  unfold mNot
  rw[e1,Res.bind_ok]
  rfl
theorem YM.ite{b:Bool}{t:M Bool}(c:YB p h t b p1 h1)(k:b=true→YM p1 h1 x1 d p' h')(k2:b=false→YM p1 h1 x2 d p' h'): YM p h (mIf t x1 x2) d p' h':=fun m s=>by
  obtain⟨m1,e1,s1⟩:=c m s
  unfold mIf
  rw[e1,Res.bind_ok]
  cases b with
  | true=>exact k rfl m1 s1
  | false=>exact k2 rfl m1 s1
theorem YM.iteT{α:Type}{b:Bool}{t:M Bool}{f:α→D}{v1 v2:α}(c:YB p h t b p1 h1)(k1:YM p1 h1 x1 (f v1) p' h')(k2:YM p1 h1 x2 (f v2) p' h'): YM p h (mIf t x1 x2) (f (if b=true then v1 else v2)) p' h' :=
  YM.ite c (fun hb=>by subst hb;exact k1) (fun hb=>by subst hb;exact k2)
theorem YM.wk(a:YM p h x d p1 h')(w:Wk p' p1): YM p h x d p' h':=fun m s=>by
  obtain⟨m1,e1,s1⟩:=a m s
  exact⟨m1,e1,s1.wk w⟩
theorem YM.cast(a:YM p h x d p' h')(e:d=d'): YM p h x d' p' h':=e▸a
theorem YT.cast(a:YT p h q d)(e:d=d'): YT p h q d':=e▸a
theorem YM.ix(a:YM p h x1 d1 p1 h1)(b:YM p1 h1 x2 d2 p' h')(e:dIx d1 d2=.ok d)(u:d.pure=true): YM p h (mIx x1 x2) d p' h':=fun m s=>by
  obtain⟨m1,e1,s1⟩:=a m s
  obtain⟨m2,e2,s2⟩:=b m1 s1
  refine⟨m2,?_,s2⟩
  unfold mIx
  rw[e1,Res.bind_ok,e2,Res.bind_ok,e,Res.bind_ok,u]
  rfl
theorem YM.ixN(g0:p[i]?=some (some d1))(n0:d1.defd=true)(b:YM p h x2 d2 p' h')(g1:p'[i]?=some (some d3))(n1:d3.defd=true)(e:dIx d3 d2=.ok d)(u:d.pure=true): YM p h (mIxN i x2) d p' h':=fun m s=>by
  obtain⟨m2,e2,s2⟩:=b m s
  refine⟨m2,?_,s2⟩
  unfold mIxN
  rw[YT.var g0 n0 m s,Res.bind_ok,e2,Res.bind_ok,YT.var g1 n1 m2 s2,Res.bind_ok,e,Res.bind_ok,u]
  rfl
theorem YO.none: YO p h mqNone none:=fun _ _=>rfl
theorem YO.some{k:Int}(a:YT p h q (.int k)): YO p h (mqSome q) (some k):=fun m s=>by
  unfold mqSome
  rw[a m s]
  rfl
theorem YM.sl{lo hi:MQ (Option Int)}{l k:Option Int}(a:YM p h x d1 p' h')(b:YO p' h' lo l)(c:YO p' h' hi k)(e:dSl d1 l k=.ok d): YM p h (mSl x lo hi) d p' h':=fun m s=>by
  obtain⟨m1,e1,s1⟩:=a m s
  refine⟨m1,?_,s1⟩
  unfold mSl
  rw[e1,Res.bind_ok,b m1 s1,Res.bind_ok,c m1 s1,Res.bind_ok,e]
  rfl
variable {as:List E.Arg} {ma:M (List E.Arg)} {ds:List D}
theorem YA.nil: YA p h maNil [] p h:=fun m s=>⟨m,rfl,s⟩
theorem YA.v(a:YM p h x d p1 h1)(b:YA p1 h1 ma as p' h'): YA p h (maV x ma) (.val d::as) p' h':=fun m s=>by
  obtain⟨m1,e1,s1⟩:=a m s
  obtain⟨m2,e2,s2⟩:=b m1 s1
  refine⟨m2,?_,s2⟩
  unfold maV
  rw[e1,Res.bind_ok,e2]
  rfl
theorem YA.n(g0:p[i]?=some (some d))(n0:d.defd=true)(b:YA p h ma as p' h'): YA p h (maN i ma) (.nam i::as) p' h':=fun m s=>by
  obtain⟨m2,e2,s2⟩:=b m s
  refine⟨m2,?_,s2⟩
  unfold maN
  rw[YT.var g0 n0 m s,Res.bind_ok,e2]
  rfl
theorem YA.qq{l:MQ (List D)}(a:YL p h l ds): YA p h (maQ l) (ds.map .bor) p h:=fun m s=>⟨m,by
  unfold maQ
  rw[a m s]
  rfl,s⟩
theorem YM.tup(a:YA p h ma as p' h')(v:vals as=.ok ds)(l:ds.length≤16777216): YM p h (mTup ma) (.tup ds) p' h':=fun m s=>by
  obtain⟨m1,e1,s1⟩:=a m s
  refine⟨m1,?_,s1⟩
  unfold mTup
  rw[e1,Res.bind_ok,v,Res.bind_ok,decide_eq_true (show ds.length≤sizeLine by rw[sizeLine_eq];exact l)]
  rfl
theorem YM.lst(a:YA p h ma as p' h')(v:vals as=.ok ds)(l:ds.length≤16777216): YM p h (mLst ma) (.lst true ds) p' h':=fun m s=>by
  obtain⟨m1,e1,s1⟩:=a m s
  refine⟨m1,?_,s1⟩
  unfold mLst
  rw[e1,Res.bind_ok,v,Res.bind_ok,decide_eq_true (show ds.length≤sizeLine by rw[sizeLine_eq];exact l)]
  rfl
inductive Ct:Pt→List E.Arg→List D→Prop
  | nil {p:Pt}:Ct p [] []
  | val {p:Pt} {d:D} {as:List E.Arg} {ds:List D}:Ct p as ds→Ct p (.val d::as) (d::ds)
  | bor {p:Pt} {d:D} {as:List E.Arg} {ds:List D}:Ct p as ds→Ct p (.bor d::as) (d::ds)
  | nam {p:Pt} {i:Nat} {d:D} {as:List E.Arg} {ds:List D}:p[i]?=some (some d)→d.defd=true→Ct p as ds→Ct p (.nam i::as) (d::ds)
theorem conts_nam(i:Nat)(as:List E.Arg)(e:List D)(g:e[i]?=some d)(n:d.defd=true): conts e (.nam i::as)=(conts e as).bind fun ds=>.ok (d::ds):=by
  rw[conts,g]
  cases d <;> first | rfl | cases n
theorem Ct.eq{P:Pt}{es:List E.Arg}{fs:List D}(c:Ct P es fs){e:List D}(k:Mt P e): conts e es=.ok fs:=by
  induction c with
  | nil=>rfl
  | val _ ih=>unfold conts;rw[ih];rfl
  | bor _ ih=>unfold conts;rw[ih];rfl
  | nam g n _ ih=>rw[conts_nam _ _ e (k.get g) n,ih];rfl
theorem YM.cb{g:List D→Res D}(a:YA p h ma as p' h')(c:Ct p' as ds)(e:g ds=.ok d): YM p h (mCB g ma) d p' h':=fun m s=>by
  obtain⟨m1,e1,s1⟩:=a m s
  refine⟨m1,?_,s1⟩
  unfold mCB
  rw[e1,Res.bind_ok]
  dsimp only
  rw[c.eq s1.e,Res.bind_ok,e]
  rfl
inductive Gr:List E.Arg→Pt→List D→List (Option Nat)→Pt→Prop
  | nil {p:Pt}:Gr [] p [] [] p
  | val {d:D} {as:List E.Arg} {p:Pt} {ds:List D} {is:List (Option Nat)} {q:Pt}:Gr as p ds is q→Gr (.val d::as) p (d::ds) (none::is) q
  | bor {d:D} {as:List E.Arg} {p:Pt} {ds:List D} {is:List (Option Nat)} {q:Pt}:d.pure=true→Gr as p ds is q→Gr (.bor d::as) p (d::ds) (none::is) q
  | namP {i:Nat} {d:D} {as:List E.Arg} {p:Pt} {ds:List D} {is:List (Option Nat)} {q:Pt}:p[i]?=some (some d)→d.defd=true→d.pure=true→Gr as p ds is q→Gr (.nam i::as) p (d::ds) (none::is) q
  | namM {i:Nat} {d:D} {as:List E.Arg} {p:Pt} {ds:List D} {is:List (Option Nat)} {q:Pt}:p[i]?=some (some d)→d.defd=true→d.pure=false→Gr as (p.set i (some .und)) ds is q→Gr (.nam i::as) p (d::ds) (some i::is) q
theorem grabV_M{i:Nat}{as:List E.Arg}{e:List D}(n:d.defd=true)(u:d.pure=false): grabV i as e (some d)=((grab as (e.set i .und)).bind fun r=>.ok (d::r.1,some i::r.2.1,r.2.2)):=by
  have u':¬ d.pure=true:=by rw[u];decide
  cases d <;> first | (cases n;done) | exact if_neg u'
theorem Gr.eq{as:List E.Arg}{p q:Pt}{ds:List D}{is:List (Option Nat)}(c:Gr as p ds is q): ∀ {e:List D},Mt p e→∃ e',grab as e=.ok (ds,is,e')∧Mt q e':=by
  induction c with
  | nil=>intro e k;exact⟨e,grab_nil e,k⟩
  | val _ ih =>
    intro e k
    obtain⟨e',h1,h2⟩:=ih k
    exact⟨e',by rw[grab_val,h1];rfl,h2⟩
  | bor u _ ih =>
    intro e k
    obtain⟨e',h1,h2⟩:=ih k
    exact⟨e',by rw[grab_bor,h1,u];rfl,h2⟩
  | @namP i d as p ds is q g n u _ ih =>
    intro e k
    obtain⟨e',h1,h2⟩:=ih k
    refine⟨e',?_,h2⟩
    rw[grab_nam,k.get g,grabV_pure i as e u,h1]
    rfl
  | @namM i d as p ds is q g n u _ ih =>
    intro e k
    obtain⟨e',h1,h2⟩:=ih (k.set i .und)
    refine⟨e',?_,h2⟩
    rw[grab_nam,k.get g]
    rw[grabV_M n u,h1]
    rfl
def gbk: List (Option Nat)→List D→Pt→Pt
  | some i::is,d::ds,p=>gbk is ds (p.set i (some d))
  | none::is,_::ds,p=>gbk is ds p
  | _,_,p=>p
theorem gbk_mt: ∀ (is:List (Option Nat)) (ds:List D) {p:Pt} {e:List D},Mt p e→Mt (gbk is ds p) (giveBack is ds e)
  | [],_,_,_,k=>by unfold gbk giveBack;exact k
  | some i::is,[],_,_,k=>by unfold gbk giveBack;exact k
  | none::is,[],_,_,k=>by unfold gbk giveBack;exact k
  | some i::is,d::ds,_,_,k=>by unfold gbk giveBack;exact gbk_mt is ds (k.set i d)
  | none::is,d::ds,_,_,k=>by unfold gbk giveBack;exact gbk_mt is ds k
theorem YM.call{f:CallM}{dd:List D}{is:List (Option Nat)}{q:Pt}{ds':List D}(a:YA p h ma as p1 h1)(c:Gr as p1 ds is q)(e:f (ds++dd) h1=.ok (d,ds',h'))(k:gbk is ds' q=p'): YM p h (mCall f dd ma) d p' h':=fun m s=>by
  obtain⟨m1,e1,s1⟩:=a m s
  obtain⟨e',g1,g2⟩:=c.eq s1.e
  refine⟨⟨giveBack is ds' e',h'⟩,?_,?_,rfl⟩
  · unfold mCall
    rw[e1,Res.bind_ok]
    dsimp only
    rw[g1,Res.bind_ok]
    dsimp only
    rw[s1.h,e]
    rfl
  · rw[← k]
    exact gbk_mt is ds' g2
variable {t t1 t2:M Bool} {b b1 b2:Bool}
theorem YB.bb(a:YM p h x (.bl b) p' h'): YB p h (mtB x) b p' h':=fun m s=>by
  obtain⟨m1,e1,s1⟩:=a m s
  refine⟨m1,?_,s1⟩
  unfold mtB
  rw[e1,Res.bind_ok]
  rfl
theorem YB.v(a:YM p h x d p' h')(e:d.tru=.ok b): YB p h (mtV x) b p' h':=fun m s=>by
  obtain⟨m1,e1,s1⟩:=a m s
  refine⟨m1,?_,s1⟩
  unfold mtV
  rw[e1,Res.bind_ok]
  dsimp only
  rw[e]
  rfl
theorem YB.and{y:Bool}(a:YB p h t1 b p1 h1)(k:b=true→YB p1 h1 t2 y p' h')(k2:b=false→y=false∧h'=h1∧Wk p' p1): YB p h (mtAnd t1 t2) y p' h':=fun m s=>by
  obtain⟨m1,e1,s1⟩:=a m s
  unfold mtAnd
  rw[e1,Res.bind_ok]
  cases b with
  | true=>exact k rfl m1 s1
  | false =>
    obtain⟨rfl,rfl,w⟩:=k2 rfl
    exact⟨m1,rfl,s1.wk w⟩
theorem YB.or{y:Bool}(a:YB p h t1 b p1 h1)(k:b=false→YB p1 h1 t2 y p' h')(k2:b=true→y=true∧h'=h1∧Wk p' p1): YB p h (mtOr t1 t2) y p' h':=fun m s=>by
  obtain⟨m1,e1,s1⟩:=a m s
  unfold mtOr
  rw[e1,Res.bind_ok]
  cases b with
  | false=>exact k rfl m1 s1
  | true =>
    obtain⟨rfl,rfl,w⟩:=k2 rfl
    exact⟨m1,rfl,s1.wk w⟩
theorem YB.andT(a:YB p h t1 b1 p1 h1)(k:YB p1 h1 t2 b2 p1 h1): YB p h (mtAnd t1 t2) (b1&&b2) p1 h1 :=
  YB.and a (fun hb=>by subst hb;exact k) (fun hb=>by subst hb;exact⟨rfl,rfl,Wk.rfl _⟩)
theorem YB.orT(a:YB p h t1 b1 p1 h1)(k:YB p1 h1 t2 b2 p1 h1): YB p h (mtOr t1 t2) (b1||b2) p1 h1 :=
  YB.or a (fun hb=>by subst hb;exact k) (fun hb=>by subst hb;exact⟨rfl,rfl,Wk.rfl _⟩)
theorem YB.not(a:YB p h t b p' h'): YB p h (mtNot t) (!b) p' h':=fun m s=>by
  obtain⟨m1,e1,s1⟩:=a m s
  refine⟨m1,?_,s1⟩
  unfold mtNot
  rw[e1,Res.bind_ok]
theorem YB.yes: YB p h mtYes true p h:=fun m s=>⟨m,rfl,s⟩
theorem YB.wk(a:YB p h t b p1 h')(w:Wk p' p1): YB p h t b p' h':=fun m s=>by
  obtain⟨m1,e1,s1⟩:=a m s
  exact⟨m1,e1,s1.wk w⟩
theorem YB.cast(a:YB p h t b p' h')(e:b=b1): YB p h t b1 p' h':=e▸a
theorem YG.name(l:Nat.blt i p.length=true): YG p h (bName i d) (p.set i (some d)) h:=fun m s=>⟨⟨m.env.set i d,m.hs⟩,by
  unfold bName
  rw[decide_eq_true (by rw[s.e.len];exact Nat.le_of_ble_eq_true l)]
  rfl,s.e.set i d,s.h⟩
theorem YG.nil: YG p h (bNil []) p h:=fun m s=>⟨m,rfl,s⟩
theorem YG.cons{bb:D→Mem→Res Mem}{bs:List D→Mem→Res Mem}(a:YG p h (bb d) p1 h1)(k:YG p1 h1 (bs ds) p' h'): YG p h (bCons bb bs (d::ds)) p' h':=fun m s=>by
  obtain⟨m1,e1,s1⟩:=a m s
  obtain⟨m2,e2,s2⟩:=k m1 s1
  refine⟨m2,?_,s2⟩
  show((bb d m).bind (bs ds))=_
  rw[e1,Res.bind_ok,e2]
theorem YG.tlT{n:Nat}{bs:List D→Mem→Res Mem}(l:ds.length=n)(k:YG p h (bs ds) p' h'): YG p h (bTL n bs (.tup ds)) p' h':=fun m s=>by
  obtain⟨m2,e2,s2⟩:=k m s
  refine⟨m2,?_,s2⟩
  show Res.when (decide (ds.length=n)) (bs ds m)=_
  rw[decide_eq_true l,e2]
  rfl
theorem YG.sub{k:Int}{ds:List D}(a:YT p h q (.int k))(g0:p[i]?=some (some (.lst true ds)))(e:ixN ds.length k=some j)(u:ds.set j d=ds'): YG p h (bSub i q d) (p.set i (some (.lst true ds'))) h:=fun m s=>by
  refine⟨⟨m.env.set i (.lst true (ds.set j d)),m.hs⟩,?_,?_,s.h⟩
  · unfold bSub
    rw[a m s,Res.bind_ok,YT.var g0 rfl m s,Res.bind_ok]
    dsimp only
    rw[e]
    rfl
  · rw[← u];exact s.e.set i _
theorem YM.app{xs:List D}(g0:p[i]?=some (some d1))(n0:d1.isL=true)(a:YM p h x d p' h')(g1:p'[i]?=some (some (.lst true xs)))(l:xs.length<16777216): YM p h (mAppN i x) .non (p'.set i (some (.lst true (xs++[d])))) h':=fun m s=>by
  obtain⟨m2,e2,s2⟩:=a m s
  refine⟨⟨m2.env.set i (.lst true (xs++[d])),m2.hs⟩,?_,s2.e.set i _,s2.h⟩
  unfold mAppN
  rw[YT.var g0 (by cases d1 <;> first | rfl | cases n0) m s,Res.bind_ok,n0]
  show((x m).bind _)=_
  rw[e2,Res.bind_ok,YT.var g1 rfl m2 s2,Res.bind_ok]
  dsimp only
  rw[decide_eq_true (show xs.length<sizeLine by rw[sizeLine_eq];exact l)]
  rfl
end
end Y
namespace Y
open PySem E
open L2 (ixN atI)
theorem bnd{α β:Type}{o:Option α}{f:α→Option β}{r:β}(h:o.bind f=some r): ∃ a,o=some a∧f a=some r:=Option.bind_eq_some_iff.mp h
noncomputable def gd{α:Type}(p:Prop)(o:Option α): Option α:=@ite _ p (Classical.propDecidable p) o none
theorem gd_of{α:Type}{p:Prop}{o:Option α}(h:p): gd p o=o:=by unfold gd;exact if_pos h
theorem gd_some{α:Type}{p:Prop}{o:Option α}{a:α}(h:gd p o=some a): p∧o=some a:=by
  unfold gd at h
  split at h
  · rename_i hp;exact⟨hp,h⟩
  · cases h
def Run(s:MS)(m:Mem)(Q:Fl→Mem→Prop): Prop:=∃ o,s m=.ok o∧Q o.1 o.2
section
variable {p p' p1 p2:Pt} {h h' h1 h2:List Ob} {m:Mem} {s s1 s2 s3 rest:MS} {Q Q1:Fl→Mem→Prop} {e:M D} {d:D} {b:D→Mem→Res Mem} {i j:Nat}
theorem seq_eq{m1:Mem}(e1:s1 m=.ok (.nx,m1)): sSeq s1 s2 m=s2 m1:=by
  unfold sSeq
  rw[e1]
  rfl
theorem run_last(r:Run (sSeq s sPass) m Q): Run s m Q:=by
  obtain⟨o,e,q⟩:=r
  unfold sSeq at e
  cases k:s m with
  | ok r =>
    rw[k] at e
    rcases r with ⟨f,m1⟩
    cases f <;> (cases e;exact⟨_,k,q⟩)
  | exc x m1=>rw[k] at e;cases e
  | fail=>rw[k] at e;cases e
theorem run_assoc(r:Run (sSeq s1 (sSeq s2 s3)) m Q): Run (sSeq (sSeq s1 s2) s3) m Q:=by
  obtain⟨o,e,q⟩:=r
  refine⟨o,?_,q⟩
  rw[← e]
  unfold sSeq
  cases s1 m with
  | ok r=>rcases r with ⟨f,m1⟩;cases f <;> rfl
  | exc x m1=>rfl
  | fail=>rfl
theorem run_pass(r:Run rest m Q): Run (sSeq sPass rest) m Q:=r
theorem run_end(q:Q .nx m): Run sPass m Q:=⟨_,rfl,q⟩
theorem run_asg(hm:Sx p h m)(x:YM p h e d p1 h1)(t:YG p1 h1 (b d) p2 h2)(k:∀ m,Sx p2 h2 m→Run rest m Q): Run (sSeq (sAsg e b) rest) m Q:=by
  obtain⟨m1,e1,q1⟩:=x m hm
  obtain⟨m2,e2,q2⟩:=t m1 q1
  obtain⟨o,e3,q3⟩:=k m2 q2
  refine⟨o,?_,q3⟩
  rw[seq_eq (m1:=m2),e3]
  unfold sAsg
  rw[e1,Res.bind_ok,e2]
  rfl
theorem run_ex(hm:Sx p h m)(x:YM p h e d p1 h1)(k:∀ m,Sx p1 h1 m→Run rest m Q): Run (sSeq (sEx e) rest) m Q:=by
  obtain⟨m1,e1,q1⟩:=x m hm
  obtain⟨o,e3,q3⟩:=k m1 q1
  refine⟨o,?_,q3⟩
  rw[seq_eq (m1:=m1),e3]
  unfold sEx
  rw[e1]
  rfl
theorem run_rt(hm:Sx p h m)(x:YM p h e d p1 h1)(k:∀ m,Sx p1 h1 m→Q (.rt d) m): Run (sSeq (sRt e) rest) m Q:=by
  obtain⟨m1,e1,q1⟩:=x m hm
  refine⟨(.rt d,m1),?_,k m1 q1⟩
  unfold sSeq sRt
  rw[e1]
  rfl
theorem run_ct(k:Q .ct m): Run (sSeq sCt rest) m Q:=⟨(.ct,m),rfl,k⟩
theorem run_if{t:M Bool}{c:Bool}(hm:Sx p h m)(x:YB p h t c p1 h1)(k1:c=true→∀ m,Sx p1 h1 m→Run (sSeq s1 rest) m Q)(k2:c=false→∀ m,Sx p1 h1 m→Run (sSeq s2 rest) m Q): Run (sSeq (sIf t s1 s2) rest) m Q:=by
  obtain⟨m1,e1,q1⟩:=x m hm
  have:sSeq (sIf t s1 s2) rest m=if c=true then sSeq s1 rest m1 else sSeq s2 rest m1:=by
    unfold sSeq sIf
    rw[e1,Res.bind_ok]
    dsimp only
    split <;> rfl
  cases c with
  | true =>
    obtain⟨o,e3,q3⟩:=k1 rfl m1 q1
    exact⟨o,this.trans e3,q3⟩
  | false =>
    obtain⟨o,e3,q3⟩:=k2 rfl m1 q1
    exact⟨o,this.trans e3,q3⟩
theorem run_join(r:Run s m (fun f m'=>f=.nx∧Sx p1 h1 m'))(k:∀ m,Sx p1 h1 m→Run rest m Q): Run (sSeq s rest) m Q:=by
  obtain⟨⟨f,m1⟩,e1,q1,q2⟩:=r
  dsimp only at q1 q2
  subst q1
  obtain⟨o,e3,q3⟩:=k m1 q2
  exact⟨o,(seq_eq e1).trans e3,q3⟩
theorem run_ifj{t:M Bool}{c:Bool}(hm:Sx p h m)(x:YB p h t c p2 h2)(k1:c=true→∀ m,Sx p2 h2 m→Run (sSeq s1 sPass) m (fun f m'=>f=.nx∧Sx p1 h1 m'))(k2:c=false→∀ m,Sx p2 h2 m→Run (sSeq s2 sPass) m (fun f m'=>f=.nx∧Sx p1 h1 m'))(k:∀ m,Sx p1 h1 m→Run rest m Q): Run (sSeq (sIf t s1 s2) rest) m Q :=
  run_join (run_last (run_if hm x k1 k2)) k
theorem run_aug{g:D→D→Res D}{d1 d2:D}(hm:Sx p h m)(g0:p[i]?=some (some d1))(n0:d1.defd=true)(u0:d1.pure=true)(x:YM p h e d2 p1 h1)(a:g d1 d2=.ok d)(u:d.pure=true)(l:Nat.blt i p1.length=true)(k:∀ m,Sx (p1.set i (some d)) h1 m→Run rest m Q): Run (sSeq (sAug i g e) rest) m Q:=by
  obtain⟨m1,e1,q1⟩:=x m hm
  obtain⟨o,e3,q3⟩:=k ⟨m1.env.set i d,m1.hs⟩ ⟨q1.e.set i d,q1.h⟩
  refine⟨o,?_,q3⟩
  rw[seq_eq (m1:=⟨m1.env.set i d,m1.hs⟩),e3]
  unfold sAug
  rw[YT.var g0 n0 m hm,Res.bind_ok,u0]
  show((e m).bind _)=_
  rw[e1,Res.bind_ok,a,Res.bind_ok,u,decide_eq_true (by rw[q1.e.len];exact Nat.le_of_ble_eq_true l)]
  rfl
end
inductive Ex (R S:Type) where
  | go (s:S)
  | bk (s:S)
  | rt (r:R)
inductive Rs (R S:Type) where
  | go (s:S)
  | rt (r:R)
@[simp] def Rs.elim{R S T:Type}(g:S→Option T)(f:R→Option T): Rs R S→Option T
  | .go s=>g s
  | .rt r=>f r
def forS{α S:Type}(tb:S→α→Option S): List α→S→Option S
  | [],s=>some s
  | x::xs,s=>(tb s x).bind (forS tb xs)
def forE {α R S:Type} (tb:S→α→Option (Ex R S)):List α→S→Option (Rs R S)
  | [],s=>some (.go s)
  | x::xs,s=>(tb s x).bind fun
    | .go s=>forE tb xs s
    | .bk s=>some (.go s)
    | .rt r=>some (.rt r)
def whS{S:Type}(c:S→Option (Bool×S))(tb:S→Option S): Nat→S→Option S
  | 0,_=>none
  | n+1,s=>(c s).bind fun r=>if r.1=true then (tb r.2).bind (whS c tb n) else some r.2
def whE {R S:Type} (c:S→Option (Bool×S)) (tb:S→Option (Ex R S)):Nat→S→Option (Rs R S)
  | 0,_=>none
  | n + 1,s=>(c s).bind fun r=>if r.1=true then (tb r.2).bind fun
      | .go s=>whE c tb n s
      | .bk s=>some (.go s)
      | .rt r=>some (.rt r)
    else some (.go r.2)
def BP: Bool→Fl→Prop
  | true,f=>f=.nx∨f=.ct
  | false,f=>f=.bk
theorem BP.nx: BP true .nx:=.inl rfl
theorem BP.ct: BP true .ct:=.inr rfl
theorem BP.bk: BP false .bk:=rfl
theorem ne_t{b:Bool}(h:b=false): ¬ b=true:=by rw[h];decide
def EP{R S:Type}(P:S→Pt)(H:S→List Ob)(PR:R→Fl→Mem→Prop): Ex R S→Fl→Mem→Prop
  | .go s,f,m=>(f=.nx∨f=.ct)∧Sx (P s) (H s) m
  | .bk s,f,m=>f=.bk∧Sx (P s) (H s) m
  | .rt r,f,m=>(∃ d,f=.rt d)∧PR r f m
def RP{R S:Type}(P:S→Pt)(H:S→List Ob)(PR:R→Fl→Mem→Prop): Rs R S→Fl→Mem→Prop
  | .go s,f,m=>f=.nx∧Sx (P s) (H s) m
  | .rt r,f,m=>(∃ d,f=.rt d)∧PR r f m
section
variable {α R S:Type} {enc:α→D} {ok:Mem→Prop} {b:D→Mem→Res Mem} {body:MS} {P:S→Pt} {H:S→List Ob} {PR:R→Fl→Mem→Prop}
theorem forM_eq{x:D}{xs:List D}{m:Mem}: E.forM ok b body (x::xs) m=Res.ifP (ok m) ((b x m).bind fun m1=>(body m1).bind fun o=>match o.1 with
      | .nx=>E.forM ok b body xs o.2
      | .ct=>E.forM ok b body xs o.2
      | .bk=>.ok (.nx,o.2)
      | .rt d=>.ok (.rt d,o.2)):=rfl
theorem whileM_eq{t:M Bool}{n:Nat}{m:Mem}: whileM t body (n+1) m=((t m).bind fun r=>if r.1=true then (body r.2).bind fun o=>match o.1 with
      | .nx=>whileM t body n o.2
      | .ct=>whileM t body n o.2
      | .bk=>.ok (.nx,o.2)
      | .rt d=>.ok (.rt d,o.2)
    else .ok (.nx,r.2)):=rfl
theorem forM_step{x:D}{xs:List D}{m m1 m2:Mem}{f:Fl}(o:ok m)(e1:b x m=.ok m1)(e2:body m1=.ok (f,m2))(hf:f=.nx∨f=.ct): E.forM ok b body (x::xs) m=E.forM ok b body xs m2:=by
  rw[forM_eq,Res.ifP_true o,e1,Res.bind_ok,e2,Res.bind_ok]
  rcases hf with rfl | rfl <;> rfl
theorem st_tg{p p1:Pt}{h h1:List Ob}{d:D}{bb:D→Mem→Res Mem}{m:Mem}{Q:Fl→Mem→Prop}(g:YG p h (bb d) p1 h1)(hm:Sx p h m)(k:∀ m,Sx p1 h1 m→Run body m Q): ∃ m1,bb d m=.ok m1∧Run body m1 Q:=by
  obtain⟨m1,e1,s1⟩:=g m hm
  exact⟨m1,e1,k m1 s1⟩
theorem run_forE{tb:S→α→Option (Ex R S)}(hok:∀ s m,Sx (P s) (H s) m→ok m)
    (step:∀ s a e,tb s a=some e→∀ m,Sx (P s) (H s) m→∃ m1,b (enc a) m=.ok m1∧Run body m1 (EP P H PR e)) :
    ∀ (xs:List α) (s:S) (e:Rs R S),forE tb xs s=some e→∀ m,Sx (P s) (H s) m→∃ o,E.forM ok b body (xs.map enc) m=.ok o∧RP P H PR e o.1 o.2
  | [],s,e,h,m,hm=>by
    cases h
    exact⟨(.nx,m),Res.ifP_true (hok s m hm),rfl,hm⟩
  | x :: xs,s,e,h,m,hm=>by
    obtain⟨r,hr,h⟩:=bnd h
    obtain⟨m1,e1,⟨f,m2⟩,e2,q⟩:=step s x r hr m hm
    cases r with
    | go s1 =>
      obtain⟨o,e3,q3⟩:=run_forE hok step xs s1 e h m2 q.2
      exact⟨o,(forM_step (hok s m hm) e1 e2 q.1).trans e3,q3⟩
    | bk s1 =>
      cases h
      obtain⟨q1,q2⟩:=q
      dsimp only at q1
      subst q1
      refine⟨(.nx,m2),?_,rfl,q2⟩
      rw[List.map_cons,forM_eq,Res.ifP_true (hok s m hm),e1,Res.bind_ok,e2,Res.bind_ok]
    | rt r1 =>
      cases h
      obtain⟨⟨d,q1⟩,q2⟩:=q
      dsimp only at q1 q2
      subst q1
      refine⟨(.rt d,m2),?_,⟨d,rfl⟩,q2⟩
      rw[List.map_cons,forM_eq,Res.ifP_true (hok s m hm),e1,Res.bind_ok,e2,Res.bind_ok]
theorem run_forS{tb:S→α→Option S}(hok:∀ s m,Sx (P s) (H s) m→ok m)
    (step:∀ s a s1,tb s a=some s1→∀ m,Sx (P s) (H s) m→∃ m1,b (enc a) m=.ok m1∧Run body m1 (fun f m=>(f=.nx∨f=.ct)∧Sx (P s1) (H s1) m)) :
    ∀ (xs:List α) (s s':S),forS tb xs s=some s'→∀ m,Sx (P s) (H s) m→∃ m',E.forM ok b body (xs.map enc) m=.ok (.nx,m')∧Sx (P s') (H s') m'
  | [],s,s',h,m,hm=>by
    cases h
    exact⟨m,Res.ifP_true (hok s m hm),hm⟩
  | x::xs,s,s',h,m,hm=>by
    obtain⟨s1,hr,h⟩:=bnd h
    obtain⟨m1,e1,⟨f,m2⟩,e2,q1,q2⟩:=step s x s1 hr m hm
    obtain⟨m',e3,q3⟩:=run_forS hok step xs s1 s' h m2 q2
    exact⟨m',(forM_step (hok s m hm) e1 e2 q1).trans e3,q3⟩
variable {t:M Bool}
theorem st_ts{p p1 p2:Pt}{h h1:List Ob}{c:Bool}{m:Mem}(x:YB p h t c p1 h1)(hm:Sx p h m)(w:Wk p2 p1): ∃ m1,t m=.ok (c,m1)∧Sx p2 h1 m1:=by
  obtain⟨m1,e1,s1⟩:=x m hm
  exact⟨m1,e1,s1.wk w⟩
theorem run_whS{c:S→Option (Bool×S)}{tb:S→Option S}{P2:S→Pt}{H2:S→List Ob}(test:∀ s r,c s=some r→∀ m,Sx (P s) (H s) m→∃ m1,t m=.ok (r.1,m1)∧Sx (P2 r.2) (H2 r.2) m1)
    (step:∀ s s1,tb s=some s1→∀ m,Sx (P2 s) (H2 s) m→Run body m (fun f m=>(f=.nx∨f=.ct)∧Sx (P s1) (H s1) m)) :
    ∀ (n:Nat) (s s':S),whS c tb n s=some s'→∀ m,Sx (P s) (H s) m→∃ m',whileM t body n m=.ok (.nx,m')∧Sx (P2 s') (H2 s') m'
  | 0,s,s',h,m,hm=>by cases h
  | n + 1,s,s',h,m,hm=>by
    obtain⟨⟨x,s1⟩,hc,h⟩:=bnd h
    obtain⟨m1,e1,q1⟩:=test s _ hc m hm
    cases x with
    | false =>
      cases h
      refine⟨m1,?_,q1⟩
      rw[whileM_eq,e1]
      rfl
    | true =>
      obtain⟨s2,hb,h⟩:=bnd h
      obtain⟨⟨f,m2⟩,e2,q2,q3⟩:=step s1 s2 hb m1 q1
      obtain⟨m',e3,q4⟩:=run_whS test step n s2 s' h m2 q3
      refine⟨m',?_,q4⟩
      rw[whileM_eq,e1,Res.bind_ok]
      show((body m1).bind _)=_
      rw[e2,Res.bind_ok]
      dsimp only at q2
      rcases q2 with rfl | rfl <;> exact e3
theorem run_whE {c:S→Option (Bool×S)} {tb:S→Option (Ex R S)} (test:∀ s r,c s=some r→∀ m,Sx (P s) (H s) m→∃ m1,t m=.ok (r.1,m1)∧Sx (P r.2) (H r.2) m1)
    (step:∀ s e,tb s=some e→∀ m,Sx (P s) (H s) m→Run body m (EP P H PR e)) :
    ∀ (n:Nat) (s:S) (e:Rs R S),whE c tb n s=some e→∀ m,Sx (P s) (H s) m→∃ o,whileM t body n m=.ok o∧RP P H PR e o.1 o.2
  | 0,s,e,h,m,hm=>by cases h
  | n + 1,s,e,h,m,hm=>by
    obtain⟨⟨x,s1⟩,hc,h⟩:=bnd h
    obtain⟨m1,e1,q1⟩:=test s _ hc m hm
    cases x with
    | false =>
      cases h
      refine⟨(.nx,m1),?_,rfl,q1⟩
      rw[whileM_eq,e1]
      rfl
    | true =>
      obtain⟨r,hb,h⟩:=bnd h
      obtain⟨⟨f,m2⟩,e2,q⟩:=step s1 r hb m1 q1
      have e0:whileM t body (n+1) m=(Res.ok (f,m2)).bind fun o=>match o.1 with
        | .nx=>whileM t body n o.2
        | .ct=>whileM t body n o.2
        | .bk=>.ok (.nx,o.2)
        | .rt d=>.ok (.rt d,o.2):=by
        rw[whileM_eq,e1,Res.bind_ok]
        show((body m1).bind _)=_
        rw[e2]
      cases r with
      | go s2 =>
        obtain⟨q2,q3⟩:=q
        obtain⟨o,e3,q4⟩:=run_whE test step n s2 e h m2 q3
        refine⟨o,e0.trans ?_,q4⟩
        dsimp only at q2
        rcases q2 with rfl | rfl <;> exact e3
      | bk s2 =>
        cases h
        obtain⟨q2,q3⟩:=q
        dsimp only at q2
        subst q2
        exact⟨_,e0,rfl,q3⟩
      | rt r1 =>
        cases h
        obtain⟨⟨d,q2⟩,q3⟩:=q
        dsimp only at q2 q3
        subst q2
        exact⟨_,e0,⟨d,rfl⟩,q3⟩
end
section
variable {p p' p1 p2:Pt} {h h' h1 h2:List Ob} {m:Mem} {rest:MS} {Q:Fl→Mem→Prop} {it:M E.It} {xs:List D} {ok:Mem→Prop} {b:D→Mem→Res Mem} {body:MS}
theorem run_for(hm:Sx p h m)(x:YI p h it xs ok p1 h1)(f:∀ m,Sx p1 h1 m→∃ m',E.forM ok b body xs m=.ok (.nx,m')∧Sx p2 h2 m')(k:∀ m,Sx p2 h2 m→Run rest m Q): Run (sSeq (sFor it b body) rest) m Q:=by
  obtain⟨m1,e1,q1⟩:=x m hm
  obtain⟨m2,e2,q2⟩:=f m1 q1
  obtain⟨o,e3,q3⟩:=k m2 q2
  refine⟨o,?_,q3⟩
  rw[seq_eq (m1:=m2),e3]
  unfold sFor
  rw[e1,Res.bind_ok,e2]
theorem run_forX{R S:Type}{P:S→Pt}{H:S→List Ob}{PR:R→Fl→Mem→Prop}{e:Rs R S}(hm:Sx p h m)(x:YI p h it xs ok p1 h1)(f:∀ m,Sx p1 h1 m→∃ o,E.forM ok b body xs m=.ok o∧RP P H PR e o.1 o.2)
    (k:∀ s,e=.go s→∀ m,Sx (P s) (H s) m→Run rest m Q) (k2:∀ r,e=.rt r→∀ d m,PR r (.rt d) m→Q (.rt d) m):Run (sSeq (sFor it b body) rest) m Q:=by
  obtain⟨m1,e1,q1⟩:=x m hm
  obtain⟨⟨f,m2⟩,e2,q2⟩:=f m1 q1
  have e0:sFor it b body m=.ok (f,m2):=by
    unfold sFor
    rw[e1,Res.bind_ok,e2]
  cases e with
  | go s =>
    obtain⟨q3,q4⟩:=q2
    dsimp only at q3
    subst q3
    obtain⟨o,e3,q3⟩:=k s rfl m2 q4
    exact⟨o,(seq_eq e0).trans e3,q3⟩
  | rt r =>
    obtain⟨⟨d,q3⟩,q4⟩:=q2
    dsimp only at q3 q4
    subst q3
    refine⟨(.rt d,m2),?_,k2 r rfl d m2 q4⟩
    unfold sSeq
    rw[e0]
    rfl
theorem run_wh{t:M Bool}{n:Nat}(hm:Sx p h m)(f:∀ m,Sx p h m→∃ m',whileM t body n m=.ok (.nx,m')∧Sx p2 h2 m')(k:∀ m,Sx p2 h2 m→Run rest m Q): Run (sSeq (whileM t body n) rest) m Q:=by
  obtain⟨m2,e2,q2⟩:=f m hm
  obtain⟨o,e3,q3⟩:=k m2 q2
  exact⟨o,(seq_eq e2).trans e3,q3⟩
theorem run_whX{R S:Type}{P:S→Pt}{H:S→List Ob}{PR:R→Fl→Mem→Prop}{e:Rs R S}{t:M Bool}{n:Nat}(hm:Sx p h m)(f:∀ m,Sx p h m→∃ o,whileM t body n m=.ok o∧RP P H PR e o.1 o.2)
    (k:∀ s,e=.go s→∀ m,Sx (P s) (H s) m→Run rest m Q) (k2:∀ r,e=.rt r→∀ d m,PR r (.rt d) m→Q (.rt d) m):Run (sSeq (whileM t body n) rest) m Q:=by
  obtain⟨⟨f,m2⟩,e0,q2⟩:=f m hm
  cases e with
  | go s =>
    obtain⟨q3,q4⟩:=q2
    dsimp only at q3
    subst q3
    obtain⟨o,e3,q3⟩:=k s rfl m2 q4
    exact⟨o,(seq_eq e0).trans e3,q3⟩
  | rt r =>
    obtain⟨⟨d,q3⟩,q4⟩:=q2
    dsimp only at q3 q4
    subst q3
    refine⟨(.rt d,m2),?_,k2 r rfl d m2 q4⟩
    unfold sSeq
    rw[e0]
    rfl
variable {e:M D} {d:D} {i:Nat}
theorem YI.vL{o:Bool}(a:YM p h e (.lst o xs) p' h')(u:pureL xs=true): YI p h (miV e) xs (fun _=>True) p' h':=fun m s=>by
  obtain⟨m1,e1,s1⟩:=a m s
  refine⟨m1,?_,s1⟩
  unfold miV
  rw[e1,Res.bind_ok]
  show((Res.when (pureL xs) _).bind _)=_
  rw[u]
  rfl
theorem YI.vT(a:YM p h e (.tup xs) p' h')(u:pureL xs=true): YI p h (miV e) xs (fun _=>True) p' h':=fun m s=>by
  obtain⟨m1,e1,s1⟩:=a m s
  refine⟨m1,?_,s1⟩
  unfold miV
  rw[e1,Res.bind_ok]
  show((Res.when (pureL xs) _).bind _)=_
  rw[u]
  rfl
theorem YI.nL{o:Bool}(g:p[i]?=some (some (.lst o xs)))(u:pureL xs=true): YI p h (miN i) xs (fun m'=>m'.env[i]?=some (.lst o xs)) p h:=fun m s=>by
  refine⟨m,?_,s⟩
  unfold miN
  rw[YT.var g rfl m s,Res.bind_ok]
  show((Res.when (pureL xs) _).bind _)=_
  rw[u]
  rfl
theorem YI.nT(g:p[i]?=some (some (.tup xs)))(u:pureL xs=true): YI p h (miN i) xs (fun _=>True) p h:=fun m s=>by
  refine⟨m,?_,s⟩
  unfold miN
  rw[YT.var g rfl m s,Res.bind_ok]
  show((Res.when (pureL xs) _).bind _)=_
  rw[u]
  rfl
def rangeI(lo hi:Int): List Int:=(List.range (hi - lo).toNat).map fun(k:Nat)=>lo+(k:Int)
theorem rangeD_I(lo hi:Int): rangeD lo (hi - lo).toNat=(rangeI lo hi).map D.int:=by
  unfold rangeD rangeI
  rw[List.map_map]
  rfl
theorem b62_ok{i:Int}(h:-4611686018427387904≤i∧i<4611686018427387904): b62 i=true:=cdec_of h
variable {ma:M (List E.Arg)} {as:List E.Arg} {j k:Int}
theorem YI.r1(a:YA p h ma as p' h')(c:Ct p' as [.int j])(l:-4611686018427387904≤j∧j<4611686018427387904): YI p h (miR1 ma) ((rangeI 0 j).map D.int) (fun _=>True) p' h':=fun m s=>by
  obtain⟨m1,e1,s1⟩:=a m s
  refine⟨m1,?_,s1⟩
  unfold miR1
  rw[e1,Res.bind_ok]
  dsimp only
  rw[c.eq s1.e,Res.bind_ok,← rangeD_I]
  dsimp only
  rw[b62_ok l,Int.sub_zero]
  rfl
theorem YI.r2(a:YA p h ma as p' h')(c:Ct p' as [.int j,.int k])(l:-4611686018427387904≤j∧j<4611686018427387904)(l2:-4611686018427387904≤k∧k<4611686018427387904): YI p h (miR2 ma) ((rangeI j k).map D.int) (fun _=>True) p' h':=fun m s=>by
  obtain⟨m1,e1,s1⟩:=a m s
  refine⟨m1,?_,s1⟩
  unfold miR2
  rw[e1,Res.bind_ok]
  dsimp only
  rw[c.eq s1.e,Res.bind_ok,← rangeD_I]
  dsimp only
  rw[b62_ok l,b62_ok l2]
  rfl
theorem YI.cast{ys:List D}(a:YI p h it xs ok p' h')(e:xs=ys): YI p h it ys ok p' h':=e▸a
end
def undP: List Nat→Pt→Pt
  | [],p=>p
  | v::vs,p=>(undP vs p).set v (some .und)
theorem undP_mt: ∀ (vs:List Nat) {p:Pt} {e:List D},Mt p e→Mt (undP vs p) (undL vs e)
  | [],_,_,k=>k
  | v::vs,_,_,k=>(undP_mt vs k).set v .und
def backP(p0:Pt): List Nat→Pt→Pt
  | [],p=>p
  | v::vs,p=>backP p0 vs (p.set v ((p0.getD v none).map hidV))
theorem back_mt {p0:Pt} {e0:List D} (k0:Mt p0 e0):∀ (vs:List Nat) {p:Pt} {e:List D},Mt p e→Mt (backP p0 vs p) (restore e0 vs e)
  | [],_,_,k=>k
  | v :: vs,p,e,k=>by
    unfold backP restore
    refine back_mt k0 vs ?_
    cases h1:p0.getD v none with
    | none=>exact k.setn v _
    | some d =>
      have:e0.getD v .und=d:=by
        rw[List.getD_eq_getElem?_getD] at h1
        cases h2:p0[v]? with
        | none=>rw[h2] at h1;cases h1
        | some x =>
          rw[h2] at h1
          cases h1
          rw[List.getD_eq_getElem?_getD,k0.get h2]
          rfl
      rw[this]
      exact k.set v _
def lcS {α β S:Type} (tb:S→α→Option (Option β×S)):List α→S→Option (List β×S)
  | [],s=>some ([],s)
  | x::xs,s=>(tb s x).bind fun r=>(lcS tb xs r.2).bind fun q=>some (match r.1 with
    | some y=>(y::q.1,q.2)
    | none=>q)
noncomputable def lcSg{α β S:Type}(tb:S→α→Option (Option β×S))(xs:List α)(s:S): Option (List β×S):=gd (xs.length≤16777216) (lcS tb xs s)
section
variable {α β S:Type} {enc:α→D} {eb:β→D} {ok:Mem→Prop} {vs:List Nat} {b:D→Mem→Res Mem} {tt:M Bool} {el:M D} {P:S→Pt} {H:S→List Ob}
def LcStep (enc:α→D) (eb:β→D) (vs:List Nat) (b:D→Mem→Res Mem) (tt:M Bool) (el:M D) (P:S→Pt) (H:S→List Ob) (tb:S→α→Option (Option β×S)):Prop :=
  ∀ s a r,tb s a=some r→∀ m,Sx (P s) (H s) m→∃ m1 c m2,b (enc a) m=.ok m1∧tt m1=.ok (c,m2)∧match r.1 with
    | none=>c=false∧Sx (P r.2) (H r.2) ⟨undL vs m2.env,m2.hs⟩
    | some y=>c=true∧∃ m3,el m2=.ok (eb y,m3)∧Sx (P r.2) (H r.2) ⟨undL vs m3.env,m3.hs⟩
theorem lcM_nil{acc:List D}{m:Mem}: lcM ok vs b tt el [] acc m=Res.ifP (ok m) (.ok (acc,m)):=rfl
theorem lcM_eq{x:D}{xs acc:List D}{m:Mem}: lcM ok vs b tt el (x::xs) acc m=Res.ifP (ok m) ((b x m).bind fun m1=>(tt m1).bind fun c=>if c.1=true then
      (el c.2).bind fun r=>Res.when (decide (acc.length<sizeLine)) (lcM ok vs b tt el xs (acc++[r.1]) ⟨undL vs r.2.env,r.2.hs⟩)
      else lcM ok vs b tt el xs acc ⟨undL vs c.2.env,c.2.hs⟩):=rfl
theorem lc_run{tb:S→α→Option (Option β×S)}(hok:∀ s m,Sx (P s) (H s) m→ok m)(step:LcStep enc eb vs b tt el P H tb):
    ∀ (xs:List α) (s:S) (ys:List β) (s':S) (acc:List D),lcS tb xs s=some (ys,s')→acc.length+xs.length≤sizeLine→∀ m,Sx (P s) (H s) m→∃ m',lcM ok vs b tt el (xs.map enc) acc m=.ok (acc++ys.map eb,m')∧Sx (P s') (H s') m'
  | [],s,ys,s',acc,h,_,m,hm=>by
    cases h
    exact⟨m,by rw[List.map_nil,lcM_nil,Res.ifP_true (hok s m hm),List.map_nil,List.append_nil],hm⟩
  | x :: xs,s,ys,s',acc,h,l,m,hm=>by
    obtain⟨⟨y,s1⟩,hr,h⟩:=bnd h
    obtain⟨⟨zs,s2⟩,hq,h⟩:=bnd h
    obtain⟨m1,c,m2,e1,e2,k⟩:=step s x _ hr m hm
    rw[List.length_cons] at l
    rw[List.map_cons,lcM_eq,Res.ifP_true (hok s m hm),e1,Res.bind_ok,e2,Res.bind_ok]
    cases y with
    | none =>
      cases h
      obtain⟨rfl,k⟩:=k
      exact lc_run hok step xs s1 _ _ acc hq (by omega) _ k
    | some y =>
      cases h
      obtain⟨rfl,m3,e3,k⟩:=k
      obtain⟨m',e4,q4⟩:=lc_run hok step xs s1 zs _ (acc++[eb y]) hq (by rw[List.length_append,List.length_singleton];omega) _ k
      refine⟨m',?_,q4⟩
      show((el m2).bind _)=_
      rw[e3,Res.bind_ok,decide_eq_true (by omega),List.map_cons]
      show lcM ok vs b tt el (xs.map enc) (acc++[eb y]) _=_
      rw[e4,List.append_assoc]
      rfl
variable {p p' p1:Pt} {h h' h1:List Ob} {it:M E.It}
theorem lc_st{p p1 p2:Pt}{h h1 h2:List Ob}{d:D}{bb:D→Mem→Res Mem}{c:Bool}{m:Mem}{K:Bool→Mem→Prop}(g:YG p h (bb d) p1 h1)(t:YB p1 h1 tt c p2 h2)(hm:Sx p h m)(k:∀ m,Sx p2 h2 m→K c m):
    ∃ m1 c m2,bb d m=.ok m1∧tt m1=.ok (c,m2)∧K c m2:=by
  obtain⟨m1,e1,s1⟩:=g m hm
  obtain⟨m2,e2,s2⟩:=t m1 s1
  exact⟨m1,c,m2,e1,e2,k m2 s2⟩
theorem lc_el{p p1 p2:Pt}{h h1 h2:List Ob}{d:D}{c:Bool}{m:Mem}(hm:Sx p h m)(hc:c=true)(e:YM p h el d p1 h1)(w:Wk p2 (undP vs p1))(hh:h2=h1): c=true∧∃ m3,el m=.ok (d,m3)∧Sx p2 h2 ⟨undL vs m3.env,m3.hs⟩:=by
  obtain⟨m1,e1,s1⟩:=e m hm
  exact⟨hc,m1,e1,(Sx.mk (undP_mt vs s1.e) (hh▸s1.h)).wk w⟩
theorem YM.lc{xs:List α}{ys:List β}{s s':S}{tb:S→α→Option (Option β×S)}(x:YI p h it (xs.map enc) ok p1 h1)(hv:(vs.all fun v=>decide (v<p1.length))=true)(hu:undP vs p1=P s∧h1=H s)
    (hok:∀ s m,Sx (P s) (H s) m→ok m) (step:LcStep enc eb vs b tt el P H tb) (hr0:lcSg tb xs s=some (ys,s')) :
    YM p h (mLc it vs b tt el) (.lst true (ys.map eb)) (backP p1 vs (P s')) (H s'):=fun m hm=>by
  obtain⟨m1,e1,s1⟩:=x m hm
  obtain⟨hu,rfl⟩:=hu
  obtain⟨l,hr⟩:=gd_some hr0
  have k:Sx (P s) (H s) ⟨undL vs m1.env,m1.hs⟩:=⟨hu▸undP_mt vs s1.e,s1.h⟩
  obtain⟨m2,e2,s2⟩:=lc_run hok step xs s ys s' [] hr (by rw[sizeLine_eq];simpa using l) _ k
  refine⟨⟨restore m1.env vs m2.env,m2.hs⟩,?_,?_,s2.h⟩
  · unfold mLc
    rw[e1,Res.bind_ok]
    dsimp only
    have:(vs.all fun v=>decide (v<m1.env.length))=true:=by rw[s1.e.len];exact hv
    rw[this,e2]
    rfl
  · exact back_mt s1.e vs s2.e
end
def lcO {α β:Type} (tb:α→Option (Option β)):List α→Option (List β)
  | []=>some []
  | x::xs=>(tb x).bind fun r=>(lcO tb xs).bind fun q=>some (match r with
    | some y=>y::q
    | none=>q)
noncomputable def lcOg{α β:Type}(tb:α→Option (Option β))(xs:List α): Option (List β):=gd (xs.length≤16777216) (lcO tb xs)
theorem lcO_S(tb:α→Option (Option β)): ∀ (xs:List α) (ys:List β),lcO tb xs=some ys→lcS (fun(_:Unit) a=>(tb a).map fun r=>(r,())) xs ()=some (ys,())
  | [],ys,e=>by cases e;rfl
  | x::xs,ys,e=>by
    obtain⟨r,e1,e⟩:=bnd e
    obtain⟨q,e2,e⟩:=bnd e
    cases e
    rw[lcS,e1]
    show((lcS _ xs ()).bind _)=_
    rw[lcO_S tb xs q e2]
    cases r <;> rfl
section
variable {α β S:Type} {enc:α→D} {eb:β→D} {ok:Mem→Prop} {vs:List Nat} {b:D→Mem→Res Mem} {tt:M Bool} {el:M D} {P:S→Pt} {H:S→List Ob} {p p' p1:Pt} {h h' h1:List Ob} {it:M E.It}
theorem YM.lcO{xs:List α}{ys:List β}{pL:Pt}{tb:α→Option (Option β)}(x:YI p h it (xs.map enc) ok p1 h1)(hv:(vs.all fun v=>decide (v<p1.length))=true)(hu:undP vs p1=pL)
    (hok:∀ m,Sx pL h1 m→ok m)
    (step:∀ a r,tb a=some r→∀ m,Sx pL h1 m→∃ m1 c m2,b (enc a) m=.ok m1∧tt m1=.ok (c,m2)∧match r with
      | none=>c=false∧Sx pL h1 ⟨undL vs m2.env,m2.hs⟩
      | some y=>c=true∧∃ m3,el m2=.ok (eb y,m3)∧Sx pL h1 ⟨undL vs m3.env,m3.hs⟩) (hr:lcOg tb xs=some ys) :
    YM p h (mLc it vs b tt el) (.lst true (ys.map eb)) (backP p1 vs pL) h1 :=
  YM.lc (S:=Unit) (P:=fun _=>pL) (H:=fun _=>h1) x hv ⟨hu,rfl⟩ (fun _=>hok) (fun s a r e m hm=>by
    obtain⟨r1,e1,e⟩:=Option.map_eq_some_iff.mp e
    cases e
    exact step a r1 e1 m hm) ((gd_of (gd_some hr).1).trans (lcO_S tb xs ys (gd_some hr).2))
end
structure FP (d:D) (pin:List Nat) (ds ds':List D) (h':List Ob) (f:Fl) (m:Mem):Prop where
  r:D.rtv f=.ok d
  o:outs pin 0 ds m.env=.ok ds'
  h:m.hs=h'
inductive Out (pin:List Nat):Nat→List D→Pt→List D→Prop
  | nil {j:Nat} {p:Pt}:Out pin j [] p []
  | pin {j:Nat} {d d':D} {ds ds':List D} {p:Pt}:pin.contains j=true→d'.defd=true→Out pin (j+1) ds p ds'→Out pin j (d::ds) (some d'::p) (d'::ds')
  | keep {j:Nat} {d:D} {x:Option D} {ds ds':List D} {p:Pt}:pin.contains j=false→d.pure=true→Out pin (j+1) ds p ds'→Out pin j (d::ds) (x::p) (d::ds')
theorem Out.eq{pin:List Nat}{j:Nat}{ds ds':List D}{p:Pt}(o:Out pin j ds p ds'): ∀ {e:List D},Mt p e→outs pin j ds e=.ok ds':=by
  induction o with
  | nil=>intro e _;unfold outs;rfl
  | pin c n _ ih =>
    intro e k
    cases k with
    | one k =>
      unfold outs
      rw[if_pos c,n,ih k]
      rfl
  | keep c n _ ih =>
    intro e k
    cases k with
    | any k =>
      unfold outs
      rw[c,n,ih k]
      rfl
    | one k =>
      unfold outs
      rw[c,n,ih k]
      rfl
theorem xcP{d:D}(p:d.pure=true): d.xc=none:=by
  cases e:d.xc with
  | none=>rfl
  | some x =>
    obtain rfl:=D.xc_eq e
    cases p
theorem run_def{n N:Nat}{pin:List Nat}{body:MS}{ds ds':List D}{h h':List Ob}{d:D}{p:Pt}(hl:ds.length=n)(hp:(ds++List.replicate (N - n) D.und).map some=p)(nx:d.xc=none)(r:∀ m,Sx p h m→Run body m (FP d pin ds ds' h')): mDef n N pin body ds h=.ok (d,ds',h'):=by
  obtain⟨⟨f,m⟩,e,q⟩:=r ⟨ds++List.replicate (N - n) .und,h⟩ ⟨hp▸Mt.refl _,rfl⟩
  unfold mDef
  rw[decide_eq_true hl]
  show((body _).bind _)=_
  have q1:=q.r
  have q2:=q.o
  have q3:=q.h
  dsimp only at q1 q2 q3
  rw[e,Res.bind_ok]
  dsimp only
  rw[q1,Res.bind_ok,nx]
  show Res.bind (outs pin 0 ds m.env) _=_
  rw[q2,Res.bind_ok,q3]
theorem run_defX{n N:Nat}{pin:List Nat}{body:MS}{ds ds':List D}{h h':List Ob}{d:D}{p:Pt}(hl:ds.length=n)(hp:(ds++List.replicate (N - n) D.und).map some=p)(r:∀ m,Sx p h m→Run body m (FP d pin ds ds' h')): mDefX n N pin body ds h=.ok (d,ds',h'):=by
  obtain⟨⟨f,m⟩,e,q⟩:=r ⟨ds++List.replicate (N - n) .und,h⟩ ⟨hp▸Mt.refl _,rfl⟩
  unfold mDefX
  rw[decide_eq_true hl]
  show((body _).bind _)=_
  have q1:=q.r
  have q2:=q.o
  have q3:=q.h
  dsimp only at q1 q2 q3
  rw[e,Res.bind_ok]
  dsimp only
  rw[q1,Res.bind_ok,q2,Res.bind_ok,q3]
end Y
namespace Y
open PySem E
open L2 (ixN atI)
variable {α β γ δ ε ζ:Type}
abbrev eN: Unit→D:=fun _=>.non
abbrev eL(o:Bool)(e:α→D): List α→D:=fun xs=>.lst o (xs.map e)
abbrev eQ(e:α→D): List α→D:=fun xs=>.tup (xs.map e)
def eO(e:α→D): Option α→D
  | none=>.non
  | some a=>e a
@[simp] theorem eO_none(e:α→D): eO e none=.non:=rfl
@[simp] theorem eO_some(e:α→D)(a:α): eO e (some a)=e a:=rfl
theorem pun: pureL []=true:=rfl
theorem puc{d:D}{ds:List D}(a:d.pure=true)(b:pureL ds=true): pureL (d::ds)=true:=by rw[pureL,a,b];rfl
theorem puT{ds:List D}(a:pureL ds=true): (D.tup ds).pure=true:=by unfold D.pure;exact a
theorem puM{e:α→D}(a:∀ x,(e x).pure=true)(xs:List α): pureL (xs.map e)=true:=by
  induction xs with
  | nil=>rfl
  | cons x xs ih=>exact puc (a x) ih
theorem puF{ds:List D}(a:pureL ds=true): (D.lst false ds).pure=true:=by unfold D.pure;rw[a];rfl
theorem npO{ds:List D}: (D.lst true ds).pure=false:=by unfold D.pure;rfl
theorem puO{e:α→D}(a:∀ x,(e x).pure=true): ∀ x,(eO e x).pure=true
  | none=>rfl
  | some x=>a x
theorem deP{d:D}(a:d.pure=true): d.defd=true:=defd_pure a
structure Fa (n:Nat) (e:α→D):Prop where
  ex:∃ py:α→PyData,(∀ a,(e a).toPy=some (py a))∧(∀ a,(py a).plain=true)∧(∀ a,(py a).depth≤n)∧∀ a b,PyData.eqv (py a) (py b)=true↔a=b
theorem Fa.int: Fa 0 D.int:=⟨PyData.int,fun _=>by rw[D.toPy],fun _=>by simp[PyData.plain],fun _=>by simp[PyData.depth],fun a b=>by simp[PyData.eqv]⟩
theorem Fa.bl: Fa 0 D.bl:=⟨PyData.bool,fun _=>by rw[D.toPy],fun _=>by simp[PyData.plain],fun _=>by simp[PyData.depth],fun a b=>by simp[PyData.eqv]⟩
theorem Fa.str: Fa 0 D.str:=⟨PyData.str,fun _=>by rw[D.toPy],fun _=>by simp[PyData.plain],fun _=>by simp[PyData.depth],fun a b=>by simp[PyData.eqv]⟩
theorem Fa.non: Fa 0 eN:=⟨fun _=>PyData.none,fun _=>by rw[D.toPy],fun _=>by simp[PyData.plain],fun _=>by simp[PyData.depth],fun a b=>by simp[PyData.eqv]⟩
theorem Fa.mono{n m:Nat}{e:α→D}(h:Fa n e)(l:n≤m): Fa m e:=by
  obtain⟨py,h1,h2,h3,h4⟩:=h.ex
  exact⟨py,h1,h2,fun a=>Nat.le_trans (h3 a) l,h4⟩
theorem toPyL_map{e:α→D}{py:α→PyData}(h:∀ a,(e a).toPy=some (py a))(xs:List α): toPyL (xs.map e)=some (xs.map py):=by
  induction xs with
  | nil=>rfl
  | cons x xs ih=>rw[List.map_cons,toPyL,h x,ih];rfl
theorem plainAll_map{py:α→PyData}(h:∀ a,(py a).plain=true)(xs:List α): PyData.plainAll (xs.map py)=true:=by
  induction xs with
  | nil=>rfl
  | cons x xs ih=>rw[List.map_cons,PyData.plainAll,h x,ih];rfl
theorem depthAll_map{n:Nat}{py:α→PyData}(h:∀ a,(py a).depth≤n)(xs:List α): PyData.depthAll (xs.map py)≤n:=by
  induction xs with
  | nil=>simp[PyData.depthAll]
  | cons x xs ih=>rw[List.map_cons,PyData.depthAll];exact Nat.max_le.mpr ⟨h x,ih⟩
theorem eqvAll_map{py:α→PyData}(h:∀ a b,PyData.eqv (py a) (py b)=true↔a=b): ∀ (xs ys:List α),PyData.eqvAll (xs.map py) (ys.map py)=true↔xs=ys
  | [],[]=>by simp[PyData.eqvAll]
  | x::xs,[]=>by simp[PyData.eqvAll]
  | [],y::ys=>by simp[PyData.eqvAll]
  | x::xs,y::ys=>by rw[List.map_cons,List.map_cons,PyData.eqvAll,Bool.and_eq_true,h,eqvAll_map h xs ys,List.cons.injEq]
theorem Fa.lst{n:Nat}{e:α→D}(o:Bool)(h:Fa n e): Fa (n+1) (eL o e):=by
  obtain⟨py,h1,h2,h3,h4⟩:=h.ex
  refine⟨fun xs=>.list (xs.map py),fun xs=>by rw[D.toPy,toPyL_map h1];rfl,fun xs=>by rw[PyData.plain,plainAll_map h2],fun xs=>by rw[PyData.depth];exact Nat.succ_le_succ (depthAll_map h3 xs),fun a b=>by rw[PyData.eqv,eqvAll_map h4]⟩
theorem Fa.tup{n:Nat}{e:α→D}(h:Fa n e): Fa (n+1) (eQ e):=by
  obtain⟨py,h1,h2,h3,h4⟩:=h.ex
  refine⟨fun xs=>.tuple (xs.map py),fun xs=>by rw[D.toPy,toPyL_map h1];rfl,fun xs=>by rw[PyData.plain,plainAll_map h2],fun xs=>by rw[PyData.depth];exact Nat.succ_le_succ (depthAll_map h3 xs),fun a b=>by rw[PyData.eqv,eqvAll_map h4]⟩
structure Fas (n:Nat) (e:α→List D):Prop where
  ex:∃ py:α→List PyData,(∀ a,toPyL (e a)=some (py a))∧(∀ a,PyData.plainAll (py a)=true)∧(∀ a,PyData.depthAll (py a)≤n)∧∀ a b,PyData.eqvAll (py a) (py b)=true↔a=b
theorem Fas.nil: Fas (α:=Unit) 0 (fun _=>[]):=⟨fun _=>[],fun _=>by rw[toPyL],fun _=>by simp[PyData.plainAll],fun _=>by simp[PyData.depthAll],fun a b=>by simp[PyData.eqvAll]⟩
theorem Fas.one{n:Nat}{e:α→D}(h:Fa n e): Fas n (fun x=>[e x]):=by
  obtain⟨py,h1,h2,h3,h4⟩:=h.ex
  exact⟨fun x=>[py x],fun x=>by rw[toPyL,h1,toPyL],fun x=>by simp[PyData.plainAll,h2],fun x=>by simp[PyData.depthAll,h3],fun a b=>by simp[PyData.eqvAll,h4]⟩
theorem Fas.cons{n m:Nat}{e:α→D}{f:β→List D}(h:Fa n e)(k:Fas m f): Fas (max n m) (fun x:α×β=>e x.1::f x.2):=by
  obtain⟨py,h1,h2,h3,h4⟩:=h.ex
  obtain⟨pz,k1,k2,k3,k4⟩:=k.ex
  refine⟨fun x=>py x.1::pz x.2,fun x=>by rw[toPyL,h1,k1],fun x=>by rw[PyData.plainAll,h2,k2];rfl,fun x=>?_,fun a b=>by rw[PyData.eqvAll,Bool.and_eq_true,h4,k4,Prod.ext_iff]⟩
  rw[PyData.depthAll]
  exact Nat.max_le.mpr ⟨Nat.le_trans (h3 _) (Nat.le_max_left ..),Nat.le_trans (k3 _) (Nat.le_max_right ..)⟩
theorem Fas.fa{n:Nat}{e:α→List D}(h:Fas n e): Fa (n+1) (fun x=>.tup (e x)):=by
  obtain⟨py,h1,h2,h3,h4⟩:=h.ex
  exact⟨fun x=>.tuple (py x),fun x=>by rw[D.toPy,h1];rfl,fun x=>by rw[PyData.plain,h2],fun x=>by rw[PyData.depth];exact Nat.succ_le_succ (h3 x),fun a b=>by rw[PyData.eqv,h4]⟩
theorem shp_ok{p:PyData}(h:p.plain=true)(d:p.depth≤64): shp p=true:=by
  unfold shp
  rw[h,decide_eq_true d]
  rfl
variable [DecidableEq α]
theorem eq_fa{n:Nat}{e:α→D}(h:Fa n e)(l:n≤64)(a b:α): dEq (e a) (e b)=.ok (.bl (decide (a=b))):=by
  obtain⟨py,h1,h2,h3,h4⟩:=h.ex
  unfold dEq
  rw[h1,h1]
  dsimp only
  rw[shp_ok (h2 a) (Nat.le_trans (h3 a) l),shp_ok (h2 b) (Nat.le_trans (h3 b) l)]
  have:PyData.eqv (py a) (py b)=decide (a=b):=by
    rw[Bool.eq_iff_iff,h4,decide_eq_true_eq]
  rw[this]
  rfl
theorem ne_fa{n:Nat}{e:α→D}(h:Fa n e)(l:n≤64)(a b:α): dNe (e a) (e b)=.ok (.bl (!decide (a=b))):=by
  obtain⟨py,h1,h2,h3,h4⟩:=h.ex
  unfold dNe
  rw[h1,h1]
  dsimp only
  rw[shp_ok (h2 a) (Nat.le_trans (h3 a) l),shp_ok (h2 b) (Nat.le_trans (h3 b) l)]
  have:PyData.eqv (py a) (py b)=decide (a=b):=by
    rw[Bool.eq_iff_iff,h4,decide_eq_true_eq]
  rw[this]
  rfl
def memB(a:α)(xs:List α): Bool:=decide (a∈xs)
@[simp] theorem memB_iff{a:α}{xs:List α}: memB a xs=true↔a∈xs:=decide_eq_true_iff
omit [DecidableEq α]
abbrev Sm(i:Int): Prop:=-18446744073709551616<i∧i<18446744073709551616
noncomputable def mulO(i j:Int): Option Int:=gd (Sm i∨Sm j) (some (i*j))
theorem mul_O{i j k:Int}(h:mulO i j=some k): dMul (.int i) (.int j)=.ok (.int k):=by
  obtain⟨h1,h2⟩:=gd_some h
  cases h2
  show Res.when (small i||small j) _=_
  rcases h1 with h1 | h1
  · rw[show small i=true from cdec_of h1];rfl
  · rw[show small j=true from cdec_of h1,Bool.or_true];rfl
theorem mul_l{i j:Int}(h:Sm i): dMul (.int i) (.int j)=.ok (.int (i*j)):=by
  show Res.when (small i||small j) _=_
  rw[show small i=true from cdec_of h];rfl
theorem mul_r{i j:Int}(h:Sm j): dMul (.int i) (.int j)=.ok (.int (i*j)):=by
  show Res.when (small i||small j) _=_
  rw[show small j=true from cdec_of h,Bool.or_true];rfl
theorem wide_of{j:Int}(h:j<18446744073709551616): wide j=true:=cdec_of (by
  have:18446744073709551616≤2 ^ 8000:=by decide +kernel
  generalize 2 ^ 8000=N at this ⊢
  omega)
noncomputable def fdivO(i j:Int): Option Int:=gd (0<j∧j<18446744073709551616) (some (i / j))
theorem fdiv_k{i j:Int}(h:0<j∧j<18446744073709551616): dFdiv (.int i) (.int j)=.ok (.int (i / j)):=by
  show Res.when (decide (0<j)&&wide j) _=_
  rw[decide_eq_true h.1,wide_of h.2];rfl
theorem fdiv_O{i j k:Int}(h:fdivO i j=some k): dFdiv (.int i) (.int j)=.ok (.int k):=by
  obtain⟨h1,h2⟩:=gd_some h
  cases h2
  exact fdiv_k h1
def modO(i j:Int): Option Int:=if 0<j then some (i % j) else none
theorem mod_k{i j:Int}(h:0<j): dMod (.int i) (.int j)=.ok (.int (i % j)):=by
  show Res.when (decide (0<j)) _=_
  rw[decide_eq_true h];rfl
theorem mod_O{i j k:Int}(h:modO i j=some k): dMod (.int i) (.int j)=.ok (.int k):=by
  unfold modO at h
  split at h
  · rename_i h1;cases h;exact mod_k h1
  · cases h
theorem pow_k{i:Int}{j:Nat}(k:Int)(h:decide (j≤1000000∧i.natAbs<2 ^ 64)=true)(e:i ^ j=k): dPow (.int i) (.int (j:Int))=.ok (.int k):=by
  have h:=of_decide_eq_true h
  show Res.when (decide (0≤(j:Int)∧(j:Int)≤1000000∧i.natAbs<2 ^ 64)) (Res.ok (D.int (i ^ (j:Int).toNat)))=_
  rw[decide_eq_true ⟨by omega,by omega,h.2⟩,Int.toNat_natCast,e]
  rfl
theorem atI_map{e:α→D}(xs:List α)(k:Int): atI (xs.map e) k=(atI xs k).map e:=by
  unfold atI
  rw[List.length_map]
  cases ixN xs.length k <;> simp
theorem ix_L{e:α→D}{o:Bool}{xs:List α}{k:Int}{a:α}(h:atI xs k=some a): dIx (.lst o (xs.map e)) (.int k)=.ok (e a):=by
  show Res.of (atI _ _)=_
  rw[atI_map,h]
  rfl
theorem ix_Q{e:α→D}{xs:List α}{k:Int}{a:α}(h:atI xs k=some a): dIx (.tup (xs.map e)) (.int k)=.ok (e a):=by
  show Res.of (atI _ _)=_
  rw[atI_map,h]
  rfl
def setI(xs:List α)(k:Int)(a:α): Option (List α):=(ixN xs.length k).map fun j=>xs.set j a
theorem setI_some{xs ys:List α}{k:Int}{a:α}(h:setI xs k a=some ys): ∃ j,ixN xs.length k=some j∧xs.set j a=ys:=Option.map_eq_some_iff.mp h
theorem YG.subL{p:Pt}{h:List Ob}{q:MQ D}{i:Nat}{k:Int}{a:α}{xs ys:List α}{e:α→D}(x:YT p h q (.int k))(g0:p[i]?=some (some (.lst true (xs.map e))))(hs:setI xs k a=some ys): YG p h (bSub i q (e a)) (p.set i (some (.lst true (ys.map e)))) h:=by
  obtain⟨j,h1,h2⟩:=setI_some hs
  exact YG.sub x g0 (by rw[List.length_map];exact h1) (by rw[← h2,List.map_set])
noncomputable def appO(xs:List α)(a:α): Option (List α):=gd (xs.length<16777216) (some (xs++[a]))
theorem YM.appL{p p':Pt}{h h':List Ob}{i:Nat}{x:M D}{d1:D}{e:α→D}{xs ys:List α}{a:α}(g0:p[i]?=some (some d1))(n0:d1.isL=true)(b:YM p h x (e a) p' h')(g1:p'[i]?=some (some (.lst true (xs.map e))))(hs:appO xs a=some ys):
    YM p h (mAppN i x) .non (p'.set i (some (.lst true (ys.map e)))) h':=by
  obtain⟨h1,h2⟩:=gd_some hs
  cases h2
  have:=YM.app g0 n0 b g1 (by rw[List.length_map];exact h1)
  rw[List.map_append]
  exact this
noncomputable def catO(xs ys:List α): Option (List α):=gd (xs.length+ys.length≤16777216) (some (xs++ys))
theorem cat_L{e:α→D}(pu:∀ x,(e x).pure=true){o o':Bool}{xs ys zs:List α}(h:catO xs ys=some zs): dAdd (.lst o (xs.map e)) (.lst o' (ys.map e))=.ok (.lst true (zs.map e)):=by
  obtain⟨h1,h2⟩:=gd_some h
  cases h2
  show Res.when _ _=_
  rw[puM pu,puM pu,List.length_map,List.length_map,decide_eq_true (show xs.length+ys.length≤sizeLine by rw[sizeLine_eq];exact h1),List.map_append]
  rfl
def cutL(xs:List α)(lo hi:Option Int): List α:=(xs.drop (HT.sIx xs.length 0 lo)).take (HT.sIx xs.length xs.length hi - HT.sIx xs.length 0 lo)
theorem cut_map{e:α→D}(xs:List α)(lo hi:Option Int): cutD (xs.map e) lo hi=(cutL xs lo hi).map e:=by
  unfold cutD cutL
  rw[List.length_map,List.map_take,List.map_drop]
theorem len_L{e:α→D}{o:Bool}{xs:List α}: dLen [.lst o (xs.map e)]=.ok (.int xs.length):=by
  show Res.ok (D.int ((xs.map e).length:Int))=_
  rw[List.length_map]
noncomputable def lenS(x:Str): Option Int:=gd (x.length≤16777216) (some x.length)
theorem len_S{x:Str}{k:Int}(h:lenS x=some k): dLen [.str x]=.ok (.int k):=by
  obtain⟨h1,h2⟩:=gd_some h
  cases h2
  show Res.when _ _=_
  rw[decide_eq_true (show x.length≤sizeLine by rw[sizeLine_eq];exact h1)]
  rfl
theorem tuple_L{e:α→D}(pu:∀ x,(e x).pure=true){o:Bool}{xs:List α}: dTuple [.lst o (xs.map e)]=.ok (.tup (xs.map e)):=by
  show Res.when _ _=_
  rw[puM pu]
  rfl
theorem tru_L{e:α→D}{o:Bool}{xs:List α}: (D.lst o (xs.map e)).tru=.ok (!xs.isEmpty):=by
  show Res.ok _=_
  cases xs <;> rfl
def enumI(xs:List α): List (Int×α):=(List.range xs.length).zip xs |>.map fun p=>((p.1:Int),p.2)
theorem isi_k{d:D}{k n:String}{b:Bool}(h:kindOf d=some k)(h2:kindIs k n=some b): dIsi [d,.ty n]=.ok (.bl b):=by
  show(Res.of ((kindOf d).bind fun k=>kindIs k n)).bind _=_
  rw[h,Option.bind_some,h2]
  rfl
theorem isn_O{e:α→D}{x:Option α}(h:∀ a,isNone (e a)=false): isNone (eO e x)=x.isNone:=by
  cases x with
  | none=>rfl
  | some a=>exact h a
theorem is_n{d:D}{b:Bool}(h:isNone d=b): dIs d .non=.ok (.bl b):=by
  cases d <;> exact congrArg (fun b=>Res.ok (D.bl b)) h
theorem isnot_n{d:D}{b:Bool}(h:isNone d=b): dIsNot d .non=.ok (.bl (!b)):=by
  cases d <;> exact congrArg (fun b=>Res.ok (D.bl (!b))) h
theorem cmap_L{e:α→D}{f:β→D}{g:α→β}{o:Bool}(h:∀ a,e a=f (g a))(xs:List α): D.lst o (xs.map e)=.lst o ((xs.map g).map f):=by
  rw[List.map_map]
  congr 1
  exact List.map_congr_left fun a _=>h a
theorem cmap_O{e:α→D}{f:β→D}{g:α→β}(h:∀ a,e a=f (g a))(x:Option α): eO e x=eO f (x.map g):=by
  cases x with
  | none=>rfl
  | some a=>exact h a
theorem congr2{d d':D}{ds ds':List D}(a:d=d')(b:ds=ds'): d::ds=d'::ds':=by rw[a,b]
end Y
namespace Y
open PySem E
open L2 (ixN atI)
inductive Dat where
  | non
  | int (i:Int)
  | str (s:Str)
  | tup (xs:List Dat)
mutual
def Dat.toD: Dat→D
  | .non=>.non
  | .int i=>.int i
  | .str s=>.str s
  | .tup xs=>.tup (toDs xs)
def toDs: List Dat→List D
  | []=>[]
  | x::xs=>x.toD::toDs xs
end
mutual
def Dat.dep: Dat→Nat
  | .non=>0
  | .int _=>0
  | .str _=>0
  | .tup xs=>deps xs+1
def deps: List Dat→Nat
  | []=>0
  | x::xs=>max x.dep (deps xs)
end
mutual
def Dat.py: Dat→PyData
  | .non=>.none
  | .int i=>.int i
  | .str s=>.str s
  | .tup xs=>.tuple (pys xs)
def pys: List Dat→List PyData
  | []=>[]
  | x::xs=>x.py::pys xs
end
theorem toDs_map: ∀ xs:List Dat,toDs xs=xs.map Dat.toD
  | []=>rfl
  | x::xs=>by rw[toDs,List.map_cons,toDs_map xs]
mutual
theorem Dat.pu: ∀ d:Dat,d.toD.pure=true
  | .non=>rfl
  | .int _=>rfl
  | .str _=>rfl
  | .tup xs=>by rw[Dat.toD,D.pure];exact pus xs
theorem pus: ∀ xs:List Dat,pureL (toDs xs)=true
  | []=>rfl
  | x::xs=>by rw[toDs,pureL,x.pu,pus xs];rfl
end
mutual
theorem Dat.toPy: ∀ d:Dat,d.toD.toPy=some d.py
  | .non=>by rw[Dat.toD,D.toPy,Dat.py]
  | .int _=>by rw[Dat.toD,D.toPy,Dat.py]
  | .str _=>by rw[Dat.toD,D.toPy,Dat.py]
  | .tup xs=>by rw[Dat.toD,D.toPy,toPys xs,Dat.py];rfl
theorem toPys: ∀ xs:List Dat,toPyL (toDs xs)=some (pys xs)
  | []=>by rw[toDs,toPyL,pys]
  | x::xs=>by rw[toDs,toPyL,x.toPy,toPys xs,pys]
end
mutual
theorem Dat.plain: ∀ d:Dat,d.py.plain=true
  | .non=>by rw[Dat.py,PyData.plain]
  | .int _=>by rw[Dat.py,PyData.plain]
  | .str _=>by rw[Dat.py,PyData.plain]
  | .tup xs=>by rw[Dat.py,PyData.plain,plains xs]
theorem plains: ∀ xs:List Dat,PyData.plainAll (pys xs)=true
  | []=>by rw[pys,PyData.plainAll]
  | x::xs=>by rw[pys,PyData.plainAll,x.plain,plains xs];rfl
end
mutual
theorem Dat.pyDep: ∀ d:Dat,d.py.depth=d.dep
  | .non=>by rw[Dat.py,PyData.depth,Dat.dep]
  | .int _=>by rw[Dat.py,PyData.depth,Dat.dep]
  | .str _=>by rw[Dat.py,PyData.depth,Dat.dep]
  | .tup xs=>by rw[Dat.py,PyData.depth,Dat.dep,pyDeps xs]
theorem pyDeps: ∀ xs:List Dat,PyData.depthAll (pys xs)=deps xs
  | []=>by rw[pys,PyData.depthAll,deps]
  | x::xs=>by rw[pys,PyData.depthAll,deps,x.pyDep,pyDeps xs]
end
mutual
theorem Dat.eqv: ∀ a b:Dat,PyData.eqv a.py b.py=true↔a=b
  | .non,b=>by cases b <;> simp[Dat.py,PyData.eqv]
  | .int _,b=>by cases b <;> simp[Dat.py,PyData.eqv]
  | .str _,b=>by cases b <;> simp[Dat.py,PyData.eqv]
  | .tup xs,.tup ys=>by
    rw[Dat.py,Dat.py,PyData.eqv,eqvs xs ys,Dat.tup.injEq]
  | .tup xs,.non=>by simp[Dat.py,PyData.eqv]
  | .tup xs,.int _=>by simp[Dat.py,PyData.eqv]
  | .tup xs,.str _=>by simp[Dat.py,PyData.eqv]
theorem eqvs: ∀ a b:List Dat,PyData.eqvAll (pys a) (pys b)=true↔a=b
  | [],[]=>by simp[pys,PyData.eqvAll]
  | [],_::_=>by simp[pys,PyData.eqvAll]
  | _::_,[]=>by simp[pys,PyData.eqvAll]
  | x::xs,y::ys=>by rw[pys,pys,PyData.eqvAll,Bool.and_eq_true,x.eqv y,eqvs xs ys,List.cons.injEq]
end
structure V where
  d:Dat
  h:d.dep≤48
theorem V.ext'{a b:V}(h:a.d=b.d): a=b:=by
  cases a
  cases b
  cases h
  rfl
noncomputable instance:DecidableEq V:=fun a b=>Classical.propDecidable (a=b)
def e_V(v:V): D:=v.d.toD
theorem pu_V(v:V): (e_V v).pure=true:=v.d.pu
theorem Fa.V: Fa 48 e_V:=⟨fun v=>v.d.py,fun v=>v.d.toPy,fun v=>v.d.plain,fun v=>by rw[Dat.pyDep];exact v.h,fun a b=>by rw[Dat.eqv];exact⟨V.ext',fun h=>by rw[h]⟩⟩
def Dat.isNon: Dat→Bool
  | .non=>true
  | _=>false
def V.isNone(v:V): Bool:=v.d.isNon
theorem isn_V(v:V): E.isNone (e_V v)=v.isNone:=by
  unfold e_V V.isNone
  cases v.d <;> (rw[Dat.toD];rfl)
end Y
namespace Y
open PySem E
open L2 (ixN atI)
variable {α β γ R S:Type}
theorem atI_nn{xs:List α}{k:Int}(h0:0≤k)(h1:k<xs.length): atI xs k=some (xs[k.toNat]'(by omega)):=by
  unfold atI ixN
  rw[if_pos h0,if_pos h1,Option.bind_some,List.getElem?_eq_getElem (by omega)]
theorem atI_nat{xs:List α}{k:Nat}(h1:k<xs.length): atI xs (k:Int)=some xs[k]:=by
  rw[atI_nn (by omega) (by omega)]
  rfl
theorem atI_ng{xs:List α}{k:Int}(h0:k<0)(h1:-(xs.length:Int)≤k): atI xs k=some (xs[(k+xs.length).toNat]'(by omega)):=by
  unfold atI ixN
  rw[if_neg (by omega),if_pos h1,Option.bind_some,List.getElem?_eq_getElem (by omega)]
theorem atI_zero{x:α}{xs:List α}: atI (x::xs) 0=some x:=atI_nat (k:=0) (by simp)
@[simp] theorem atI_0{x:α}{xs:List α}: atI (x::xs) 0=some x:=atI_zero
@[simp] theorem atI_1{x y:α}{xs:List α}: atI (x::y::xs) 1=some y:=atI_nat (k:=1) (by simp)
theorem atI_mem{xs:List α}{k:Int}{x:α}(h:atI xs k=some x): x∈xs:=by
  unfold atI at h
  cases e:ixN xs.length k with
  | none=>rw[e] at h;cases h
  | some j=>rw[e] at h;exact List.mem_of_getElem? h
theorem setI_nn{xs:List α}{k:Int}{a:α}(h0:0≤k)(h1:k<xs.length): setI xs k a=some (xs.set k.toNat a):=by
  unfold setI ixN
  rw[if_pos h0,if_pos h1]
  rfl
@[simp] theorem setI_0{x a:α}{xs:List α}: setI (x::xs) 0 a=some (a::xs):=setI_nn (by omega) (by simp)
@[simp] theorem modO_eq{i j:Int}(h:0<j): modO i j=some (i % j):=if_pos h
theorem fdivO_eq{i j:Int}(h:0<j)(h2:j<18446744073709551616): fdivO i j=some (i / j):=gd_of ⟨h,h2⟩
theorem mulO_l{i j:Int}(h0:-1000000000000000000≤i)(h1:i≤1000000000000000000): mulO i j=some (i*j):=gd_of (.inl ⟨by omega,by omega⟩)
theorem appO_eq{xs:List α}{a:α}(h:xs.length<16777216): appO xs a=some (xs++[a]):=gd_of h
theorem catO_eq{xs ys:List α}(h:xs.length+ys.length≤16777216): catO xs ys=some (xs++ys):=gd_of h
theorem lcOg_eq{tb:α→Option (Option β)}{xs:List α}(h:xs.length≤16777216): lcOg tb xs=lcO tb xs:=gd_of h
theorem lcO_map{f:α→β}{tb:α→Option (Option β)}: ∀ {xs:List α},(∀ x∈xs,tb x=some (some (f x)))→lcO tb xs=some (xs.map f)
  | [],_=>rfl
  | x::xs,h=>by
    rw[lcO,h x (List.mem_cons_self ..),Option.bind_some,lcO_map fun y m=>h y (List.mem_cons_of_mem _ m)]
    rfl
theorem forS_ipre{tb:S→α→Option S}(I:List α→S→Prop)(xs:List α): ∀ (q p:List α) {s:S},xs=p++q→I p s→(∀ p x q s,xs=p++x::q→I p s→∃ s',tb s x=some s'∧I (p++[x]) s')→∃ s',forS tb q s=some s'∧I xs s'
  | [],p,s,e,h,_=>⟨s,rfl,by rw[e,List.append_nil];exact h⟩
  | x::q,p,s,e,h,k=>by
    obtain⟨s1,e1,h1⟩:=k p x q s e h
    obtain⟨s2,e2,h2⟩:=forS_ipre I xs q (p++[x]) (by rw[e,List.append_assoc];rfl) h1 k
    exact⟨s2,by rw[forS,e1,Option.bind_some,e2],h2⟩
theorem forE_inv{tb:S→α→Option (Ex R S)}(I:S→Prop): ∀ {xs:List α} {s:S},I s→(∀ s x,x∈xs→I s→∃ s',tb s x=some (.go s')∧I s')→∃ s',forE tb xs s=some (.go s')∧I s'
  | [],s,h,_=>⟨s,rfl,h⟩
  | x::xs,s,h,k=>by
    obtain⟨s1,e1,h1⟩:=k s x (List.mem_cons_self ..) h
    obtain⟨s2,e2,h2⟩:=forE_inv I h1 fun s y m=>k s y (List.mem_cons_of_mem _ m)
    exact⟨s2,by rw[forE,e1,Option.bind_some];exact e2,h2⟩
theorem mem_rangeI{lo hi k:Int}: k∈rangeI lo hi↔lo≤k∧k<hi:=by
  unfold rangeI
  rw[List.mem_map]
  constructor
  · rintro⟨j,m,rfl⟩
    rw[List.mem_range] at m
    omega
  · intro ⟨h1,h2⟩
    exact⟨(k - lo).toNat,by rw[List.mem_range];omega,by omega⟩
@[simp] theorem length_rangeI(lo hi:Int): (rangeI lo hi).length=(hi - lo).toNat:=by
  unfold rangeI
  rw[List.length_map,List.length_range]
theorem forE_all{tb:Unit→α→Option (Ex R Unit)}: ∀ {xs:List α},(∀ x∈xs,tb () x=some (.go ()))→forE tb xs ()=some (.go ())
  | [],_=>rfl
  | x::xs,h=>by
    rw[forE,h x (List.mem_cons_self ..),Option.bind_some]
    exact forE_all fun y m=>h y (List.mem_cons_of_mem _ m)
end Y
namespace Y
open PySem E
open L2 (ixN atI)
variable {α β γ R S:Type}
end Y
namespace Y
open PySem E
open L2 (ixN atI)
variable {α β γ R S:Type}
open Classical in
noncomputable def invO(e:α→D)(d:D): Option α:=if x:∃ a,e a=d then some x.choose else none
theorem invO_some{e:α→D}{d:D}{a:α}(h:invO e d=some a): e a=d:=by
  unfold invO at h
  split at h
  · rename_i x
    cases h
    exact x.choose_spec
  · cases h
theorem invO_eq{e:α→D}(inj:∀ a b,e a=e b→a=b)(a:α): invO e (e a)=some a:=by
  unfold invO
  rw[dif_pos ⟨a,rfl⟩]
  have x:∃ b,e b=e a:=⟨a,rfl⟩
  exact congrArg some (inj _ _ x.choose_spec)
noncomputable def repO(x:Str)(n:Int): Option Str:=gd (mulSok x n) (some (repS x n))
theorem mulS_O{x y:Str}{n:Int}(h:repO x n=some y): dMulS (.str x) (.int n)=.ok (.str y):=by
  obtain⟨c,h⟩:=gd_some h
  cases h
  show Res.when (decide (mulSok x n)) _=_
  rw[decide_eq_true c]
  rfl
end Y
namespace Y
open PySem E
open L2 (ixN atI)
variable {α β γ R S:Type}
theorem rs_go{g:S→Option β}{f:R→Option β}{s:S}: Rs.elim g f (.go s)=g s:=rfl
end Y
namespace Y
open PySem E
open L2 (ixN atI)
variable {α β γ R S:Type}
noncomputable def boxO(e:α→D)(h:List Ob)(k:Nat): Option α:=(boxIn h[k]?).bind (invO e)
theorem boxO_some{e:α→D}{h:List Ob}{k:Nat}{x:α}(b:boxO e h k=some x): boxIn h[k]?=some (e x):=by
  obtain⟨d,h1,h2⟩:=Option.bind_eq_some_iff.mp b
  rw[h1,invO_some h2]
theorem boxO_eq{e:α→D}(inj:∀ a b,e a=e b→a=b){h:List Ob}{k:Nat}{x:α}(g:h[k]?=some ⟨BOXC,[("",e x)]⟩): boxO e h k=some x:=by
  unfold boxO
  rw[g,boxIn_box]
  exact invO_eq inj x
def setB(h:List Ob)(k:Nat)(d:D): List Ob:=h.set k ⟨BOXC,[("",d)]⟩
theorem YT.un{p:Pt}{h:List Ob}{q:MQ D}{e:α→D}{k:Nat}{x:α}(a:YT p h q (.loc k))(b:boxO e h k=some x): YT p h (mqUn q) (e x):=fun m s=>by
  unfold mqUn
  rw[a m s,Res.bind_ok]
  unfold unB
  dsimp only
  rw[s.h,boxO_some b]
theorem YM.box{p p':Pt}{h h':List Ob}{x:M D}{d:D}(a:YM p h x d p' h')(o:d.owned=true): YM p h (mBox x) (.loc h'.length) p' (h'++[⟨BOXC,[("",d)]⟩]):=fun m s=>by
  obtain⟨m1,e1,s1⟩:=a m s
  refine⟨⟨m1.env,h'++[⟨BOXC,[("",d)]⟩]⟩,?_,s1.e,rfl⟩
  unfold mBox
  rw[e1,Res.bind_ok]
  dsimp only
  rw[o,s1.h]
  rfl
def YP(p:Pt)(h:List Ob)(rs:MQ Pl)(pl:Pl): Prop:=∀ m,Sx p h m→rs m=.ok pl
def YGet(p:Pt)(h:List Ob)(pl:Pl)(d:D): Prop:=∀ m,Sx p h m→pl.get m=some d
def YPut(p:Pt)(h:List Ob)(pl:Pl)(d:D)(p2:Pt)(h2:List Ob): Prop:=∀ m,Sx p h m→Sx p2 h2 (pl.put d m)
theorem YP.nNm{p:Pt}{h:List Ob}{i:Nat}{d:D}(g:p[i]?=some (some d))(o:d.owned=true): YP p h (rsN i) (.nm i):=fun m s=>by
  unfold rsN
  rw[YT.var g (by cases d <;> first | rfl | cases o) m s,Res.bind_ok]
  cases d <;> first | rfl | cases o
theorem YGet.bx{p:Pt}{h:List Ob}{k:Nat}{e:α→D}{x:α}(b:boxO e h k=some x): YGet p h (.bx k) (e x):=fun m s=>by
  show boxIn m.hs[k]?=_
  rw[s.h]
  exact boxO_some b
theorem YGet.nm{p:Pt}{h:List Ob}{i:Nat}{d:D}(g:p[i]?=some (some d)): YGet p h (.nm i) d:=fun m s=>s.e.get g
theorem YPut.bx{p:Pt}{h:List Ob}{k:Nat}{d:D}: YPut p h (.bx k) d p (setB h k d):=fun m s=>⟨s.e,by
  show m.hs.set k _=_
  rw[s.h]
  rfl⟩
theorem YPut.nm{p:Pt}{h:List Ob}{i:Nat}{d:D}: YPut p h (.nm i) d (p.set i (some d)) h:=fun m s=>⟨s.e.set i d,s.h⟩
section
variable {T:String} {g:D→List D→Res (D×D)} {rs:MQ Pl} {pl:Pl} {p p1 p2:Pt} {h h1 h2:List Ob} {ml:M (List E.Arg)} {as:List E.Arg} {ds:List D} {d0 d res d':D}
theorem YM.opL(a:YP p h rs pl)(lt:pl.late=true)(g0:YGet p h pl d0)(t0:tyD T d0=true)(b:YA p h ml as p1 h1)(v:vals as=.ok ds)(g1:YGet p1 h1 pl d)(t1:tyD T d=true)(e:g d ds=.ok (res,d'))(put:YPut p1 h1 pl d' p2 h2): YM p h (mOpL T g rs ml) res p2 h2:=fun m s=>by
  obtain⟨m1,e1,s1⟩:=b m s
  refine⟨pl.put d' m1,?_,put m1 s1⟩
  unfold mOpL
  rw[a m s,Res.bind_ok,lt,Res.when_true,g0 m s]
  show Res.when (tyD T d0) _=_
  rw[t0,Res.when_true,e1,Res.bind_ok]
  dsimp only
  rw[v,Res.bind_ok,g1 m1 s1]
  show Res.when (tyD T d) _=_
  rw[t1,Res.when_true,e]
  rfl
theorem YM.op0(a:YP p h rs pl)(g0:YGet p h pl d)(t0:tyD T d=true)(e:g d []=.ok (res,d'))(put:YPut p h pl d' p2 h2): YM p h (mOp0 T g rs) res p2 h2:=fun m s=>by
  refine⟨pl.put d' m,?_,put m s⟩
  unfold mOp0
  rw[a m s,Res.bind_ok,g0 m s]
  show Res.when (tyD T d) _=_
  rw[t0,Res.when_true,e]
  rfl
end
theorem gapp_L{e:α→D}{xs ys:List α}{a:α}(h:appO xs a=some ys): gAppend (.lst true (xs.map e)) [e a]=.ok (.non,.lst true (ys.map e)):=by
  obtain⟨c,h⟩:=gd_some h
  cases h
  show Res.when _ _=_
  rw[List.length_map,decide_eq_true (show xs.length<sizeLine by rw[sizeLine_eq];exact c),List.map_append]
  rfl
theorem er_map(e:α→β): ∀ (xs:List α) (k:Nat),(xs.map e).eraseIdx k=(xs.eraseIdx k).map e
  | [],_=>rfl
  | _::_,0=>rfl
  | x::xs,k+1=>by
    show e x::(xs.map e).eraseIdx k=e x::(xs.eraseIdx k).map e
    rw[er_map e xs k]
def popO(xs:List α): Option (α×List α):=(xs[xs.length - 1]?).map fun a=>(a,xs.eraseIdx (xs.length - 1))
theorem gpop_L{e:α→D}{xs:List α}{r:α×List α}(h:popO xs=some r): gPop (.lst true (xs.map e)) []=.ok (e r.1,.lst true (r.2.map e)):=by
  unfold popO at h
  rw[Option.map_eq_some_iff] at h
  obtain⟨a,h1,rfl⟩:=h
  show((Res.of ((xs.map e)[(xs.map e).length - 1]?)).bind _)=_
  rw[List.length_map,List.getElem?_map,h1]
  show Res.ok _=Res.ok _
  rw[er_map]
theorem YI.bx{p:Pt}{h:List Ob}{q:MQ D}{e:α→D}{k:Nat}{xs:List α}(pu:∀ a,(e a).pure=true)(a:YT p h q (.loc k))(b:boxO (fun xs:List α=>D.lst true (xs.map e)) h k=some xs): YI p h (miBx q) (xs.map e) (fun m'=>boxIn m'.hs[k]?=some (.lst true (xs.map e))) p h:=fun m s=>by
  refine⟨m,?_,s⟩
  unfold miBx
  rw[a m s,Res.bind_ok]
  dsimp only
  have:boxIn m.hs[k]?=some (.lst true (xs.map e)):=by rw[s.h];exact boxO_some (e:=fun xs:List α=>D.lst true (xs.map e)) b
  rw[this]
  show Res.when (pureL (xs.map e)) _=_
  rw[puM pu]
  rfl
def signsS(z:Str): List Str:=z.cps.toList.map fun c=>⟨#[c]⟩
theorem signs_map(z:Str): signs z=(signsS z).map D.str:=by
  unfold signs signsS
  rw[List.map_map]
  rfl
theorem YI.t{p p':Pt}{h h':List Ob}{e:M D}{z:Str}(a:YM p h e (.str z) p' h'): YI p h (miT e) ((signsS z).map D.str) (fun _=>True) p' h':=fun m s=>by
  obtain⟨m1,e1,s1⟩:=a m s
  refine⟨m1,?_,s1⟩
  unfold miT
  rw[e1,Res.bind_ok]
  dsimp only
  rw[signs_map]
noncomputable def atS(z:Str)(i:Int): Option Str:=gd (z.length≤16777216) ((atI z.cps.toList i).map fun c=>⟨#[c]⟩)
theorem ix_S{z y:Str}{i:Int}(h:atS z i=some y): dIx (.str z) (.int i)=.ok (.str y):=by
  obtain⟨c,h⟩:=gd_some h
  rw[Option.map_eq_some_iff] at h
  obtain⟨a,h1,rfl⟩:=h
  show Res.when _ _=_
  rw[decide_eq_true (show z.length≤sizeLine by rw[sizeLine_eq];exact c),Res.when_true,h1]
  rfl
noncomputable def cutSO(z:Str)(lo hi:Option Int): Option Str:=gd (z.length≤16777216) (some (L2.cutS z lo hi))
theorem sl_S{z y:Str}{lo hi:Option Int}(h:cutSO z lo hi=some y): dSl (.str z) lo hi=.ok (.str y):=by
  obtain⟨c,h⟩:=gd_some h
  cases h
  show Res.when _ _=_
  rw[decide_eq_true (show z.length≤sizeLine by rw[sizeLine_eq];exact c)]
  rfl
noncomputable def catSO(x y:Str): Option Str:=gd (x.length+y.length≤16777216) (some (x++y))
theorem cat_S{x y z:Str}(h:catSO x y=some z): dAdd (.str x) (.str y)=.ok (.str z):=by
  obtain⟨c,h⟩:=gd_some h
  cases h
  show Res.when _ _=_
  rw[decide_eq_true (show x.length+y.length≤sizeLine by rw[sizeLine_eq];exact c)]
  rfl
theorem deps_mem: ∀ {ds:List Dat} {d:Dat},d∈ds→d.dep≤deps ds
  | x :: xs,d,m=>by
    rw[deps]
    rcases List.mem_cons.mp m with rfl | m
    · omega
    · have:=deps_mem m
      omega
def atV (v:V) (k:Int):Option V:=match v with
  | ⟨.tup ds,h⟩=>match e:atI ds k with
    | some d=>some ⟨d,by
      have:=deps_mem (atI_mem e)
      unfold Dat.dep at h
      omega⟩
    | none=>none
  | _=>none
theorem ix_V{v w:V}{k:Int}(h:atV v k=some w): dIx (e_V v) (.int k)=.ok (e_V w):=by
  unfold atV at h
  split at h
  · rename_i ds hd
    split at h
    · rename_i d e
      cases h
      show dIx (.tup (toDs ds)) (.int k)=_
      rw[toDs_map]
      exact ix_Q (e:=Dat.toD) e
    · cases h
  · cases h
theorem dep_T{xs:List Dat}{n:Nat}(h:deps xs≤n): (Dat.tup xs).dep≤n+1:=by
  rw[Dat.dep]
  omega
theorem dnil{n:Nat}: deps []≤n:=Nat.zero_le _
theorem dcons{x:Dat}{xs:List Dat}{n:Nat}(h:x.dep≤n)(k:deps xs≤n): deps (x::xs)≤n:=by
  rw[deps]
  omega
theorem deps_map{f:α→Dat}{n:Nat}(h:∀ z,(f z).dep≤n): ∀ xs:List α,deps (xs.map f)≤n
  | []=>Nat.zero_le _
  | x::xs=>dcons (h x) (deps_map h xs)
theorem dep_O{f:α→Dat}{n:Nat}(h:∀ z,(f z).dep≤n)(x:Option α): (Option.elim x Dat.non f).dep≤n:=by
  cases x with
  | none=>exact Nat.zero_le _
  | some a=>exact h a
theorem tnil: ([]:List D)=toDs []:=rfl
theorem tcons{d:D}{ds:List D}{x:Dat}{xs:List Dat}(h:d=x.toD)(k:ds=toDs xs): d::ds=toDs (x::xs):=by
  rw[toDs,h,k]
theorem tmap{e:α→D}{f:α→Dat}(h:∀ z,e z=(f z).toD): ∀ xs:List α,xs.map e=toDs (xs.map f)
  | []=>rfl
  | x::xs=>by
    rw[List.map_cons,List.map_cons]
    exact tcons (h x) (tmap h xs)
theorem tO{e:α→D}{f:α→Dat}(h:∀ z,e z=(f z).toD)(x:Option α): eO e x=(Option.elim x Dat.non f).toD:=by
  cases x with
  | none=>rfl
  | some a=>exact h a
end Y
namespace Y
open PySem E
open L2 (ixN atI)
variable {α β γ R S:Type}
theorem catSO_of{x y:Str}(h:x.length+y.length≤10000): catSO x y=some (x++y):=gd_of (by omega)
def ltS(x y:Str): Prop:=x.cps.toList<y.cps.toList
instance (x y:Str):Decidable (ltS x y):=by unfold ltS;infer_instance
@[simp] theorem length_enumI(xs:List α): (enumI xs).length=xs.length:=by simp[enumI]
theorem inj_int: ∀ a b:Int,D.int a=D.int b→a=b:=fun a b h=>by cases h;rfl
theorem inj_str: ∀ a b:Str,D.str a=D.str b→a=b:=fun a b h=>by cases h;rfl
theorem inj_map{e:α→D}(i:∀ a b,e a=e b→a=b): ∀ a b:List α,a.map e=b.map e→a=b:=fun a b h=>(List.map_inj_right fun x y=>i x y).mp h
theorem inj_L{e:α→D}(i:∀ a b,e a=e b→a=b){o:Bool}: ∀ a b:List α,eL o e a=eL o e b→a=b:=fun a b h=>inj_map i a b (by
  unfold eL at h
  injection h)
theorem inj_Q{e:α→D}(i:∀ a b,e a=e b→a=b): ∀ a b:List α,eQ e a=eQ e b→a=b:=fun a b h=>inj_map i a b (by
  unfold eQ at h
  injection h)
theorem hp_new(h:List Ob)(o:Ob): (h++[o])[h.length]?=some o:=by simp
theorem hp_old{h:List Ob}{l:List Ob}{n:Nat}{o:Ob}(e:h[n]?=some o): (h++l)[n]?=some o:=by
  rw[List.getElem?_append_left (List.getElem?_eq_some_iff.mp e).1]
  exact e
theorem hp_lt{h:List Ob}{n:Nat}{o:Ob}(e:h[n]?=some o): n<h.length:=(List.getElem?_eq_some_iff.mp e).1
theorem hp_set{h:List Ob}{n:Nat}{o o':Ob}(e:h[n]?=some o): (h.set n o')[n]?=some o':=by
  rw[List.getElem?_set_self (hp_lt e)]
theorem hp_ne{h:List Ob}{n m:Nat}{o':Ob}(e:n≠m): (h.set n o')[m]?=h[m]?:=List.getElem?_set_ne e
theorem Fas.fl{n:Nat}{e:α→List D}(o:Bool)(h:Fas n e): Fa (n+1) (fun x=>.lst o (e x)):=by
  obtain⟨py,h1,h2,h3,h4⟩:=h.ex
  exact⟨fun x=>.list (py x),fun x=>by rw[D.toPy,h1];rfl,fun x=>by rw[PyData.plain,h2],fun x=>by rw[PyData.depth];exact Nat.succ_le_succ (h3 x),fun a b=>by rw[PyData.eqv,h4]⟩
theorem sl_Q{e:α→D}(pu:∀ x,(e x).pure=true){xs:List α}{lo hi:Option Int}: dSl (.tup (xs.map e)) lo hi=.ok (.tup ((cutL xs lo hi).map e)):=by
  show Res.when _ _=_
  rw[puM pu,cut_map]
  rfl
end Y
namespace Y
open PySem E
open L2 (atI ixN)
structure Kf {κ:Type} (ek:κ→D) (kk:κ→L2.Key):Prop where
  t:∀ a,toKey (ek a)=some (kk a)
  d:∀ a,kD (kk a)=ek a
  i:∀ a b,kk a=kk b→a=b
section
variable {κ α:Type} [DecidableEq κ] {ek:κ→D} {kk:κ→L2.Key} {e:α→D}
def kvD(ek:κ→D)(e:α→D)(xs:List (κ×α)): List (D×D):=xs.map fun p=>(ek p.1,e p.2)
def eDic(o:Bool)(ek:κ→D)(e:α→D)(xs:List (κ×α)): D:=.dic o false (kvD ek e xs)
theorem Kf.eq(f:Kf ek kk)(a b:κ): toKey (ek a)=some (kk b)↔a=b:=by
  rw[f.t]
  exact⟨fun h=>f.i _ _ (Option.some.inj h),fun h=>by rw[h]⟩
end
def YPs(p:Pt)(h:List Ob)(mp:M (List (D×D)))(ps:List (D×D))(p':Pt)(h':List Ob): Prop:=∀ m,Sx p h m→∃ m',mp m=.ok (ps,m')∧Sx p' h' m'
theorem YPs.nil{p:Pt}{h:List Ob}: YPs p h mpNil [] p h:=fun m s=>⟨m,rfl,s⟩
theorem YPs.cons{p p1 p2:Pt}{h h1 h2:List Ob}{qk:MQ D}{mv:M D}{mp:M (List (D×D))}{kd d:D}{q:L2.Key}{ps:List (D×D)}(a:YT p h qk kd)(ek:toKey kd=some q)(b:YM p h mv d p1 h1)(pu:d.pure=true)(r:YPs p1 h1 mp ps p2 h2): YPs p h (mpCons qk mv mp) ((kD q,d)::ps) p2 h2:=fun m s=>by
  obtain⟨m1,e1,s1⟩:=b m s
  obtain⟨m2,e2,s2⟩:=r m1 s1
  refine⟨m2,?_,s2⟩
  unfold mpCons
  rw[a m s,Res.bind_ok,ek]
  show(mv m).bind _=_
  rw[e1,Res.bind_ok]
  dsimp only
  rw[pu,Res.when_true,e2]
  rfl
inductive W where
  | int (i:Int)
  | str (s:Str)
noncomputable instance:DecidableEq W:=fun a b=>Classical.propDecidable (a=b)
def e_W: W→D
  | .int i=>.int i
  | .str s=>.str s
def W.dat: W→Dat
  | .int i=>.int i
  | .str s=>.str s
theorem W.dep(w:W): w.dat.dep≤0:=by cases w <;> exact Nat.le_refl 0
theorem W.eqd(w:W): e_W w=w.dat.toD:=by cases w <;> (unfold W.dat Dat.toD;rfl)
theorem Fa.W: Fa 0 e_W:=⟨fun w=>w.dat.py,fun w=>by rw[W.eqd];exact w.dat.toPy,fun w=>w.dat.plain,fun w=>by rw[Dat.pyDep];exact w.dep,fun a b=>by
  rw[Dat.eqv]
  constructor
  · intro h
    cases a <;> cases b <;> simp[W.dat] at h
    · rw[h]
    · rw[h]
  · intro h;rw[h]⟩
def W.sel{β:Type}(w:W)(a b:β): β:=match w with
  | .int _=>a
  | .str _=>b
section
variable {κ α:Type} [DecidableEq κ] {xs:List (κ×α)} {k q:κ} {a:α}
end
end Y
namespace Y
open PySem E
open L2 (atI ixN)
section
variable {κ α:Type} {ek:κ→D} {kk:κ→L2.Key} {e:α→D} [DecidableEq κ]
theorem YI.lk{p:Pt}{h:List Ob}{i k:Nat}{xs:List (κ×α)}(g:p[i]?=some (some (.loc k)))(b:h[k]?=some ⟨LOCKC,[("",eDic true ek e xs)]⟩): YI p h (miLk i) ((xs.map (·.1)).map ek) (fun _=>True) p h:=fun m s=>by
  refine⟨m,?_,s⟩
  unfold miLk
  rw[s.e.get g,s.h]
  dsimp only
  rw[b]
  show(Res.of (lkIn (some ⟨LOCKC,[("",.dic true false (kvD ek e xs))]⟩))).bind _=_
  rw[lkIn_box]
  show Res.ok ((((kvD ek e xs).map (·.1)),fun(_:Mem)=>True),m)=_
  unfold kvD
  rw[List.map_map,List.map_map]
  rfl
end
section
variable {κ α:Type} {ek:κ→D} {kk:κ→L2.Key} {e:α→D} [DecidableEq κ] [DecidableEq α]
end
def Dat.sel{β:Type}(d:Dat)(n i s t:β): β:=match d with
  | .non=>n
  | .int _=>i
  | .str _=>s
  | .tup _=>t
def V.sel{β:Type}(v:V)(n i s t:β): β:=v.d.sel n i s t
theorem isi_V{v:V}{t:D}{bn bi bs bt:Bool}(h0:dIsi [.non,t]=.ok (.bl bn))(h1:∀ i,dIsi [D.int i,t]=.ok (.bl bi))(h2:∀ s,dIsi [D.str s,t]=.ok (.bl bs))(h3:∀ xs,dIsi [D.tup xs,t]=.ok (.bl bt)): dIsi [e_V v,t]=.ok (.bl (v.sel bn bi bs bt)):=by
  obtain⟨d,hd⟩:=v
  cases d with
  | non=>exact h0
  | int i=>exact h1 i
  | str s=>exact h2 s
  | tup xs=>exact h3 _
noncomputable def lenV(v:V): Option Int:=match v.d with
  | .str s=>lenS s
  | .tup xs=>some (xs.length:Int)
  | _=>none
theorem len_V{v:V}{k:Int}(h:lenV v=some k): dLen [e_V v]=.ok (.int k):=by
  obtain⟨d,hd⟩:=v
  unfold lenV at h
  cases d with
  | non=>cases h
  | int i=>cases h
  | str s=>exact len_S h
  | tup xs =>
    cases h
    show dLen [.tup (toDs xs)]=_
    rw[toDs_map]
    show Res.ok (D.int (((xs.map Dat.toD).length:Nat):Int))=_
    rw[List.length_map]
end Y
namespace Y
open PySem E
open L2 (atI ixN)
theorem toBls_map: ∀ bs:List Bool,toBls (bs.map D.bl)=some bs
  | []=>rfl
  | b::bs=>by rw[List.map_cons,toBls,toBls_map bs];rfl
theorem all_L{o:Bool}{bs:List Bool}: dAll [.lst o (bs.map D.bl)]=.ok (.bl (bs.all id)):=by
  show(Res.of (toBls (bs.map D.bl))).bind _=_
  rw[toBls_map]
  rfl
def ordO(z:Str): Option Int:=if z.length=1 then some ((z.cps.getD 0 0:Nat):Int) else none
theorem ord_S{z:Str}{k:Int}(h:ordO z=some k): dOrd [.str z]=.ok (.int k):=by
  unfold ordO at h
  split at h
  · rename_i e
    cases h
    show Res.when (decide (z.length=1)) _=_
    rw[decide_eq_true e]
    rfl
  · cases h
def inSO(c z:Str): Option Bool:=match c.cps.toList with
  | [n]=>some (decide (n∈z.cps.toList))
  | _=>none
theorem in_S{c z:Str}{b:Bool}(h:inSO c z=some b): dIn (.str c) (.str z)=.ok (.bl b):=by
  unfold inSO at h
  unfold dIn
  dsimp only
  split at h
  · rename_i e
    cases h
    first | rfl | rw[e]
  · cases h
def mkV(d:Dat): Option V:=if h:d.dep≤48 then some ⟨d,h⟩ else none
theorem mkV_eq{d:Dat}{v:V}(h:mkV d=some v): d.toD=e_V v:=by
  unfold mkV at h
  split at h
  · cases h;rfl
  · cases h
theorem inj_V: ∀ a b:V,e_V a=e_V b→a=b:=fun a b h=>by
  have h1:=a.d.toPy
  have h2:=b.d.toPy
  unfold e_V at h
  rw[h] at h1
  rw[h1] at h2
  have:=Option.some.inj h2
  have e:PyData.eqv a.d.py b.d.py=true:=(Dat.eqv a.d b.d).mpr ?_
  · exact V.ext' ((Dat.eqv a.d b.d).mp e)
  · have q:PyData.eqv a.d.py a.d.py=true:=(Dat.eqv a.d a.d).mpr rfl
    have:PyData.eqv a.d.py b.d.py=true:=by rw[this] at q ⊢;first | exact q | (rw[← this];exact q)
    exact(Dat.eqv a.d b.d).mp this
end Y
namespace Y
open PySem E
structure KfX {κ:Type} (ek:κ→D) (kk:κ→List Int):Prop where
  d:∀ a,kDX (kk a)=ek a
  i:∀ a b,kk a=kk b→a=b
section
variable {κ α:Type} [DecidableEq κ] {ek:κ→D} {kk:κ→List Int} {e:α→D}
theorem KfX.t(f:KfX ek kk)(a:κ): keyX (ek a)=some (kk a):=by rw[← f.d,keyX_kDX]
theorem KfX.eq(f:KfX ek kk)(a b:κ): keyX (ek a)=some (kk b)↔a=b:=by
  rw[f.t]
  exact⟨fun h=>f.i _ _ (Option.some.inj h),fun h=>by rw[h]⟩
end
end Y
namespace Y
open PySem E
open PySem.W (alike alikeAll dataLt keyToksAll AllAlike Sortable dataLt_list dataLt_all_yes dataLt_all_no dataLt_int)
end Y
namespace Y
open PySem E
end Y
namespace Y
open PySem E
section
variable {α β S:Type} {enc:α→D} {eb:β→D} {ok:Mem→Prop} {vs:List Nat} {b:D→Mem→Res Mem} {tt:M Bool} {el:M D} {P:S→Pt} {H:S→List Ob}
end
end Y
namespace Y
open PySem E
section
variable {α R S:Type} {enc:α→D} {ok:Mem→Prop} {b:D→Mem→Res Mem} {body:MS} {P:S→Pt} {H:S→List Ob} {PR:R→Fl→Mem→Prop}
end
end Y
namespace Y
open PySem E
theorem YP.qBx{p:Pt}{h:List Ob}{q:MQ D}{k:Nat}(a:YT p h q (.loc k)): YP p h (rsQ q) (.bx k):=fun m s=>by
  unfold rsQ
  rw[a m s,Res.bind_ok]
def joinO(a:Str)(ys:List Str): Option Str:=if (ys.map (·.length)).sum+ys.length*a.length≤16777216 then some (Txt.join a ys) else none
theorem YT.join{p:Pt}{h:List Ob}{q1 q2:MQ D}{a z:Str}{o:Bool}{ys:List Str}(x:YT p h q1 (.str a))(y:YT p h q2 (.lst o (ys.map D.str)))(k:joinO a ys=some z): YT p h (mqJoin q1 q2) (.str z):=fun m s=>by
  unfold joinO at k
  split at k
  · rename_i c
    cases k
    unfold mqJoin
    rw[x m s,Res.bind_ok,y m s,Res.bind_ok]
    dsimp only
    rw[toStrs_map]
    show Res.when _ _=_
    rw[decide_eq_true c]
    rfl
  · cases k
variable {α:Type}
end Y
namespace Y
open PySem E
end Y
namespace Y
open PySem E
end Y
namespace Y
open PySem E
end Y
namespace Y
open PySem E
end Y
namespace Y
open PySem E
end Y
namespace Y
open PySem E
end Y
namespace Y
open PySem E
noncomputable def repLO{α:Type}(xs:List α)(k:Int): Option (List α):=gd (-(2 ^ 63)≤k∧k<2 ^ 63∧xs.length*k.toNat≤16777216) (some (List.replicate k.toNat xs).flatten)
theorem repLO_eq{α:Type}{xs:List α}{k:Int}(h:-(2 ^ 63)≤k∧k<2 ^ 63∧xs.length*k.toNat≤16777216): repLO xs k=some (List.replicate k.toNat xs).flatten:=gd_of h
theorem mulL_L{α:Type}{e:α→D}(pu:∀ x,(e x).pure=true){xs ys:List α}{k:Int}(h:repLO xs k=some ys): dMulL (.lst true (xs.map e)) (.int k)=.ok (.lst true (ys.map e)):=by
  obtain⟨⟨h1,h2,h3⟩,h⟩:=gd_some h
  cases h
  show Res.when (pureL (xs.map e)&&(decide (-(2 ^ 63)≤k)&&(decide (k<2 ^ 63)&&decide ((xs.map e).length*k.toNat≤sizeLine)))) (Res.ok (D.lst true (List.replicate k.toNat (xs.map e)).flatten))=_
  have e1:pureL (xs.map e)=true:=puM pu xs
  have e2:(List.replicate k.toNat (xs.map e)).flatten=((List.replicate k.toNat xs).flatten).map e:=by
    rw[List.map_flatten,List.map_replicate]
  rw[e1,decide_eq_true h1,decide_eq_true h2,List.length_map,decide_eq_true (show xs.length*k.toNat≤sizeLine by rw[sizeLine_eq];exact h3),e2]
  rfl
end Y
namespace Y
open PySem E
noncomputable def strIO(i:Int): Option Str:=gd (i.natAbs.log2<1920) (some (toString i))
theorem str_I{i:Int}{s:Str}(h:strIO i=some s): dStrI [.int i]=.ok (.str s):=by
  obtain⟨h1,h⟩:=gd_some h
  cases h
  show Res.when _ _=_
  rw[decide_eq_true h1]
  rfl
noncomputable def intSO(a:Str): Option Int:=gd (a.length≤640) (PySem.intText? a)
theorem int_S{a:Str}{i:Int}(h:intSO a=some i): dIntS [.str a]=.ok (.int i):=by
  obtain⟨h1,h⟩:=gd_some h
  show(Res.of (PySem.intText? a)).bind _=_
  rw[h]
  show Res.when _ _=_
  rw[decide_eq_true h1]
  rfl
theorem YM.join{p p':Pt}{h h':List Ob}{q1:MQ D}{x:M D}{a z:Str}{o:Bool}{ys:List Str}(b:YT p h q1 (.str a))(y:YM p h x (.lst o (ys.map D.str)) p' h')(k:joinO a ys=some z): YM p h (mJoin q1 x) (.str z) p' h':=fun m s=>by
  unfold joinO at k
  split at k
  · rename_i c
    cases k
    obtain⟨m1,e1,s1⟩:=y m s
    refine⟨m1,?_,s1⟩
    unfold mJoin
    rw[b m s,Res.bind_ok,e1,Res.bind_ok]
    dsimp only
    rw[toStrs_map]
    show Res.when _ _=_
    rw[decide_eq_true c]
    rfl
  · cases k
def rangeN(i j:Int): List Int:=(List.range (i - j).toNat).map fun(k:Nat)=>i - (k:Int)
theorem rangeDn_I(i j:Int): (rangeN i j).map D.int=rangeDn i (i - j).toNat:=by
  unfold rangeN rangeDn
  rw[List.map_map]
  rfl
theorem YI.r3{p p':Pt}{h h':List Ob}{ma:M (List E.Arg)}{as:List E.Arg}{j k:Int}(a:YA p h ma as p' h')(c:Ct p' as [.int j,.int k,.int (-1)])(l:-4611686018427387904≤j∧j<4611686018427387904)(l2:-4611686018427387904≤k∧k<4611686018427387904): YI p h (miR3 ma) ((rangeN j k).map D.int) (fun _=>True) p' h':=fun m s=>by
  obtain⟨m1,e1,s1⟩:=a m s
  refine⟨m1,?_,s1⟩
  unfold miR3
  rw[e1,Res.bind_ok]
  dsimp only
  rw[c.eq s1.e,Res.bind_ok,rangeDn_I]
  dsimp only
  rw[b62_ok l,b62_ok l2,decide_eq_true rfl]
  rfl
noncomputable def replO(y z x:Str): Option Str:=gd (x.length+(x.length+1)*z.length≤16777216) (some (Txt.replace x y z))
theorem rep_S{y z x w:Str}(h:replO y z x=some w): dRep y z (.str x)=.ok (.str w):=by
  obtain⟨h1,h⟩:=gd_some h
  cases h
  show Res.when _ _=_
  rw[decide_eq_true h1]
  rfl
end Y
namespace Y
open PySem E
end Y
namespace Y
open PySem E
open L2 (ixN atI)
inductive Xr (α:Type) where
  | ok (a:α)
  | ex (c:Nat) (l:Int)
def encX{α:Type}(e:α→D): Xr α→D
  | .ok a=>e a
  | .ex c l=>xD c l
def Xr.el{α β:Type}(f:Nat→Int→Option β)(g:α→Option β): Xr α→Option β
  | .ok a=>g a
  | .ex c l=>f c l
@[simp] theorem Xr.el_ok{α β:Type}(f:Nat→Int→Option β)(g:α→Option β)(a:α): Xr.el f g (.ok a)=g a:=rfl
@[simp] theorem Xr.el_ex{α β:Type}(f:Nat→Int→Option β)(g:α→Option β)(c:Nat)(l:Int): Xr.el f g (.ex c l)=f c l:=rfl
theorem xr_ok{α β:Type}{o:Xr α}{a:α}{f:Nat→Int→Option β}{g:α→Option β}{r:β}(h:o=.ok a)(k:Xr.el f g o=some r): g a=some r:=by subst h;exact k
theorem xr_ex{α β:Type}{o:Xr α}{c:Nat}{l:Int}{f:Nat→Int→Option β}{g:α→Option β}{r:β}(h:o=.ex c l)(k:Xr.el f g o=some r): f c l=some r:=by subst h;exact k
theorem deO{α:Type}{e:α→D}(n:∀ a,(e a).defd=true): ∀ x,(eO e x).defd=true
  | none=>rfl
  | some a=>n a
theorem nxO{α:Type}{e:α→D}(n:∀ a,(e a).xc=none): ∀ x,(eO e x).xc=none
  | none=>rfl
  | some a=>n a
section
variable {α:Type} {p p' p1 p2:Pt} {h h' h1 h2:List Ob} {d d' d1 d2:D} {x x1 x2:M D} {i:Nat} {g:D→D→Res D} {c:Nat} {l:Int} {ma:M (List E.Arg)} {as:List E.Arg} {ds:List D} {F:D→M D} {FA:List E.Arg→M D} {e:α→D} {o:Xr α} {v:α}
theorem YM.xok(a:YM p h x (encX e o) p' h')(k:o=.ok v): YM p h x (e v) p' h':=by subst k;exact a
theorem YM.xex(a:YM p h x (encX e o) p' h')(k:o=.ex c l): YM p h x (xD c l) p' h':=by subst k;exact a
theorem YM.hole: YM p h (mHole d) d p h:=fun m s=>⟨m,rfl,s⟩
theorem xA1(n:d.xc=none): xA [.val d]=none:=if_neg (by rw[xcs_of n];decide)
theorem YA.vX(a:YM p h x d p1 h1)(n:d.xc=none)(b:YA p1 h1 ma as p' h'): YA p h (maVX x ma) (.val d::as) p' h':=fun m s=>by
  obtain⟨m1,e1,s1⟩:=a m s
  obtain⟨m2,e2,s2⟩:=b m1 s1
  refine⟨m2,?_,s2⟩
  unfold maVX
  rw[e1,Res.bind_ok]
  show(if xcs d=true then _ else (ma m1).bind _)=_
  rw[xcs_of n,e2]
  rfl
theorem YA.vXe(a:YM p h x (xD c l) p1 h1): YA p h (maVX x ma) [.val (xD c l)] p1 h1:=fun m s=>by
  obtain⟨m1,e1,s1⟩:=a m s
  refine⟨m1,?_,s1⟩
  unfold maVX
  rw[e1]
  rfl
theorem YA.vL(a:YM p h x d p1 h1)(b:YA p1 h1 ma as p' h')(n:xA as=none): YA p h (maVL x ma) (.val d::as) p' h':=fun m s=>by
  obtain⟨m1,e1,s1⟩:=a m s
  obtain⟨m2,e2,s2⟩:=b m1 s1
  refine⟨m2,?_,s2⟩
  unfold maVL
  rw[e1,Res.bind_ok]
  show(ma m1).bind _=_
  rw[e2,Res.bind_ok]
  dsimp only
  rw[n]
theorem YA.vLe(a:YM p h x d p1 h1)(b:YA p1 h1 ma [.val (xD c l)] p' h'): YA p h (maVL x ma) [.val (xD c l)] p' h':=fun m s=>by
  obtain⟨m1,e1,s1⟩:=a m s
  obtain⟨m2,e2,s2⟩:=b m1 s1
  refine⟨m2,?_,s2⟩
  unfold maVL
  rw[e1,Res.bind_ok]
  show(ma m1).bind _=_
  rw[e2]
  rfl
theorem YM.thenA(a:YA p h ma as p1 h1)(n:xA as=none)(k:∀ m,Sx p1 h1 m→∃ m',FA as m=.ok (d',m')∧Sx p' h' m'): YM p h (mThenA ma FA) d' p' h':=fun m s=>by
  obtain⟨m1,e1,s1⟩:=a m s
  obtain⟨m2,e2,s2⟩:=k m1 s1
  refine⟨m2,?_,s2⟩
  unfold mThenA
  rw[e1,Res.bind_ok]
  dsimp only
  rw[n]
  exact e2
theorem YM.thenAe(a:YA p h ma [.val (xD c l)] p1 h1): YM p h (mThenA ma FA) (xD c l) p1 h1:=fun m s=>by
  obtain⟨m1,e1,s1⟩:=a m s
  refine⟨m1,?_,s1⟩
  unfold mThenA
  rw[e1]
  rfl
theorem YM.tupX(a:YA p h ma as p' h')(n:xA as=none)(v:vals as=.ok ds)(l:ds.length≤16777216): YM p h (mTupX ma) (.tup ds) p' h':=YM.thenA a n fun m s=>⟨m,by
  rw[v,Res.bind_ok,decide_eq_true (show ds.length≤sizeLine by rw[sizeLine_eq];exact l)]
  rfl,s⟩
theorem YM.tupXe(a:YA p h ma [.val (xD c l)] p' h'): YM p h (mTupX ma) (xD c l) p' h':=YM.thenAe a
variable {T:String} {gm:D→List D→Res (D×D)} {rs:MQ Pl} {pl:Pl} {d0 res:D}
end
section
variable {p p' p1 p2:Pt} {h h' h1 h2:List Ob} {m:Mem} {s s1 s2 rest:MS} {Q:Fl→Mem→Prop} {e:M D} {d:D} {b:D→Mem→Res Mem} {c:Nat} {l:Int} {F:D→MS}
theorem then_ok{m1:Mem}(e1:e m=.ok (d,m1))(n:d.xc=none): sThen e F m=F d m1:=by
  unfold sThen
  rw[e1,Res.bind_ok]
  show(if xcs d=true then _ else _)=_
  rw[xcs_of n]
  rfl
theorem run_thenE(hm:Sx p h m)(x:YM p h e (xD c l) p1 h1)(k:∀ m,Sx p1 h1 m→Q (.rt (xD c l)) m): Run (sSeq (sThen e F) rest) m Q:=by
  obtain⟨m1,e1,q1⟩:=x m hm
  refine⟨(.rt (xD c l),m1),?_,k m1 q1⟩
  unfold sSeq sThen
  rw[e1]
  rfl
theorem run_asgXe(hm:Sx p h m)(x:YM p h e (xD c l) p1 h1)(k:∀ m,Sx p1 h1 m→Q (.rt (xD c l)) m): Run (sSeq (sAsgX e b) rest) m Q:=run_thenE hm x k
theorem run_asgX(hm:Sx p h m)(x:YM p h e d p1 h1)(n:d.xc=none)(t:YG p1 h1 (b d) p2 h2)(k:∀ m,Sx p2 h2 m→Run rest m Q): Run (sSeq (sAsgX e b) rest) m Q:=by
  obtain⟨m1,e1,q1⟩:=x m hm
  obtain⟨m2,e2,q2⟩:=t m1 q1
  obtain⟨o,e3,q3⟩:=k m2 q2
  refine⟨o,?_,q3⟩
  rw[seq_eq (m1:=m2),e3]
  refine(then_ok e1 n).trans ?_
  rw[e2]
  rfl
theorem run_raise(q:Q (.rt (xD c l)) m): Run (sSeq (sRaise c l) rest) m Q:=⟨_,rfl,q⟩
def QT (i c:Nat) (d:D) (Q:Fl→Mem→Prop):Fl→Mem→Prop
  | .rt x,m=>match x.xc with
    | some y=>y=(c,0)∧i<m.env.length∧Q (.rt d) ⟨m.env.set i .und,m.hs⟩
    | none=>Q (.rt x) m
  | _,_=>False
variable {i:Nat} {x:D}
theorem QT.ok(n:x.xc=none)(q:Q (.rt x) m): QT i c d Q (.rt x) m:=by
  unfold QT
  dsimp only
  rw[n]
  exact q
theorem QT.ex(hm:Sx p h m)(b:Nat.blt i p.length=true)(k:∀ m,Sx (p.set i (some .und)) h m→Q (.rt d) m): QT i c d Q (.rt (xD c 0)) m :=
  ⟨rfl,by rw[hm.e.len];exact Nat.le_of_ble_eq_true b,k _ ⟨hm.e.set i .und,hm.h⟩⟩
theorem run_try(r:Run (sSeq s sPass) m (QT i c d Q)): Run (sSeq (sTry s i (kTold c d)) rest) m Q:=by
  obtain⟨⟨f,m1⟩,e,q⟩:=run_last r
  cases f with
  | nx=>cases q
  | bk=>cases q
  | ct=>cases q
  | rt v =>
    dsimp only[QT] at q
    cases hx:v.xc with
    | none =>
      rw[hx] at q
      refine⟨(.rt v,m1),?_,q⟩
      unfold sSeq sTry
      rw[e,Res.bind_ok]
      dsimp only
      rw[hx]
      rfl
    | some y =>
      rw[hx] at q
      obtain⟨rfl,q1,q2⟩:=q
      refine⟨(.rt d,⟨m1.env.set i .und,m1.hs⟩),?_,q2⟩
      unfold sSeq sTry
      rw[e,Res.bind_ok]
      dsimp only
      rw[hx]
      dsimp only
      rw[decide_eq_true q1]
      unfold kTold
      rw[Res.when_true,if_pos ⟨rfl,rfl⟩]
      rfl
end
end Y
namespace Gen
open PySem L2 E PySem.Spec PyProof.Rows
def topS(i:Nat): Stmt:=PySem.Challenge.pw_crosskeep_k15_malformed_lines.main.body.getD i (.Pass ⟨0,0,0,0⟩)
abbrev c_MOST_DEPTH: D:=.int 40
abbrev c_MOST_INTEGER: D:=.int 1000000000000000000
abbrev c_LOW_SIGNS: D:=.str " !\"#$"
abbrev c_HIGH_SIGNS: D:=.str "&'()*+,-./0123456789:;<=>?@ABCDEFGHIJKLMNOPQRSTUVWXYZ[\\]^_`abcdefghijklmnopqrstuvwxyz{|}~"
abbrev c_WORD_SIGNS: D:=.int 12
abbrev c_MOST_FIGURES: D:=.int 19
abbrev c_LETTERS: D:=.str "abcdefghijklmnopqrstuvwxyz"
abbrev c_DIGITS: D:=.str "0123456789"
section
variable {P:Program} {w:World} {K:PySem.W.Frag} {mg:Str→Option Value} {base:Heap} {CT:Nat→Addr}
abbrev s_sign_of: Stmt:=topS 10
abbrev N_sign_of: List Str:=["code"]
theorem sc_sign_of: FnScope N_sign_of ["code"] (defScope s_sign_of):=⟨rfl,rfl,rfl,by decide +kernel,rfl,by decide +kernel,by decide +kernel⟩
noncomputable def m_sign_of: CallM:=mDef 1 1 [0] (
  sSeq (sIf (mtB (mP (mqChain dLeT dLeT (mqC (.int 32)) (mqVar 0) (mqC (.int 36))))) (sRt (mP (mqIx (mqC c_LOW_SIGNS) (mqOp2 dSub (mqVar 0) (mqC (.int 32)))))) (sPass))
    (sSeq (sIf (mtB (mP (mqChain dLeT dLeT (mqC (.int 38)) (mqVar 0) (mqC (.int 126))))) (sRt (mP (mqIx (mqC c_HIGH_SIGNS) (mqOp2 dSub (mqVar 0) (mqC (.int 38)))))) (sPass))
    (sRt (mP (mqC .non)))))
theorem ok_sign_of{u_HIGH_SIGNS:Value}(g_HIGH_SIGNS:mg "HIGH_SIGNS"=some u_HIGH_SIGNS)(k_HIGH_SIGNS:KD K u_HIGH_SIGNS c_HIGH_SIGNS){u_LOW_SIGNS:Value}(g_LOW_SIGNS:mg "LOW_SIGNS"=some u_LOW_SIGNS)(k_LOW_SIGNS:KD K u_LOW_SIGNS c_LOW_SIGNS){f:Addr}{fd:FuncData}(F:Fun K "sign_of" "sign_of" s_sign_of f fd):
    FnOk P w K mg base CX0 1 f fd ["code"] (spM K CT 1 m_sign_of):=by
  have nd:=sc_sign_of.nd
  refine fun_ok F sc_sign_of fun cdv A outer s H wx hr=>?_
  exact mss_cons (mst_if (mt_chain (od_leT hr.units0) (od_leT hr.units0) (meq_int) (meq_var (pv 0)) (meq_int)) (mss_one (mst_rt (me_p (meq_ix hr.units (meq_glob (by rfl) g_LOW_SIGNS k_LOW_SIGNS) (meq_bin od_sub (meq_var (pv 0)) (meq_int)) (fun _ _=>rfl))))) (mss_nil))
    (mss_cons (mst_if (mt_chain (od_leT hr.units0) (od_leT hr.units0) (meq_int) (meq_var (pv 0)) (meq_int)) (mss_one (mst_rt (me_p (meq_ix hr.units (meq_glob (by rfl) g_HIGH_SIGNS k_HIGH_SIGNS) (meq_bin od_sub (meq_var (pv 0)) (meq_int)) (fun _ _=>rfl))))) (mss_nil))
    (mss_one (mst_rt (me_p (meq_non)))))
variable (P w K mg base CT) in
abbrev T_sign_of(f:Addr)(d:FuncData): Prop:=FnOk P w K mg base CX0 1 f d ["code"] (spM K CT 1 m_sign_of)∧Binds K d ["code"] []
abbrev s_is_word: Stmt:=topS 16
abbrev N_is_word: List Str:=["text", "sign"]
theorem sc_is_word: FnScope N_is_word ["text"] (defScope s_is_word):=⟨rfl,rfl,rfl,by decide +kernel,rfl,by decide +kernel,by decide +kernel⟩
noncomputable def m_is_word: CallM:=mDef 1 2 [0] (
  sRt (mAnd (mP (mqChain dLeT dLeT (mqC (.int 1)) (mqCB dLen (mqCons (mqVar 0) (mqNil))) (mqC c_WORD_SIGNS))) (mCB dAll (maV (mLc (miT (mVar 0)) [1] (bName 1) (mtYes) (mP (mqOp2 dIn (mqVar 1) (mqC c_LETTERS)))) (maNil)))))
theorem ok_is_word{u_LETTERS:Value}(g_LETTERS:mg "LETTERS"=some u_LETTERS)(k_LETTERS:KD K u_LETTERS c_LETTERS){u_WORD_SIGNS:Value}(g_WORD_SIGNS:mg "WORD_SIGNS"=some u_WORD_SIGNS)(k_WORD_SIGNS:KD K u_WORD_SIGNS c_WORD_SIGNS)(z_all:mg "all"=none)(z_len:mg "len"=none){f:Addr}{fd:FuncData}(F:Fun K "is_word" "is_word" s_is_word f fd):
    FnOk P w K mg base CX0 1 f fd ["text"] (spM K CT 1 m_is_word):=by
  have nd:=sc_is_word.nd
  refine fun_ok F sc_is_word fun cdv A outer s H wx hr=>?_
  exact mss_one (mst_rt (me_and (me_p (meq_chain (od_leT hr.units0) (od_leT hr.units0) (meq_int) (meq_cb cd_len (by rfl) z_len (by decide +kernel) (maq_cons (meq_var (pv 0)) (maq_nil))) (meq_glob (by rfl) g_WORD_SIGNS k_WORD_SIGNS))) (me_one (me_cb (cd_all rfl) (by rfl) z_all (by decide +kernel) (ma_v (me_lc rfl nd (own:=[("sign",1)]) (pi:=[]) (pin:=[0]) (mi_t (me_var (pv 0))) (blkOk_by (own:=[("sign",1)]) (N:=N_is_word) (sc:=defScope s_is_word) (by decide +kernel)) (fun _ _ _ _ _=>mg_name (i:=1) nd rfl (Or.inl rfl) (by decide)) (fun _ _ _ _ _=>mts_nil) (fun _ _ _ _ _=>me_p (meq_cmp (od_in (room65 hr)) (meq_var (pv 1)) (meq_glob (by rfl) g_LETTERS k_LETTERS) (by rfl))) (by decide) (by decide) (by show ∀ i,i<2→i ∉ [1]→i∈[0];decide)) (ma_nil))))))
variable (P w K mg base CT) in
abbrev T_is_word(f:Addr)(d:FuncData): Prop:=FnOk P w K mg base CX0 1 f d ["text"] (spM K CT 1 m_is_word)∧Binds K d ["text"] []
abbrev s_end_of_number: Stmt:=topS 18
abbrev N_end_of_number: List Str:=["line", "at"]
theorem sc_end_of_number: FnScope N_end_of_number ["line", "at"] (defScope s_end_of_number):=⟨rfl,rfl,rfl,by decide +kernel,rfl,by decide +kernel,by decide +kernel⟩
noncomputable def m_end_of_number: CallM:=mDef 2 2 [0] (
  sSeq (whileM (mtAnd (mtB (mOpQ dLtT (mqVar 1) (mqCB dLen (mqCons (mqVar 0) (mqNil))))) (mtB (mOpQ dIn (mqIx (mqVar 0) (mqVar 1)) (mqC c_DIGITS)))) (sAug 1 dAddI (mP (mqC (.int 1)))) fuel)
    (sRt (mVar 1)))
theorem ok_end_of_number{u_DIGITS:Value}(g_DIGITS:mg "DIGITS"=some u_DIGITS)(k_DIGITS:KD K u_DIGITS c_DIGITS)(z_len:mg "len"=none){f:Addr}{fd:FuncData}(F:Fun K "end_of_number" "end_of_number" s_end_of_number f fd):
    FnOk P w K mg base CX0 1 f fd ["line", "at"] (spM K CT 2 m_end_of_number):=by
  have nd:=sc_end_of_number.nd
  refine fun_ok F sc_end_of_number fun cdv A outer s H wx hr=>?_
  exact mss_cons (mst_while fuel PassesOwn.never (mt_w (mw_and (mt_cmpQ (od_ltT hr.units0) (meq_var (pv 1)) (meq_cb cd_len (by rfl) z_len (by decide +kernel) (maq_cons (meq_var (pv 0)) (maq_nil))) (nomark _)) (mw_and1 (mt_cmpQ (od_in (room65 hr)) (meq_ix hr.units (meq_var (pv 0)) (meq_var (pv 1)) (fun _ _=>rfl)) (meq_glob (by rfl) g_DIGITS k_DIGITS) (by rfl))))) (mss_one (mst_aug (i:=1) ipd_add nd rfl (Or.inl rfl) (by decide) (me_p (meq_int)))))
    (mss_one (mst_rt (me_var (pv 1))))
variable (P w K mg base CT) in
abbrev T_end_of_number(f:Addr)(d:FuncData): Prop:=FnOk P w K mg base CX0 1 f d ["line", "at"] (spM K CT 2 m_end_of_number)∧Binds K d ["line", "at"] []
abbrev s_law_row: Stmt:=topS 22
abbrev N_law_row: List Str:=["_law_script", "_law_k", "_law_cell", "_law_first", "_law_second"]
theorem sc_law_row: FnScope N_law_row ["_law_script", "_law_k"] (defScope s_law_row):=⟨rfl,rfl,rfl,by decide +kernel,rfl,by decide +kernel,by decide +kernel⟩
noncomputable def m_law_row: CallM:=mDef 2 5 [0,1] (
  sSeq (sAsg (mP (mqC (.int 0))) (bName 2))
    (sSeq (sIf (mtB (mOpQ dGtT (mqCB dLen (mqCons (mqVar 0) (mqNil))) (mqC (.int 0)))) (sAsg (mP (mqIx (mqVar 0) (mqOp2 dMod (mqCB dInt (mqCons (mqVar 1) (mqNil))) (mqCB dLen (mqCons (mqVar 0) (mqNil)))))) (bName 2)) (sPass))
    (sSeq (sIf (mtB (mOpQ dLtT (mqVar 2) (mqC (.int 0)))) (sAsg (mOpQ dSub (mqC (.int 1)) (mqOp2 dMul (mqC (.int 2)) (mqVar 2))) (bName 2)) (sPass))
    (sSeq (sIf (mtAnd (mtB (mOpQ dGeT (mqVar 2) (mqOp2 dPow (mqC (.int 10)) (mqC (.int 9))))) (mtB (mOpQ dLtT (mqVar 1) (mqCB dLen (mqCons (mqVar 0) (mqNil)))))) (sRt (mMv 2)) (sPass))
    (sSeq (sAsg (mOpQ dMod (mqCB dInt (mqCons (mqOp2 dAdd (mqOp2 dAdd (mqOp2 dMul (mqVar 2) (mqC (.int 48271))) (mqOp2 dMul (mqOp2 dAdd (mqVar 1) (mqC (.int 1))) (mqC (.int 69621)))) (mqCB dLen (mqCons (mqVar 0) (mqNil)))) (mqNil))) (mqC (.int 2147483647))) (bName 3))
    (sSeq (sAsg (mOpQ dMod (mqCB dInt (mqCons (mqOp2 dAdd (mqOp2 dAdd (mqOp2 dMul (mqVar 3) (mqVar 3)) (mqOp2 dMul (mqVar 2) (mqC (.int 16807)))) (mqVar 1)) (mqNil))) (mqC (.int 2147483629))) (bName 4))
    (sRt (mOpQ dAdd (mqOp2 dMul (mqVar 4) (mqC (.int 2147483647))) (mqOp2 dMod (mqCB dInt (mqCons (mqOp2 dMul (mqVar 3) (mqC (.int 40692))) (mqNil))) (mqC (.int 2147483399)))))))))))
theorem ok_law_row(z_int:mg "int"=none)(z_len:mg "len"=none){f:Addr}{fd:FuncData}(F:Fun K "_law_row" "_law_row" s_law_row f fd):
    FnOk P w K mg base CX0 1 f fd ["_law_script", "_law_k"] (spM K CT 2 m_law_row):=by
  have nd:=sc_law_row.nd
  refine fun_ok F sc_law_row fun cdv A outer s H wx hr=>?_
  exact mss_cons (mst_set (i:=2) nd rfl (Or.inl rfl) (by decide) (me_p (meq_int)))
    (mss_cons (mst_if (mt_cmpQ (od_gtT hr.units0) (meq_cb cd_len (by rfl) z_len (by decide +kernel) (maq_cons (meq_var (pv 0)) (maq_nil))) (meq_int) (nomark _)) (mss_one (mst_set (i:=2) nd rfl (Or.inl rfl) (by decide) (me_p (meq_ix hr.units (meq_var (pv 0)) (meq_bin od_mod (meq_cty cd_int (by rfl) z_int (by decide +kernel) (maq_cons (meq_var (pv 1)) (maq_nil))) (meq_cb cd_len (by rfl) z_len (by decide +kernel) (maq_cons (meq_var (pv 0)) (maq_nil)))) (fun _ _=>rfl))))) (mss_nil))
    (mss_cons (mst_if (mt_cmpQ (od_ltT hr.units0) (meq_var (pv 2)) (meq_int) (nomark _)) (mss_one (mst_set (i:=2) nd rfl (Or.inl rfl) (by decide) (me_binQ od_sub (meq_int) (meq_bin od_mul (meq_int) (meq_var (pv 2)))))) (mss_nil))
    (mss_cons (mst_if (mt_w (mw_and (mt_cmpQ (od_geT hr.units0) (meq_var (pv 2)) (meq_bin od_pow (meq_int) (meq_int)) (nomark _)) (mw_and1 (mt_cmpQ (od_ltT hr.units0) (meq_var (pv 1)) (meq_cb cd_len (by rfl) z_len (by decide +kernel) (maq_cons (meq_var (pv 0)) (maq_nil))) (nomark _))))) (mss_one (mst_rt (me_mv (pv 2)))) (mss_nil))
    (mss_cons (mst_set (i:=3) nd rfl (Or.inl rfl) (by decide) (me_binQ od_mod (meq_cty cd_int (by rfl) z_int (by decide +kernel) (maq_cons (meq_bin od_add (meq_bin od_add (meq_bin od_mul (meq_var (pv 2)) (meq_int)) (meq_bin od_mul (meq_bin od_add (meq_var (pv 1)) (meq_int)) (meq_int))) (meq_cb cd_len (by rfl) z_len (by decide +kernel) (maq_cons (meq_var (pv 0)) (maq_nil)))) (maq_nil))) (meq_int)))
    (mss_cons (mst_set (i:=4) nd rfl (Or.inl rfl) (by decide) (me_binQ od_mod (meq_cty cd_int (by rfl) z_int (by decide +kernel) (maq_cons (meq_bin od_add (meq_bin od_add (meq_bin od_mul (meq_var (pv 3)) (meq_var (pv 3))) (meq_bin od_mul (meq_var (pv 2)) (meq_int))) (meq_var (pv 1))) (maq_nil))) (meq_int)))
    (mss_one (mst_rt (me_binQ od_add (meq_bin od_mul (meq_var (pv 4)) (meq_int)) (meq_bin od_mod (meq_cty cd_int (by rfl) z_int (by decide +kernel) (maq_cons (meq_bin od_mul (meq_var (pv 3)) (meq_int)) (maq_nil))) (meq_int))))))))))
variable (P w K mg base CT) in
abbrev T_law_row(f:Addr)(d:FuncData): Prop:=FnOk P w K mg base CX0 1 f d ["_law_script", "_law_k"] (spM K CT 2 m_law_row)∧Binds K d ["_law_script", "_law_k"] []
abbrev s_law_sign: Stmt:=topS 23
abbrev N_law_sign: List Str:=["_law_number", "_law_signs"]
theorem sc_law_sign: FnScope N_law_sign ["_law_number"] (defScope s_law_sign):=⟨rfl,rfl,rfl,by decide +kernel,rfl,by decide +kernel,by decide +kernel⟩
noncomputable def m_law_sign: CallM:=mDef 1 2 [0] (
  sSeq (sAsg (mP (mqC (.str " !\"#$&'()*+,-./0123456789:;<=>?@ABCDEFGHIJKLMNOPQRSTUVWXYZ[\\]^_`abcdefghijklmnopqrstuvwxyz{|}~"))) (bName 1))
    (sRt (mP (mqIx (mqVar 1) (mqOp2 dMod (mqCB dInt (mqCons (mqVar 0) (mqNil))) (mqC (.int 94)))))))
theorem ok_law_sign(z_int:mg "int"=none){f:Addr}{fd:FuncData}(F:Fun K "_law_sign" "_law_sign" s_law_sign f fd):
    FnOk P w K mg base CX0 1 f fd ["_law_number"] (spM K CT 1 m_law_sign):=by
  have nd:=sc_law_sign.nd
  refine fun_ok F sc_law_sign fun cdv A outer s H wx hr=>?_
  exact mss_cons (mst_set (i:=1) nd rfl (Or.inl rfl) (by decide) (me_p (meq_str)))
    (mss_one (mst_rt (me_p (meq_ix hr.units (meq_var (pv 1)) (meq_bin od_mod (meq_cty cd_int (by rfl) z_int (by decide +kernel) (maq_cons (meq_var (pv 0)) (maq_nil))) (meq_int)) (fun _ _=>rfl)))))
variable (P w K mg base CT) in
abbrev T_law_sign(f:Addr)(d:FuncData): Prop:=FnOk P w K mg base CX0 1 f d ["_law_number"] (spM K CT 1 m_law_sign)∧Binds K d ["_law_number"] []
abbrev s_law_take: Stmt:=topS 25
abbrev N_law_take: List Str:=["_law_box", "_law_size", "_law_digit"]
theorem sc_law_take: FnScope N_law_take ["_law_box", "_law_size"] (defScope s_law_take):=⟨rfl,rfl,rfl,by decide +kernel,rfl,by decide +kernel,by decide +kernel⟩
noncomputable def m_law_take: CallM:=mDef 2 3 [0,1] (
  sSeq (sAsg (mOpQ dMod (mqCB dInt (mqCons (mqIx (mqVar 0) (mqC (.int 0))) (mqNil))) (mqVar 1)) (bName 2))
    (sSeq (sAsg (mOpQ dFdiv (mqIx (mqVar 0) (mqC (.int 0))) (mqVar 1)) (bSub 0 (mqC (.int 0))))
    (sRt (mMv 2))))
theorem ok_law_take(z_int:mg "int"=none){f:Addr}{fd:FuncData}(F:Fun K "_law_take" "_law_take" s_law_take f fd):
    FnOk P w K mg base CX0 1 f fd ["_law_box", "_law_size"] (spM K CT 2 m_law_take):=by
  have nd:=sc_law_take.nd
  refine fun_ok F sc_law_take fun cdv A outer s H wx hr=>?_
  exact mss_cons (mst_set (i:=2) nd rfl (Or.inl rfl) (by decide) (me_binQ od_mod (meq_cty cd_int (by rfl) z_int (by decide +kernel) (maq_cons (meq_ix hr.units (meq_var (pv 0)) (meq_int) (fun _ _=>rfl)) (maq_nil))) (meq_var (pv 1))))
    (mss_cons (mst_asg (me_binQ od_fdiv (meq_ix hr.units (meq_var (pv 0)) (meq_int) (fun _ _=>rfl)) (meq_var (pv 1))) (mg_sub (pv 0) (meq_int)))
    (mss_one (mst_rt (me_mv (pv 2)))))
variable (P w K mg base CT) in
abbrev T_law_take(f:Addr)(d:FuncData): Prop:=FnOk P w K mg base CX0 1 f d ["_law_box", "_law_size"] (spM K CT 2 m_law_take)∧Binds K d ["_law_box", "_law_size"] []
abbrev s_law_word: Stmt:=topS 32
abbrev N_law_word: List Str:=["_law_number", "_law_count", "_law_letters", "_law_word_here", "_law_rest", "_law_k"]
theorem sc_law_word: FnScope N_law_word ["_law_number", "_law_count"] (defScope s_law_word):=⟨rfl,rfl,rfl,by decide +kernel,rfl,by decide +kernel,by decide +kernel⟩
noncomputable def m_law_word: CallM:=mDef 2 6 [0,1] (
  sSeq (sAsg (mP (mqC (.str "abcdefghijklmnopqrstuvwxyz"))) (bName 2))
    (sSeq (sAsg (mP (mqC (.str ""))) (bName 3))
    (sSeq (sAsg (mP (mqCB dInt (mqCons (mqVar 0) (mqNil)))) (bName 4))
    (sSeq (sFor (miR1 (maN 1 (maNil))) (bName 5) (sSeq (sAsg (mOpQ dAdd (mqVar 3) (mqIx (mqVar 2) (mqOp2 dMod (mqCB dInt (mqCons (mqVar 4) (mqNil))) (mqC (.int 26))))) (bName 3))
      (sAsg (mOpQ dAdd (mqOp2 dFdiv (mqVar 4) (mqC (.int 26))) (mqVar 5)) (bName 4))))
    (sRt (mMv 3))))))
theorem ok_law_word(z_int:mg "int"=none)(z_range:mg "range"=none){f:Addr}{fd:FuncData}(F:Fun K "_law_word" "_law_word" s_law_word f fd):
    FnOk P w K mg base CX0 1 f fd ["_law_number", "_law_count"] (spM K CT 2 m_law_word):=by
  have nd:=sc_law_word.nd
  refine fun_ok F sc_law_word fun cdv A outer s H wx hr=>?_
  exact mss_cons (mst_set (i:=2) nd rfl (Or.inl rfl) (by decide) (me_p (meq_str)))
    (mss_cons (mst_set (i:=3) nd rfl (Or.inl rfl) (by decide) (me_p (meq_str)))
    (mss_cons (mst_set (i:=4) nd rfl (Or.inl rfl) (by decide) (me_p (meq_cty cd_int (by rfl) z_int (by decide +kernel) (maq_cons (meq_var (pv 0)) (maq_nil)))))
    (mss_cons (mst_for (pi:=[]) PassesOwn.never rfl (mi_r1 (by rfl) z_range (ma_n (pv 1) (ma_nil))) (mg_name (i:=5) nd rfl (Or.inl rfl) (by decide)) (mss_cons (mst_set (i:=3) nd rfl (Or.inl rfl) (by decide) (me_binQ od_add (meq_var (pv 3)) (meq_ix hr.units (meq_var (pv 2)) (meq_bin od_mod (meq_cty cd_int (by rfl) z_int (by decide +kernel) (maq_cons (meq_var (pv 4)) (maq_nil))) (meq_int)) (fun _ _=>rfl))))
      (mss_one (mst_set (i:=4) nd rfl (Or.inl rfl) (by decide) (me_binQ od_add (meq_bin od_fdiv (meq_var (pv 4)) (meq_int)) (meq_var (pv 5)))))))
    (mss_one (mst_rt (me_mv (pv 3)))))))
variable (P w K mg base CT) in
abbrev T_law_word(f:Addr)(d:FuncData): Prop:=FnOk P w K mg base CX0 1 f d ["_law_number", "_law_count"] (spM K CT 2 m_law_word)∧Binds K d ["_law_number", "_law_count"] []
abbrev s_law_text_item: Stmt:=topS 34
abbrev N_law_text_item: List Str:=["_law_line_here", "_law_at", "_law_text_here", "_law_k", "_law_code"]
theorem sc_law_text_item: FnScope N_law_text_item ["_law_line_here", "_law_at"] (defScope s_law_text_item):=⟨rfl,rfl,rfl,by decide +kernel,rfl,by decide +kernel,by decide +kernel⟩
noncomputable def m_law_text_item: CallM:=mDef 2 5 [0] (
  sSeq (sAsg (mP (mqC (.str ""))) (bName 2))
    (sSeq (sFor (miR1 (maQ (mqCons (mqCB dLen (mqCons (mqVar 0) (mqNil))) (mqNil)))) (bName 3) (sSeq (sIf (mtB (mOpQ dGeT (mqVar 1) (mqCB dLen (mqCons (mqVar 0) (mqNil))))) (sRt (mP (mqC .non))) (sPass))
      (sSeq (sIf (mtB (mOpQ dEq (mqIx (mqVar 0) (mqVar 1)) (mqC (.str "\"")))) (sSeq (sIf (mtB (mOp2 dNe (mSl (mB (mqVar 0)) (mqSome (mqOp2 dAdd (mqVar 1) (mqC (.int 1)))) (mqSome (mqOp2 dAdd (mqVar 1) (mqC (.int 2))))) (mB (mqC (.str "\""))))) (sRt (mLst (maV (mMv 2) (maV (mOpQ dAdd (mqVar 1) (mqC (.int 1))) (maNil))))) (sPass))
        (sAsg (mOpQ dAdd (mqVar 1) (mqC (.int 1))) (bName 1))) (sPass))
      (sSeq (sAsg (mP (mqCB dOrd (mqCons (mqIx (mqVar 0) (mqVar 1)) (mqNil)))) (bName 4))
      (sSeq (sIf (mtOr (mtB (mOpQ dLtT (mqVar 4) (mqC (.int 32)))) (mtOr (mtB (mOpQ dGtT (mqVar 4) (mqC (.int 126)))) (mtB (mOpQ dEq (mqVar 4) (mqC (.int 37)))))) (sRt (mP (mqC .non))) (sPass))
      (sSeq (sAsg (mOpQ dAdd (mqVar 2) (mqIx (mqVar 0) (mqVar 1))) (bName 2))
      (sAsg (mOpQ dAdd (mqVar 1) (mqC (.int 1))) (bName 1))))))))
    (sRt (mP (mqC .non)))))
theorem ok_law_text_item (z_len:mg "len"=none) (z_ord:mg "ord"=none) (z_range:mg "range"=none) {f:Addr} {fd:FuncData} (F:Fun K "_law_text_item" "_law_text_item" s_law_text_item f fd) :
    FnOk P w K mg base CX0 1 f fd ["_law_line_here", "_law_at"] (spM K CT 2 m_law_text_item):=by
  have nd:=sc_law_text_item.nd
  refine fun_ok F sc_law_text_item fun cdv A outer s H wx hr=>?_
  exact mss_cons (mst_set (i:=2) nd rfl (Or.inl rfl) (by decide) (me_p (meq_str)))
    (mss_cons (mst_for (pi:=[]) PassesOwn.never rfl (mi_r1 (by rfl) z_range (ma_q (maq_cons (meq_cb cd_len (by rfl) z_len (by decide +kernel) (maq_cons (meq_var (pv 0)) (maq_nil))) (maq_nil)))) (mg_name (i:=3) nd rfl (Or.inl rfl) (by decide)) (mss_cons (mst_if (mt_cmpQ (od_geT hr.units0) (meq_var (pv 1)) (meq_cb cd_len (by rfl) z_len (by decide +kernel) (maq_cons (meq_var (pv 0)) (maq_nil))) (nomark _)) (mss_one (mst_rt (me_p (meq_non)))) (mss_nil))
      (mss_cons (mst_if (mt_cmpQ (od_eq hr.units) (meq_ix hr.units (meq_var (pv 0)) (meq_var (pv 1)) (fun _ _=>rfl)) (meq_str) (nomark _)) (mss_cons (mst_if (mt_cmp (od_ne hr.units) (me_sl (meb_q (meq_var (pv 0))) (mo_some (meq_bin od_add (meq_var (pv 1)) (meq_int))) (mo_some (meq_bin od_add (meq_var (pv 1)) (meq_int)))) (meb_q (meq_str)) (nomark _)) (mss_one (mst_rt (me_lst (ma_v (me_mv (pv 2)) (ma_v (me_binQ od_add (meq_var (pv 1)) (meq_int)) (ma_nil)))))) (mss_nil))
        (mss_one (mst_set (i:=1) nd rfl (Or.inl rfl) (by decide) (me_binQ od_add (meq_var (pv 1)) (meq_int))))) (mss_nil))
      (mss_cons (mst_set (i:=4) nd rfl (Or.inl rfl) (by decide) (me_p (meq_cb cd_ord (by rfl) z_ord (by decide +kernel) (maq_cons (meq_ix hr.units (meq_var (pv 0)) (meq_var (pv 1)) (fun _ _=>rfl)) (maq_nil)))))
      (mss_cons (mst_if (mt_w (mw_or (mt_cmpQ (od_ltT hr.units0) (meq_var (pv 4)) (meq_int) (nomark _)) (mw_or (mt_cmpQ (od_gtT hr.units0) (meq_var (pv 4)) (meq_int) (nomark _)) (mw_or1 (mt_cmpQ (od_eq hr.units) (meq_var (pv 4)) (meq_int) (nomark _)))))) (mss_one (mst_rt (me_p (meq_non)))) (mss_nil))
      (mss_cons (mst_set (i:=2) nd rfl (Or.inl rfl) (by decide) (me_binQ od_add (meq_var (pv 2)) (meq_ix hr.units (meq_var (pv 0)) (meq_var (pv 1)) (fun _ _=>rfl))))
      (mss_one (mst_set (i:=1) nd rfl (Or.inl rfl) (by decide) (me_binQ od_add (meq_var (pv 1)) (meq_int))))))))))
    (mss_one (mst_rt (me_p (meq_non)))))
variable (P w K mg base CT) in
abbrev T_law_text_item(f:Addr)(d:FuncData): Prop:=FnOk P w K mg base CX0 1 f d ["_law_line_here", "_law_at"] (spM K CT 2 m_law_text_item)∧Binds K d ["_law_line_here", "_law_at"] []
abbrev s_law_number_item: Stmt:=topS 35
abbrev N_law_number_item: List Str:=["_law_line_here", "_law_at", "_law_sign_here", "_law_start", "_law_k"]
theorem sc_law_number_item: FnScope N_law_number_item ["_law_line_here", "_law_at"] (defScope s_law_number_item):=⟨rfl,rfl,rfl,by decide +kernel,rfl,by decide +kernel,by decide +kernel⟩
noncomputable def m_law_number_item: CallM:=mDef 2 5 [0] (
  sSeq (sAsg (mP (mqC (.int 1))) (bName 2))
    (sSeq (sIf (mtB (mOpQ dEq (mqIx (mqVar 0) (mqVar 1)) (mqC (.str "-")))) (sSeq (sAsg (mP (mqOp1 dNeg (mqC (.int 1)))) (bName 2))
      (sAsg (mOpQ dAdd (mqVar 1) (mqC (.int 1))) (bName 1))) (sPass))
    (sSeq (sAsg (mVar 1) (bName 3))
    (sSeq (sFor (miR1 (maQ (mqCons (mqCB dLen (mqCons (mqVar 0) (mqNil))) (mqNil)))) (bName 4) (sIf (mtAnd (mtB (mOpQ dLtT (mqVar 1) (mqCB dLen (mqCons (mqVar 0) (mqNil))))) (mtB (mOpQ dIn (mqIx (mqVar 0) (mqVar 1)) (mqC (.str "0123456789"))))) (sAsg (mOpQ dAdd (mqVar 1) (mqC (.int 1))) (bName 1)) (sPass)))
    (sSeq (sIf (mtB (mOpQ dEq (mqVar 1) (mqVar 3))) (sSeq (sIf (mtB (mOpQ dEq (mqVar 2) (mqC (.int 1)))) (sRt (mP (mqC .non))) (sPass))
      (sRt (mLst (maV (mP (mqC .non)) (maV (mVar 1) (maNil)))))) (sPass))
    (sSeq (sIf (mtOr (mtB (mOpQ dGtT (mqOp2 dSub (mqVar 1) (mqVar 3)) (mqC (.int 19)))) (mtOr (mtAnd (mtB (mOpQ dEq (mqIx (mqVar 0) (mqVar 3)) (mqC (.str "0")))) (mtOr (mtB (mOpQ dEq (mqVar 2) (mqOp1 dNeg (mqC (.int 1))))) (mtB (mOpQ dGtT (mqOp2 dSub (mqVar 1) (mqVar 3)) (mqC (.int 1)))))) (mtB (mOp2 dGtT (mCB dIntS (maV (mSl (mB (mqVar 0)) (mqSome (mqVar 3)) (mqSome (mqVar 1))) (maNil))) (mB (mqOp2 dPow (mqC (.int 10)) (mqC (.int 18)))))))) (sRt (mP (mqC .non))) (sPass))
    (sRt (mLst (maV (mFz (mOpN dMul 2 (mCB dIntS (maV (mSl (mB (mqVar 0)) (mqSome (mqVar 3)) (mqSome (mqVar 1))) (maNil))))) (maV (mVar 1) (maNil)))))))))))
theorem ok_law_number_item(z_int:mg "int"=none)(z_len:mg "len"=none)(z_range:mg "range"=none){f:Addr}{fd:FuncData}(F:Fun K "_law_number_item" "_law_number_item" s_law_number_item f fd):
    FnOk P w K mg base CX0 1 f fd ["_law_line_here", "_law_at"] (spM K CT 2 m_law_number_item):=by
  have nd:=sc_law_number_item.nd
  refine fun_ok F sc_law_number_item fun cdv A outer s H wx hr=>?_
  exact mss_cons (mst_set (i:=2) nd rfl (Or.inl rfl) (by decide) (me_p (meq_int)))
    (mss_cons (mst_if (mt_cmpQ (od_eq hr.units) (meq_ix hr.units (meq_var (pv 0)) (meq_var (pv 1)) (fun _ _=>rfl)) (meq_str) (nomark _)) (mss_cons (mst_set (i:=2) nd rfl (Or.inl rfl) (by decide) (me_p (meq_un ud_neg (meq_int))))
      (mss_one (mst_set (i:=1) nd rfl (Or.inl rfl) (by decide) (me_binQ od_add (meq_var (pv 1)) (meq_int))))) (mss_nil))
    (mss_cons (mst_set (i:=3) nd rfl (Or.inl rfl) (by decide) (me_var (pv 1)))
    (mss_cons (mst_for (pi:=[]) PassesOwn.never rfl (mi_r1 (by rfl) z_range (ma_q (maq_cons (meq_cb cd_len (by rfl) z_len (by decide +kernel) (maq_cons (meq_var (pv 0)) (maq_nil))) (maq_nil)))) (mg_name (i:=4) nd rfl (Or.inl rfl) (by decide)) (mss_one (mst_if (mt_w (mw_and (mt_cmpQ (od_ltT hr.units0) (meq_var (pv 1)) (meq_cb cd_len (by rfl) z_len (by decide +kernel) (maq_cons (meq_var (pv 0)) (maq_nil))) (nomark _)) (mw_and1 (mt_cmpQ (od_in (room65 hr)) (meq_ix hr.units (meq_var (pv 0)) (meq_var (pv 1)) (fun _ _=>rfl)) (meq_str) (by rfl))))) (mss_one (mst_set (i:=1) nd rfl (Or.inl rfl) (by decide) (me_binQ od_add (meq_var (pv 1)) (meq_int)))) (mss_nil))))
    (mss_cons (mst_if (mt_cmpQ (od_eq hr.units) (meq_var (pv 1)) (meq_var (pv 3)) (nomark _)) (mss_cons (mst_if (mt_cmpQ (od_eq hr.units) (meq_var (pv 2)) (meq_int) (nomark _)) (mss_one (mst_rt (me_p (meq_non)))) (mss_nil))
      (mss_one (mst_rt (me_lst (ma_v (me_p (meq_non)) (ma_v (me_var (pv 1)) (ma_nil))))))) (mss_nil))
    (mss_cons (mst_if (mt_w (mw_or (mt_cmpQ (od_gtT hr.units0) (meq_bin od_sub (meq_var (pv 1)) (meq_var (pv 3))) (meq_int) (nomark _)) (mw_or (mt_w (mw_and (mt_cmpQ (od_eq hr.units) (meq_ix hr.units (meq_var (pv 0)) (meq_var (pv 3)) (fun _ _=>rfl)) (meq_str) (nomark _)) (mw_and1 (mt_w (mw_or (mt_cmpQ (od_eq hr.units) (meq_var (pv 2)) (meq_un ud_neg (meq_int)) (nomark _)) (mw_or1 (mt_cmpQ (od_gtT hr.units0) (meq_bin od_sub (meq_var (pv 1)) (meq_var (pv 3))) (meq_int) (nomark _)))))))) (mw_or1 (mt_cmp (od_gtT hr.units0) (me_cty cd_intS (by rfl) z_int (by decide +kernel) (ma_v (me_sl (meb_q (meq_var (pv 0))) (mo_some (meq_var (pv 3))) (mo_some (meq_var (pv 1)))) (ma_nil))) (meb_q (meq_bin od_pow (meq_int) (meq_int))) (nomark _)))))) (mss_one (mst_rt (me_p (meq_non)))) (mss_nil))
    (mss_one (mst_rt (me_lst (ma_v (me_fz (me_binN od_mul (pv 2) (meb_v (me_cty cd_intS (by rfl) z_int (by decide +kernel) (ma_v (me_sl (meb_q (meq_var (pv 0))) (mo_some (meq_var (pv 3))) (mo_some (meq_var (pv 1)))) (ma_nil)))))) (ma_v (me_var (pv 1)) (ma_nil)))))))))))
variable (P w K mg base CT) in
abbrev T_law_number_item(f:Addr)(d:FuncData): Prop:=FnOk P w K mg base CX0 1 f d ["_law_line_here", "_law_at"] (spM K CT 2 m_law_number_item)∧Binds K d ["_law_line_here", "_law_at"] []
abbrev s_law_text: Stmt:=topS 24
abbrev N_law_text: List Str:=["_law_row_here", "_law_count", "_law_text_here", "_law_rest", "_law_k"]
theorem sc_law_text: FnScope N_law_text ["_law_row_here", "_law_count"] (defScope s_law_text):=⟨rfl,rfl,rfl,by decide +kernel,rfl,by decide +kernel,by decide +kernel⟩
noncomputable def m_law_text: CallM:=mDef 2 5 [0,1] (
  sSeq (sAsg (mP (mqC (.str ""))) (bName 2))
    (sSeq (sAsg (mP (mqCB dInt (mqCons (mqVar 0) (mqNil)))) (bName 3))
    (sSeq (sFor (miR1 (maN 1 (maNil))) (bName 4) (sSeq (sAsg (mOpN dAdd 2 (mCall m_law_sign [] (maQ (mqCons (mqOp2 dFdiv (mqVar 3) (mqC (.int 7))) (mqNil))))) (bName 2))
      (sAsg (mOpQ dAdd (mqOp2 dAdd (mqOp2 dFdiv (mqVar 3) (mqC (.int 94))) (mqOp2 dMul (mqOp2 dMod (mqVar 3) (mqC (.int 94))) (mqC (.int 2147483647)))) (mqVar 4)) (bName 3))))
    (sRt (mMv 2)))))
theorem ok_law_text{f_law_sign:Addr}{d_law_sign:FuncData}(y_law_sign:T_law_sign P w K mg base CT f_law_sign d_law_sign)(g_law_sign:mg "_law_sign"=some (.ref f_law_sign))(kp_law_sign:PySem.W.keepIn K (.ref f_law_sign)=true)(z_int:mg "int"=none)(z_range:mg "range"=none){f:Addr}{fd:FuncData}(F:Fun K "_law_text" "_law_text" s_law_text f fd):
    FnOk P w K mg base CX0 2 f fd ["_law_row_here", "_law_count"] (spM K CT 2 m_law_text):=by
  have nd:=sc_law_text.nd
  refine fun_ok F sc_law_text fun cdv A outer s H wx hr=>?_
  exact mss_cons (mst_set (i:=2) nd rfl (Or.inl rfl) (by decide) (me_p (meq_str)))
    (mss_cons (mst_set (i:=3) nd rfl (Or.inl rfl) (by decide) (me_p (meq_cty cd_int (by rfl) z_int (by decide +kernel) (maq_cons (meq_var (pv 0)) (maq_nil)))))
    (mss_cons (mst_for (pi:=[]) PassesOwn.never rfl (mi_r1 (by rfl) z_range (ma_n (pv 1) (ma_nil))) (mg_name (i:=4) nd rfl (Or.inl rfl) (by decide)) (mss_cons (mst_set (i:=2) nd rfl (Or.inl rfl) (by decide) (me_binN od_add (pv 2) (meb_v (me_call y_law_sign.1 mDef_len (hr.mono (by decide)) (by rfl) g_law_sign kp_law_sign y_law_sign.2 .nil (fun _ _=>.nil) pass0 (ma_q (maq_cons (meq_bin od_fdiv (meq_var (pv 3)) (meq_int)) (maq_nil)))))))
      (mss_one (mst_set (i:=3) nd rfl (Or.inl rfl) (by decide) (me_binQ od_add (meq_bin od_add (meq_bin od_fdiv (meq_var (pv 3)) (meq_int)) (meq_bin od_mul (meq_bin od_mod (meq_var (pv 3)) (meq_int)) (meq_int))) (meq_var (pv 4)))))))
    (mss_one (mst_rt (me_mv (pv 2))))))
variable (P w K mg base CT) in
abbrev T_law_text(f:Addr)(d:FuncData): Prop:=FnOk P w K mg base CX0 2 f d ["_law_row_here", "_law_count"] (spM K CT 2 m_law_text)∧Binds K d ["_law_row_here", "_law_count"] []
abbrev s_law_integer: Stmt:=topS 26
abbrev N_law_integer: List Str:=["_law_box", "_law_kind", "_law_number"]
theorem sc_law_integer: FnScope N_law_integer ["_law_box"] (defScope s_law_integer):=⟨rfl,rfl,rfl,by decide +kernel,rfl,by decide +kernel,by decide +kernel⟩
noncomputable def m_law_integer: CallM:=mDef 1 3 [0] (
  sSeq (sAsg (mCall m_law_take [] (maN 0 (maQ (mqCons (mqC (.int 6)) (mqNil))))) (bName 1))
    (sSeq (sAsg (mIx (mLst (maV (mP (mqC (.int 0))) (maV (mP (mqC (.int 1))) (maV (mFz (mOp2 dAdd (mP (mqC (.int 127))) (mCall m_law_take [] (maN 0 (maQ (mqCons (mqC (.int 3)) (mqNil))))))) (maV (mFz (mCall m_law_take [] (maN 0 (maQ (mqCons (mqC (.int 20000)) (mqNil)))))) (maV (mFz (mCall m_law_take [] (maN 0 (maQ (mqCons (mqOp2 dAdd (mqOp2 dPow (mqC (.int 10)) (mqC (.int 18))) (mqC (.int 1))) (mqNil)))))) (maV (mOpQ dPow (mqC (.int 10)) (mqC (.int 18))) (maNil)))))))) (mB (mqVar 1))) (bName 2))
    (sSeq (sIf (mtB (mOp2 dEq (mCall m_law_take [] (maN 0 (maQ (mqCons (mqC (.int 2)) (mqNil))))) (mB (mqC (.int 1))))) (sRt (mP (mqOp1 dNeg (mqVar 2)))) (sPass))
    (sRt (mMv 2)))))
theorem ok_law_integer{f_law_take:Addr}{d_law_take:FuncData}(y_law_take:T_law_take P w K mg base CT f_law_take d_law_take)(g_law_take:mg "_law_take"=some (.ref f_law_take))(kp_law_take:PySem.W.keepIn K (.ref f_law_take)=true){f:Addr}{fd:FuncData}(F:Fun K "_law_integer" "_law_integer" s_law_integer f fd):
    FnOk P w K mg base CX0 2 f fd ["_law_box"] (spM K CT 1 m_law_integer):=by
  have nd:=sc_law_integer.nd
  refine fun_ok F sc_law_integer fun cdv A outer s H wx hr=>?_
  exact mss_cons (mst_set (i:=1) nd rfl (Or.inl rfl) (by decide) (me_call y_law_take.1 mDef_len (hr.mono (by decide)) (by rfl) g_law_take kp_law_take y_law_take.2 .nil (fun _ _=>.nil) pass0 (ma_n (pv 0) (ma_q (maq_cons (meq_int) (maq_nil))))))
    (mss_cons (mst_set (i:=2) nd rfl (Or.inl rfl) (by decide) (me_ix hr.units (me_lst (ma_v (me_p (meq_int)) (ma_v (me_p (meq_int)) (ma_v (me_fz (me_bin od_add (me_p (meq_int)) (meb_v (me_call y_law_take.1 mDef_len (hr.mono (by decide)) (by rfl) g_law_take kp_law_take y_law_take.2 .nil (fun _ _=>.nil) pass0 (ma_n (pv 0) (ma_q (maq_cons (meq_int) (maq_nil)))))))) (ma_v (me_fz (me_call y_law_take.1 mDef_len (hr.mono (by decide)) (by rfl) g_law_take kp_law_take y_law_take.2 .nil (fun _ _=>.nil) pass0 (ma_n (pv 0) (ma_q (maq_cons (meq_int) (maq_nil)))))) (ma_v (me_fz (me_call y_law_take.1 mDef_len (hr.mono (by decide)) (by rfl) g_law_take kp_law_take y_law_take.2 .nil (fun _ _=>.nil) pass0 (ma_n (pv 0) (ma_q (maq_cons (meq_bin od_add (meq_bin od_pow (meq_int) (meq_int)) (meq_int)) (maq_nil)))))) (ma_v (me_binQ od_pow (meq_int) (meq_int)) (ma_nil)))))))) (meb_q (meq_var (pv 1))) (fun _ _=>rfl)))
    (mss_cons (mst_if (mt_cmp (od_eq hr.units) (me_call y_law_take.1 mDef_len (hr.mono (by decide)) (by rfl) g_law_take kp_law_take y_law_take.2 .nil (fun _ _=>.nil) pass0 (ma_n (pv 0) (ma_q (maq_cons (meq_int) (maq_nil))))) (meb_q (meq_int)) (nomark _)) (mss_one (mst_rt (me_p (meq_un ud_neg (meq_var (pv 2)))))) (mss_nil))
    (mss_one (mst_rt (me_mv (pv 2))))))
variable (P w K mg base CT) in
abbrev T_law_integer(f:Addr)(d:FuncData): Prop:=FnOk P w K mg base CX0 2 f d ["_law_box"] (spM K CT 1 m_law_integer)∧Binds K d ["_law_box"] []
abbrev s_law_spoilt: Stmt:=topS 38
abbrev N_law_spoilt: List Str:=["_law_line_here", "_law_box", "_law_kind", "_law_at", "_law_menu", "_law_sign_here"]
theorem sc_law_spoilt: FnScope N_law_spoilt ["_law_line_here", "_law_box"] (defScope s_law_spoilt):=⟨rfl,rfl,rfl,by decide +kernel,rfl,by decide +kernel,by decide +kernel⟩
noncomputable def m_law_spoilt: CallM:=mDef 2 6 [0,1] (
  sSeq (sAsg (mCall m_law_take [] (maN 1 (maQ (mqCons (mqC (.int 9)) (mqNil))))) (bName 2))
    (sSeq (sAsg (mCall m_law_take [] (maN 1 (maQ (mqCons (mqOp2 dAdd (mqCB dLen (mqCons (mqVar 0) (mqNil))) (mqC (.int 1))) (mqNil))))) (bName 3))
    (sSeq (sAsg (mP (mqC (.str "()\"- 0159azZ_\n\t(("))) (bName 4))
    (sSeq (sAsg (mIx (mLst (maV (mIxN 4 (mCall m_law_take [] (maN 1 (maQ (mqCons (mqCB dLen (mqCons (mqVar 4) (mqNil))) (mqNil)))))) (maV (mFz (mCall m_law_sign [] (maV (mCall m_law_take [] (maN 1 (maQ (mqCons (mqC (.int 94)) (mqNil))))) (maNil)))) (maNil)))) (mCall m_law_take [] (maN 1 (maQ (mqCons (mqC (.int 2)) (mqNil)))))) (bName 5))
    (sSeq (sIf (mtB (mOpQ dEq (mqVar 2) (mqC (.int 0)))) (sRt (mSl (mB (mqVar 0)) (mqNone) (mqSome (mqVar 3)))) (sPass))
    (sSeq (sIf (mtB (mOpQ dLtT (mqVar 2) (mqC (.int 3)))) (sRt (mOp2 dAdd (mOp2 dAdd (mSl (mB (mqVar 0)) (mqNone) (mqSome (mqVar 3))) (mB (mqVar 5))) (mSl (mB (mqVar 0)) (mqSome (mqVar 3)) (mqNone)))) (sPass))
    (sSeq (sIf (mtB (mOpQ dLtT (mqVar 2) (mqC (.int 5)))) (sRt (mOp2 dAdd (mOp2 dAdd (mSl (mB (mqVar 0)) (mqNone) (mqSome (mqVar 3))) (mB (mqVar 5))) (mSl (mB (mqVar 0)) (mqSome (mqOp2 dAdd (mqVar 3) (mqC (.int 1)))) (mqNone)))) (sPass))
    (sSeq (sIf (mtB (mOpQ dEq (mqVar 2) (mqC (.int 5)))) (sRt (mOp2 dAdd (mSl (mB (mqVar 0)) (mqNone) (mqSome (mqVar 3))) (mSl (mB (mqVar 0)) (mqSome (mqOp2 dAdd (mqVar 3) (mqC (.int 1)))) (mqNone)))) (sPass))
    (sSeq (sIf (mtB (mOpQ dEq (mqVar 2) (mqC (.int 6)))) (sRt (mOpN dAdd 0 (mIx (mLst (maV (mP (mqC (.str " "))) (maV (mP (mqC (.str "  1"))) (maV (mP (mqC (.str " )"))) (maV (mP (mqC (.str " 01"))) (maV (mP (mqC (.str " -0"))) (maV (mP (mqC (.str " (1 )"))) (maV (mP (mqC (.str " ( 1)"))) (maV (mP (mqC (.str " (1  2)"))) (maV (mP (mqC (.str " 1("))) (maV (mP (mqC (.str " \"a\"1"))) (maNil)))))))))))) (mB (mqOp2 dMod (mqVar 3) (mqC (.int 10))))))) (sPass))
    (sSeq (sIf (mtB (mOpQ dEq (mqVar 2) (mqC (.int 7)))) (sRt (mOp2 dAdd (mOp2 dAdd (mOp2 dAdd (mOpQ dAdd (mqVar 0) (mqC (.str " "))) (mIx (mLst (maV (mP (mqC (.str ""))) (maV (mP (mqC (.str "-"))) (maNil)))) (mB (mqOp2 dMod (mqVar 3) (mqC (.int 2)))))) (mCB dStrI (maV (mOp2 dSub (mOp2 dAdd (mOpQ dPow (mqC (.int 10)) (mqC (.int 18))) (mCall m_law_take [] (maN 1 (maQ (mqCons (mqC (.int 3)) (mqNil)))))) (mB (mqC (.int 1)))) (maNil)))) (mOp2 dMulS (mP (mqC (.str "0"))) (mOp2 dFdiv (mCall m_law_take [] (maN 1 (maQ (mqCons (mqC (.int 3)) (mqNil))))) (mB (mqC (.int 2))))))) (sPass))
    (sRt (mIx (mLst (maV (mP (mqC (.str "abcdefghijklm"))) (maV (mP (mqC (.str "abcdefghijkl"))) (maV (mP (mqC (.str ""))) (maV (mP (mqC (.str " 1"))) (maV (mP (mqC (.str "A"))) (maV (mP (mqC (.str "tick 1"))) (maV (mP (mqC (.str "-"))) (maNil))))))))) (mB (mqOp2 dMod (mqVar 3) (mqC (.int 7))))))))))))))))
theorem ok_law_spoilt{f_law_sign:Addr}{d_law_sign:FuncData}(y_law_sign:T_law_sign P w K mg base CT f_law_sign d_law_sign)(g_law_sign:mg "_law_sign"=some (.ref f_law_sign))(kp_law_sign:PySem.W.keepIn K (.ref f_law_sign)=true){f_law_take:Addr}{d_law_take:FuncData}(y_law_take:T_law_take P w K mg base CT f_law_take d_law_take)(g_law_take:mg "_law_take"=some (.ref f_law_take))(kp_law_take:PySem.W.keepIn K (.ref f_law_take)=true)(z_len:mg "len"=none)(z_str:mg "str"=none){f:Addr}{fd:FuncData}(F:Fun K "_law_spoilt" "_law_spoilt" s_law_spoilt f fd):
    FnOk P w K mg base CX0 2 f fd ["_law_line_here", "_law_box"] (spM K CT 2 m_law_spoilt):=by
  have nd:=sc_law_spoilt.nd
  refine fun_ok F sc_law_spoilt fun cdv A outer s H wx hr=>?_
  exact mss_cons (mst_set (i:=2) nd rfl (Or.inl rfl) (by decide) (me_call y_law_take.1 mDef_len (hr.mono (by decide)) (by rfl) g_law_take kp_law_take y_law_take.2 .nil (fun _ _=>.nil) pass0 (ma_n (pv 1) (ma_q (maq_cons (meq_int) (maq_nil))))))
    (mss_cons (mst_set (i:=3) nd rfl (Or.inl rfl) (by decide) (me_call y_law_take.1 mDef_len (hr.mono (by decide)) (by rfl) g_law_take kp_law_take y_law_take.2 .nil (fun _ _=>.nil) pass0 (ma_n (pv 1) (ma_q (maq_cons (meq_bin od_add (meq_cb cd_len (by rfl) z_len (by decide +kernel) (maq_cons (meq_var (pv 0)) (maq_nil))) (meq_int)) (maq_nil))))))
    (mss_cons (mst_set (i:=4) nd rfl (Or.inl rfl) (by decide) (me_p (meq_str)))
    (mss_cons (mst_set (i:=5) nd rfl (Or.inl rfl) (by decide) (me_ix hr.units (me_lst (ma_v (me_ixN hr.units (pv 4) (meb_v (me_call y_law_take.1 mDef_len (hr.mono (by decide)) (by rfl) g_law_take kp_law_take y_law_take.2 .nil (fun _ _=>.nil) pass0 (ma_n (pv 1) (ma_q (maq_cons (meq_cb cd_len (by rfl) z_len (by decide +kernel) (maq_cons (meq_var (pv 4)) (maq_nil))) (maq_nil)))))) (fun _ _=>rfl)) (ma_v (me_fz (me_call y_law_sign.1 mDef_len (hr.mono (by decide)) (by rfl) g_law_sign kp_law_sign y_law_sign.2 .nil (fun _ _=>.nil) pass0 (ma_v (me_call y_law_take.1 mDef_len (hr.mono (by decide)) (by rfl) g_law_take kp_law_take y_law_take.2 .nil (fun _ _=>.nil) pass0 (ma_n (pv 1) (ma_q (maq_cons (meq_int) (maq_nil))))) (ma_nil)))) (ma_nil)))) (meb_v (me_call y_law_take.1 mDef_len (hr.mono (by decide)) (by rfl) g_law_take kp_law_take y_law_take.2 .nil (fun _ _=>.nil) pass0 (ma_n (pv 1) (ma_q (maq_cons (meq_int) (maq_nil)))))) (fun _ _=>rfl)))
    (mss_cons (mst_if (mt_cmpQ (od_eq hr.units) (meq_var (pv 2)) (meq_int) (nomark _)) (mss_one (mst_rt (me_sl (meb_q (meq_var (pv 0))) (mo_none) (mo_some (meq_var (pv 3)))))) (mss_nil))
    (mss_cons (mst_if (mt_cmpQ (od_ltT hr.units0) (meq_var (pv 2)) (meq_int) (nomark _)) (mss_one (mst_rt (me_bin od_add (me_bin od_add (me_sl (meb_q (meq_var (pv 0))) (mo_none) (mo_some (meq_var (pv 3)))) (meb_q (meq_var (pv 5)))) (meb_v (me_sl (meb_q (meq_var (pv 0))) (mo_some (meq_var (pv 3))) (mo_none)))))) (mss_nil))
    (mss_cons (mst_if (mt_cmpQ (od_ltT hr.units0) (meq_var (pv 2)) (meq_int) (nomark _)) (mss_one (mst_rt (me_bin od_add (me_bin od_add (me_sl (meb_q (meq_var (pv 0))) (mo_none) (mo_some (meq_var (pv 3)))) (meb_q (meq_var (pv 5)))) (meb_v (me_sl (meb_q (meq_var (pv 0))) (mo_some (meq_bin od_add (meq_var (pv 3)) (meq_int))) (mo_none)))))) (mss_nil))
    (mss_cons (mst_if (mt_cmpQ (od_eq hr.units) (meq_var (pv 2)) (meq_int) (nomark _)) (mss_one (mst_rt (me_bin od_add (me_sl (meb_q (meq_var (pv 0))) (mo_none) (mo_some (meq_var (pv 3)))) (meb_v (me_sl (meb_q (meq_var (pv 0))) (mo_some (meq_bin od_add (meq_var (pv 3)) (meq_int))) (mo_none)))))) (mss_nil))
    (mss_cons (mst_if (mt_cmpQ (od_eq hr.units) (meq_var (pv 2)) (meq_int) (nomark _)) (mss_one (mst_rt (me_binN od_add (pv 0) (meb_v (me_ix hr.units (me_lst (ma_v (me_p (meq_str)) (ma_v (me_p (meq_str)) (ma_v (me_p (meq_str)) (ma_v (me_p (meq_str)) (ma_v (me_p (meq_str)) (ma_v (me_p (meq_str)) (ma_v (me_p (meq_str)) (ma_v (me_p (meq_str)) (ma_v (me_p (meq_str)) (ma_v (me_p (meq_str)) (ma_nil)))))))))))) (meb_q (meq_bin od_mod (meq_var (pv 3)) (meq_int))) (fun _ _=>rfl)))))) (mss_nil))
    (mss_cons (mst_if (mt_cmpQ (od_eq hr.units) (meq_var (pv 2)) (meq_int) (nomark _)) (mss_one (mst_rt (me_bin od_add (me_bin od_add (me_bin od_add (me_binQ od_add (meq_var (pv 0)) (meq_str)) (meb_v (me_ix hr.units (me_lst (ma_v (me_p (meq_str)) (ma_v (me_p (meq_str)) (ma_nil)))) (meb_q (meq_bin od_mod (meq_var (pv 3)) (meq_int))) (fun _ _=>rfl)))) (meb_v (me_cty cd_strI (by rfl) z_str (by decide +kernel) (ma_v (me_bin od_sub (me_bin od_add (me_binQ od_pow (meq_int) (meq_int)) (meb_v (me_call y_law_take.1 mDef_len (hr.mono (by decide)) (by rfl) g_law_take kp_law_take y_law_take.2 .nil (fun _ _=>.nil) pass0 (ma_n (pv 1) (ma_q (maq_cons (meq_int) (maq_nil))))))) (meb_q (meq_int))) (ma_nil))))) (meb_v (me_bin od_mulS (me_p (meq_str)) (meb_v (me_bin od_fdiv (me_call y_law_take.1 mDef_len (hr.mono (by decide)) (by rfl) g_law_take kp_law_take y_law_take.2 .nil (fun _ _=>.nil) pass0 (ma_n (pv 1) (ma_q (maq_cons (meq_int) (maq_nil))))) (meb_q (meq_int))))))))) (mss_nil))
    (mss_one (mst_rt (me_ix hr.units (me_lst (ma_v (me_p (meq_str)) (ma_v (me_p (meq_str)) (ma_v (me_p (meq_str)) (ma_v (me_p (meq_str)) (ma_v (me_p (meq_str)) (ma_v (me_p (meq_str)) (ma_v (me_p (meq_str)) (ma_nil))))))))) (meb_q (meq_bin od_mod (meq_var (pv 3)) (meq_int))) (fun _ _=>rfl)))))))))))))
variable (P w K mg base CT) in
abbrev T_law_spoilt(f:Addr)(d:FuncData): Prop:=FnOk P w K mg base CX0 2 f d ["_law_line_here", "_law_box"] (spM K CT 2 m_law_spoilt)∧Binds K d ["_law_line_here", "_law_box"] []
abbrev s_end_of_text: Stmt:=topS 17
abbrev N_end_of_text: List Str:=["line", "at", "here"]
theorem sc_end_of_text: FnScope N_end_of_text ["line", "at"] (defScope s_end_of_text):=⟨rfl,rfl,rfl,by decide +kernel,rfl,by decide +kernel,by decide +kernel⟩
noncomputable def m_end_of_text: CallM:=mDefX 2 3 [0,1] (
  sSeq (sAsg (mOpQ dAdd (mqVar 1) (mqC (.int 1))) (bName 2))
    (sSeq (whileM (mtB (mOpQ dLtT (mqVar 2) (mqCB dLen (mqCons (mqVar 0) (mqNil))))) (sIf (mtB (mOpQ dNe (mqIx (mqVar 0) (mqVar 2)) (mqC (.str "\"")))) (sAug 2 dAddI (mP (mqC (.int 1)))) (sIf (mtB (mOp2 dEq (mSl (mB (mqVar 0)) (mqSome (mqOp2 dAdd (mqVar 2) (mqC (.int 1)))) (mqSome (mqOp2 dAdd (mqVar 2) (mqC (.int 2))))) (mB (mqC (.str "\""))))) (sAug 2 dAddI (mP (mqC (.int 2)))) (sRt (mOpQ dAdd (mqVar 2) (mqC (.int 1)))))) fuel)
    (sRaise 1 0)))
theorem ok_end_of_text(z_len:mg "len"=none)(x_Malformed:MalR P w K mg base CT 1){f:Addr}{fd:FuncData}(F:Fun K "end_of_text" "end_of_text" s_end_of_text f fd):
    FnOk P w K mg base (L2.CX P w) 3 f fd ["line", "at"] (spMX K CT 2 m_end_of_text):=by
  have nd:=sc_end_of_text.nd
  refine fun_okX F sc_end_of_text fun cdv A outer s H wx hr ho=>?_
  exact mss_cons (mst_set (i:=2) nd rfl (Or.inl rfl) (by decide) (me_binQ od_add (meq_var (pv 1)) (meq_int)))
    (mss_cons (mst_while fuel ho (mt_cmpQ (od_ltT hr.units0) (meq_var (pv 2)) (meq_cb cd_len (by rfl) z_len (by decide +kernel) (maq_cons (meq_var (pv 0)) (maq_nil))) (nomark _)) (mss_one (mst_if (mt_cmpQ (od_ne hr.units) (meq_ix hr.units (meq_var (pv 0)) (meq_var (pv 2)) (fun _ _=>rfl)) (meq_str) (nomark _)) (mss_one (mst_aug (i:=2) ipd_add nd rfl (Or.inl rfl) (by decide) (me_p (meq_int)))) (mss_one (mst_if (mt_cmp (od_eq hr.units) (me_sl (meb_q (meq_var (pv 0))) (mo_some (meq_bin od_add (meq_var (pv 2)) (meq_int))) (mo_some (meq_bin od_add (meq_var (pv 2)) (meq_int)))) (meb_q (meq_str)) (nomark _)) (mss_one (mst_aug (i:=2) ipd_add nd rfl (Or.inl rfl) (by decide) (me_p (meq_int)))) (mss_one (mst_rt (me_binQ od_add (meq_var (pv 2)) (meq_int)))))))))
    (mss_one (mst_raiseR x_Malformed rfl (hr.mono (by decide)) (by rfl))))
variable (P w K mg base CT) in
abbrev T_end_of_text(f:Addr)(d:FuncData): Prop:=FnOk P w K mg base (L2.CX P w) 3 f d ["line", "at"] (spMX K CT 2 m_end_of_text)∧Binds K d ["line", "at"] []
abbrev s_read_plain: Stmt:=topS 19
abbrev N_read_plain: List Str:=["line", "at", "end", "text", "sign", "start", "number"]
theorem sc_read_plain: FnScope N_read_plain ["line", "at"] (defScope s_read_plain):=⟨rfl,rfl,rfl,by decide +kernel,rfl,by decide +kernel,by decide +kernel⟩
noncomputable def m_read_plain: CallM:=mDefX 2 7 [0,1] (
  sSeq (sIf (mtB (mOpQ dEq (mqIx (mqVar 0) (mqVar 1)) (mqC (.str "\"")))) (sSeq (sAsgX (mCall m_end_of_text [] (maN 0 (maN 1 (maNil)))) (bName 2))
      (sSeq (sAsg (mOp1 (dRep "\"\"" "\"") (mSl (mB (mqVar 0)) (mqSome (mqOp2 dAdd (mqVar 1) (mqC (.int 1)))) (mqSome (mqOp2 dSub (mqVar 2) (mqC (.int 1)))))) (bName 3))
      (sSeq (sIf (mtNot (mtV (mCB dAll (maV (mLc (miT (mVar 3)) [4] (bName 4) (mtYes) (mOp2 dIsNot (mCall m_sign_of [] (maQ (mqCons (mqCB dOrd (mqCons (mqVar 4) (mqNil))) (mqNil)))) (mB (mqC .non)))) (maNil))))) (sRaise 1 0) (sPass))
      (sRt (mTup (maV (mMv 3) (maV (mMv 2) (maNil)))))))) (sPass))
    (sSeq (sAsg (mVar 1) (bName 5))
    (sSeq (sIf (mtB (mOpQ dEq (mqIx (mqVar 0) (mqVar 1)) (mqC (.str "-")))) (sAsg (mOpQ dAdd (mqVar 1) (mqC (.int 1))) (bName 5)) (sPass))
    (sSeq (sAsg (mCall m_end_of_number [] (maN 0 (maV (mVar 5) (maNil)))) (bName 2))
    (sSeq (sIf (mtB (mOpQ dEq (mqVar 2) (mqVar 5))) (sSeq (sIf (mtB (mOpQ dEq (mqVar 5) (mqVar 1))) (sRaise 1 0) (sPass))
      (sRt (mTup (maV (mP (mqC .non)) (maV (mMv 2) (maNil)))))) (sPass))
    (sSeq (sIf (mtOr (mtAnd (mtB (mOpQ dEq (mqIx (mqVar 0) (mqVar 5)) (mqC (.str "0")))) (mtB (mOpQ dGtT (mqOp2 dSub (mqVar 2) (mqVar 1)) (mqC (.int 1))))) (mtB (mOpQ dGtT (mqOp2 dSub (mqVar 2) (mqVar 5)) (mqC c_MOST_FIGURES)))) (sRaise 1 0) (sPass))
    (sSeq (sAsg (mCB dIntS (maV (mSl (mB (mqVar 0)) (mqSome (mqVar 1)) (mqSome (mqVar 2))) (maNil))) (bName 6))
    (sSeq (sIf (mtOr (mtB (mOpQ dGtT (mqVar 6) (mqC c_MOST_INTEGER))) (mtB (mOpQ dLtT (mqVar 6) (mqOp1 dNeg (mqC c_MOST_INTEGER))))) (sRaise 1 0) (sPass))
    (sRt (mTup (maV (mMv 6) (maV (mMv 2) (maNil)))))))))))))
theorem ok_read_plain{u_MOST_FIGURES:Value}(g_MOST_FIGURES:mg "MOST_FIGURES"=some u_MOST_FIGURES)(k_MOST_FIGURES:KD K u_MOST_FIGURES c_MOST_FIGURES){u_MOST_INTEGER:Value}(g_MOST_INTEGER:mg "MOST_INTEGER"=some u_MOST_INTEGER)(k_MOST_INTEGER:KD K u_MOST_INTEGER c_MOST_INTEGER)(z_all:mg "all"=none){f_end_of_number:Addr}{d_end_of_number:FuncData}(y_end_of_number:T_end_of_number P w K mg base CT f_end_of_number d_end_of_number)(g_end_of_number:mg "end_of_number"=some (.ref f_end_of_number))(kp_end_of_number:PySem.W.keepIn K (.ref f_end_of_number)=true){f_end_of_text:Addr}{d_end_of_text:FuncData}(y_end_of_text:T_end_of_text P w K mg base CT f_end_of_text d_end_of_text)(g_end_of_text:mg "end_of_text"=some (.ref f_end_of_text))(kp_end_of_text:PySem.W.keepIn K (.ref f_end_of_text)=true)(z_int:mg "int"=none)(z_ord:mg "ord"=none){f_sign_of:Addr}{d_sign_of:FuncData}(y_sign_of:T_sign_of P w K mg base CT f_sign_of d_sign_of)(g_sign_of:mg "sign_of"=some (.ref f_sign_of))(kp_sign_of:PySem.W.keepIn K (.ref f_sign_of)=true)(x_Malformed:MalR P w K mg base CT 1){f:Addr}{fd:FuncData}(F:Fun K "read_plain" "read_plain" s_read_plain f fd):
    FnOk P w K mg base (L2.CX P w) 4 f fd ["line", "at"] (spMX K CT 2 m_read_plain):=by
  have nd:=sc_read_plain.nd
  refine fun_okX F sc_read_plain fun cdv A outer s H wx hr ho=>?_
  exact mss_cons (mst_if (mt_cmpQ (od_eq hr.units) (meq_ix hr.units (meq_var (pv 0)) (meq_var (pv 1)) (fun _ _=>rfl)) (meq_str) (nomark _)) (mss_cons (mst_setX (i:=2) nd rfl (Or.inl rfl) (by decide) (mex_call y_end_of_text.1 mDefX_len (hr.mono (by decide)) (by rfl) g_end_of_text kp_end_of_text y_end_of_text.2 (ma_n (pv 0) (ma_n (pv 1) (ma_nil)))))
      (mss_cons (mst_set (i:=3) nd rfl (Or.inl rfl) (by decide) (me_repo (meo_sl (meb_q (meq_var (pv 0))) (moo_op od_add (meq_var (pv 1))) (mo_some (meq_bin od_sub (meq_var (pv 2)) (meq_int)))) (by decide)))
      (mss_cons (mst_if (mt_not (mt_v (meb_v (me_cb (cd_all rfl) (by rfl) z_all (by decide +kernel) (ma_v (me_lc rfl nd (own:=[("sign",4)]) (pi:=[]) (pin:=[0,1,2,3,5,6]) (mi_t (me_var (pv 3))) (blkOk_by (own:=[("sign",4)]) (N:=N_read_plain) (sc:=defScope s_read_plain) (by decide +kernel)) (fun _ _ _ _ _=>mg_name (i:=4) nd rfl (Or.inl rfl) (by decide)) (fun _ _ _ _ _=>mts_nil) (fun _ _ _ _ _=>me_cmp od_isnot (me_call y_sign_of.1 mDef_len (hr.mono (by decide)) (by rfl) g_sign_of kp_sign_of y_sign_of.2 .nil (fun _ _=>.nil) pass0 (ma_q (maq_cons (meq_cb cd_ord (by rfl) z_ord (by decide +kernel) (maq_cons (meq_var (pv 4)) (maq_nil))) (maq_nil)))) (meb_q (meq_non)) (nomark _)) (by decide) (by decide) (by show ∀ i,i<7→i ∉ [4]→i∈[0,1,2,3,5,6];decide)) (ma_nil)))))) (mss_one (mst_raiseR x_Malformed rfl (hr.mono (by decide)) (by rfl))) (mss_nil))
      (mss_one (mst_rt (me_tup (ma_v (me_mv (pv 3)) (ma_v (me_mv (pv 2)) (ma_nil))))))))) (mss_nil))
    (mss_cons (mst_set (i:=5) nd rfl (Or.inl rfl) (by decide) (me_var (pv 1)))
    (mss_cons (mst_if (mt_cmpQ (od_eq hr.units) (meq_ix hr.units (meq_var (pv 0)) (meq_var (pv 1)) (fun _ _=>rfl)) (meq_str) (nomark _)) (mss_one (mst_set (i:=5) nd rfl (Or.inl rfl) (by decide) (me_binQ od_add (meq_var (pv 1)) (meq_int)))) (mss_nil))
    (mss_cons (mst_set (i:=2) nd rfl (Or.inl rfl) (by decide) (me_call y_end_of_number.1 mDef_len (hr.mono (by decide)) (by rfl) g_end_of_number kp_end_of_number y_end_of_number.2 .nil (fun _ _=>.nil) pass0 (ma_n (pv 0) (ma_v (me_var (pv 5)) (ma_nil)))))
    (mss_cons (mst_if (mt_cmpQ (od_eq hr.units) (meq_var (pv 2)) (meq_var (pv 5)) (nomark _)) (mss_cons (mst_if (mt_cmpQ (od_eq hr.units) (meq_var (pv 5)) (meq_var (pv 1)) (nomark _)) (mss_one (mst_raiseR x_Malformed rfl (hr.mono (by decide)) (by rfl))) (mss_nil))
      (mss_one (mst_rt (me_tup (ma_v (me_p (meq_non)) (ma_v (me_mv (pv 2)) (ma_nil))))))) (mss_nil))
    (mss_cons (mst_if (mt_w (mw_or (mt_w (mw_and (mt_cmpQ (od_eq hr.units) (meq_ix hr.units (meq_var (pv 0)) (meq_var (pv 5)) (fun _ _=>rfl)) (meq_str) (nomark _)) (mw_and1 (mt_cmpQ (od_gtT hr.units0) (meq_bin od_sub (meq_var (pv 2)) (meq_var (pv 1))) (meq_int) (nomark _))))) (mw_or1 (mt_cmpQ (od_gtT hr.units0) (meq_bin od_sub (meq_var (pv 2)) (meq_var (pv 5))) (meq_glob (by rfl) g_MOST_FIGURES k_MOST_FIGURES) (nomark _))))) (mss_one (mst_raiseR x_Malformed rfl (hr.mono (by decide)) (by rfl))) (mss_nil))
    (mss_cons (mst_set (i:=6) nd rfl (Or.inl rfl) (by decide) (me_cty cd_intS (by rfl) z_int (by decide +kernel) (ma_v (me_sl (meb_q (meq_var (pv 0))) (mo_some (meq_var (pv 1))) (mo_some (meq_var (pv 2)))) (ma_nil))))
    (mss_cons (mst_if (mt_w (mw_or (mt_cmpQ (od_gtT hr.units0) (meq_var (pv 6)) (meq_glob (by rfl) g_MOST_INTEGER k_MOST_INTEGER) (nomark _)) (mw_or1 (mt_cmpQ (od_ltT hr.units0) (meq_var (pv 6)) (meq_un ud_neg (meq_glob (by rfl) g_MOST_INTEGER k_MOST_INTEGER)) (nomark _))))) (mss_one (mst_raiseR x_Malformed rfl (hr.mono (by decide)) (by rfl))) (mss_nil))
    (mss_one (mst_rt (me_tup (ma_v (me_mv (pv 6)) (ma_v (me_mv (pv 2)) (ma_nil)))))))))))))
variable (P w K mg base CT) in
abbrev T_read_plain(f:Addr)(d:FuncData): Prop:=FnOk P w K mg base (L2.CX P w) 4 f d ["line", "at"] (spMX K CT 2 m_read_plain)∧Binds K d ["line", "at"] []
abbrev s_read_call: Stmt:=topS 20
abbrev N_read_call: List Str:=["line", "at", "rows", "items", "data"]
theorem sc_read_call: FnScope N_read_call ["line"] (defScope s_read_call):=⟨rfl,rfl,rfl,by decide +kernel,rfl,by decide +kernel,by decide +kernel⟩
noncomputable def m_read_call: CallM:=mDefX 1 5 [0] (
  sSeq (sAsg (mP (mqC (.int 0))) (bName 1))
    (sSeq (whileM (mtAnd (mtB (mOpQ dLtT (mqVar 1) (mqCB dLen (mqCons (mqVar 0) (mqNil))))) (mtB (mOpQ dIn (mqIx (mqVar 0) (mqVar 1)) (mqC c_LETTERS)))) (sAug 1 dAddI (mP (mqC (.int 1)))) fuel)
    (sSeq (sIf (mtNot (mtV (mCall m_is_word [] (maV (mSl (mB (mqVar 0)) (mqNone) (mqSome (mqVar 1))) (maNil))))) (sRaise 1 0) (sPass))
    (sSeq (sAsg (mLst (maV (mBox (mLst (maV (mSl (mB (mqVar 0)) (mqNone) (mqSome (mqVar 1))) (maNil)))) (maNil))) (bName 2))
    (sSeq (whileM (mtB (mOpQ dLtT (mqVar 1) (mqCB dLen (mqCons (mqVar 0) (mqNil))))) (sSeq (sIf (mtAnd (mtB (mOpQ dEq (mqIx (mqVar 0) (mqVar 1)) (mqC (.str ")")))) (mtB (mOpQ dGtT (mqCB dLen (mqCons (mqVar 2) (mqNil))) (mqC (.int 1))))) (sSeq (sAsg (mOp0 "list" gPop (rsN 2)) (bName 3))
        (sSeq (sEx (mOpL "list" gAppend (rsQ (mqIx (mqVar 2) (mqOp1 dNeg (mqC (.int 1))))) (maV (mFz (mCB dTuple (maQ (mqCons (mqUn (mqVar 3)) (mqNil))))) (maNil))))
        (sSeq (sAug 1 dAddI (mP (mqC (.int 1))))
        (sCt)))) (sPass))
      (sSeq (sIf (mtOr (mtB (mOpQ dEq (mqCB dLen (mqCons (mqVar 2) (mqNil))) (mqC (.int 1)))) (mtV (mB (mqUn (mqIx (mqVar 2) (mqOp1 dNeg (mqC (.int 1)))))))) (sSeq (sIf (mtB (mOpQ dNe (mqIx (mqVar 0) (mqVar 1)) (mqC (.str " ")))) (sRaise 1 0) (sPass))
        (sAug 1 dAddI (mP (mqC (.int 1))))) (sPass))
      (sIf (mtB (mOp2 dEq (mSl (mB (mqVar 0)) (mqSome (mqVar 1)) (mqSome (mqOp2 dAdd (mqVar 1) (mqC (.int 1))))) (mB (mqC (.str "("))))) (sSeq (sIf (mtB (mOpQ dGtT (mqCB dLen (mqCons (mqVar 2) (mqNil))) (mqC c_MOST_DEPTH))) (sRaise 1 0) (sPass))
        (sSeq (sEx (mAppN 2 (mBox (mLst (maNil)))))
        (sAug 1 dAddI (mP (mqC (.int 1)))))) (sIf (mtB (mOpQ dLtT (mqVar 1) (mqCB dLen (mqCons (mqVar 0) (mqNil))))) (sSeq (sAsgX (mCall m_read_plain [] (maN 0 (maN 1 (maNil)))) (bTL 2 (bCons (bName 4) (bCons (bName 1) (bNil)))))
          (sEx (mOpL "list" gAppend (rsQ (mqIx (mqVar 2) (mqOp1 dNeg (mqC (.int 1))))) (maV (mVar 4) (maNil))))) (sRaise 1 0))))) fuel)
    (sSeq (sIf (mtB (mOpQ dGtT (mqCB dLen (mqCons (mqVar 2) (mqNil))) (mqC (.int 1)))) (sRaise 1 0) (sPass))
    (sRt (mCB dTuple (maQ (mqCons (mqUn (mqIx (mqVar 2) (mqC (.int 0)))) (mqNil)))))))))))
theorem ok_read_call {u_LETTERS:Value} (g_LETTERS:mg "LETTERS"=some u_LETTERS) (k_LETTERS:KD K u_LETTERS c_LETTERS) {u_MOST_DEPTH:Value} (g_MOST_DEPTH:mg "MOST_DEPTH"=some u_MOST_DEPTH) (k_MOST_DEPTH:KD K u_MOST_DEPTH c_MOST_DEPTH) {f_is_word:Addr} {d_is_word:FuncData} (y_is_word:T_is_word P w K mg base CT f_is_word d_is_word) (g_is_word:mg "is_word"=some (.ref f_is_word)) (kp_is_word:PySem.W.keepIn K (.ref f_is_word)=true) (z_len:mg "len"=none) {f_read_plain:Addr} {d_read_plain:FuncData} (y_read_plain:T_read_plain P w K mg base CT f_read_plain d_read_plain) (g_read_plain:mg "read_plain"=some (.ref f_read_plain)) (kp_read_plain:PySem.W.keepIn K (.ref f_read_plain)=true) (z_tuple:mg "tuple"=none) (x_Malformed:MalR P w K mg base CT 1) {f:Addr} {fd:FuncData} (F:Fun K "read_call" "read_call" s_read_call f fd) :
    FnOk P w K mg base (L2.CX P w) 5 f fd ["line"] (spMX K CT 1 m_read_call):=by
  have nd:=sc_read_call.nd
  refine fun_okX F sc_read_call fun cdv A outer s H wx hr ho=>?_
  exact mss_cons (mst_set (i:=1) nd rfl (Or.inl rfl) (by decide) (me_p (meq_int)))
    (mss_cons (mst_while fuel ho (mt_w (mw_and (mt_cmpQ (od_ltT hr.units0) (meq_var (pv 1)) (meq_cb cd_len (by rfl) z_len (by decide +kernel) (maq_cons (meq_var (pv 0)) (maq_nil))) (nomark _)) (mw_and1 (mt_cmpQ (od_in (room65 hr)) (meq_ix hr.units (meq_var (pv 0)) (meq_var (pv 1)) (fun _ _=>rfl)) (meq_glob (by rfl) g_LETTERS k_LETTERS) (by rfl))))) (mss_one (mst_aug (i:=1) ipd_add nd rfl (Or.inl rfl) (by decide) (me_p (meq_int)))))
    (mss_cons (mst_if (mt_not (mt_v (meb_v (me_call y_is_word.1 mDef_len (hr.mono (by decide)) (by rfl) g_is_word kp_is_word y_is_word.2 .nil (fun _ _=>.nil) pass0 (ma_v (me_sl (meb_q (meq_var (pv 0))) (mo_none) (mo_some (meq_var (pv 1)))) (ma_nil)))))) (mss_one (mst_raiseR x_Malformed rfl (hr.mono (by decide)) (by rfl))) (mss_nil))
    (mss_cons (mst_set (i:=2) nd rfl (Or.inl rfl) (by decide) (me_lst (ma_v (me_box (me_lst (ma_v (me_sl (meb_q (meq_var (pv 0))) (mo_none) (mo_some (meq_var (pv 1)))) (ma_nil)))) (ma_nil))))
    (mss_cons (mst_while fuel ho (mt_cmpQ (od_ltT hr.units0) (meq_var (pv 1)) (meq_cb cd_len (by rfl) z_len (by decide +kernel) (maq_cons (meq_var (pv 0)) (maq_nil))) (nomark _)) (mss_cons (mst_if (mt_w (mw_and (mt_cmpQ (od_eq hr.units) (meq_ix hr.units (meq_var (pv 0)) (meq_var (pv 1)) (fun _ _=>rfl)) (meq_str) (nomark _)) (mw_and1 (mt_cmpQ (od_gtT hr.units0) (meq_cb cd_len (by rfl) z_len (by decide +kernel) (maq_cons (meq_var (pv 2)) (maq_nil))) (meq_int) (nomark _))))) (mss_cons (mst_set (i:=3) nd rfl (Or.inl rfl) (by decide) (me_op0 PySem.F.plainAttrs_list PySem.F.slot_list_pop PySem.F.type_list_pop mt_pop mu_pop (pl_nm (pv 2))))
        (mss_cons (mst_ex (me_opL PySem.F.plainAttrs_list PySem.F.slot_list_append PySem.F.type_list_append mt_append mu_append (pl_q (meq_ix hr.units (meq_var (pv 2)) (meq_un ud_neg (meq_int)) (fun _ _=>rfl))) (ma_v (me_fz (me_cty cd_tuple (by rfl) z_tuple (by decide +kernel) (ma_q (maq_cons (meq_un' (meq_var (pv 3))) (maq_nil))))) (ma_nil))))
        (mss_cons (mst_aug (i:=1) ipd_add nd rfl (Or.inl rfl) (by decide) (me_p (meq_int)))
        (mss_one (mst_ct))))) (mss_nil))
      (mss_cons (mst_if (mt_w (mw_or (mt_cmpQ (od_eq hr.units) (meq_cb cd_len (by rfl) z_len (by decide +kernel) (maq_cons (meq_var (pv 2)) (maq_nil))) (meq_int) (nomark _)) (mw_or1 (mt_v (meb_q (meq_un' (meq_ix hr.units (meq_var (pv 2)) (meq_un ud_neg (meq_int)) (fun _ _=>rfl)))))))) (mss_cons (mst_if (mt_cmpQ (od_ne hr.units) (meq_ix hr.units (meq_var (pv 0)) (meq_var (pv 1)) (fun _ _=>rfl)) (meq_str) (nomark _)) (mss_one (mst_raiseR x_Malformed rfl (hr.mono (by decide)) (by rfl))) (mss_nil))
        (mss_one (mst_aug (i:=1) ipd_add nd rfl (Or.inl rfl) (by decide) (me_p (meq_int))))) (mss_nil))
      (mss_one (mst_if (mt_cmp (od_eq hr.units) (me_sl (meb_q (meq_var (pv 0))) (mo_some (meq_var (pv 1))) (mo_some (meq_bin od_add (meq_var (pv 1)) (meq_int)))) (meb_q (meq_str)) (nomark _)) (mss_cons (mst_if (mt_cmpQ (od_gtT hr.units0) (meq_cb cd_len (by rfl) z_len (by decide +kernel) (maq_cons (meq_var (pv 2)) (maq_nil))) (meq_glob (by rfl) g_MOST_DEPTH k_MOST_DEPTH) (nomark _)) (mss_one (mst_raiseR x_Malformed rfl (hr.mono (by decide)) (by rfl))) (mss_nil))
        (mss_cons (mst_ex (me_appN (pv 2) (me_box (me_lst (ma_nil)))))
        (mss_one (mst_aug (i:=1) ipd_add nd rfl (Or.inl rfl) (by decide) (me_p (meq_int)))))) (mss_one (mst_if (mt_cmpQ (od_ltT hr.units0) (meq_var (pv 1)) (meq_cb cd_len (by rfl) z_len (by decide +kernel) (maq_cons (meq_var (pv 0)) (maq_nil))) (nomark _)) (mss_cons (mst_asgX (mex_call y_read_plain.1 mDefX_len (hr.mono (by decide)) (by rfl) g_read_plain kp_read_plain y_read_plain.2 (ma_n (pv 0) (ma_n (pv 1) (ma_nil)))) (mg_tl (n:=2) rfl (mgs_cons (mg_name (i:=4) nd rfl (Or.inl rfl) (by decide)) (mgs_cons (mg_name (i:=1) nd rfl (Or.inl rfl) (by decide)) (mgs_nil)))))
          (mss_one (mst_ex (me_opL PySem.F.plainAttrs_list PySem.F.slot_list_append PySem.F.type_list_append mt_append mu_append (pl_q (meq_ix hr.units (meq_var (pv 2)) (meq_un ud_neg (meq_int)) (fun _ _=>rfl))) (ma_v (me_var (pv 4)) (ma_nil)))))) (mss_one (mst_raiseR x_Malformed rfl (hr.mono (by decide)) (by rfl))))))))))
    (mss_cons (mst_if (mt_cmpQ (od_gtT hr.units0) (meq_cb cd_len (by rfl) z_len (by decide +kernel) (maq_cons (meq_var (pv 2)) (maq_nil))) (meq_int) (nomark _)) (mss_one (mst_raiseR x_Malformed rfl (hr.mono (by decide)) (by rfl))) (mss_nil))
    (mss_one (mst_rt (me_cty cd_tuple (by rfl) z_tuple (by decide +kernel) (ma_q (maq_cons (meq_un' (meq_ix hr.units (meq_var (pv 2)) (meq_int) (fun _ _=>rfl))) (maq_nil)))))))))))
variable (P w K mg base CT) in
abbrev T_read_call(f:Addr)(d:FuncData): Prop:=FnOk P w K mg base (L2.CX P w) 5 f d ["line"] (spMX K CT 1 m_read_call)∧Binds K d ["line"] []
abbrev s_law_told: Stmt:=topS 39
abbrev N_law_told: List Str:=["_law_line_here", "e"]
theorem sc_law_told: FnScope N_law_told ["_law_line_here"] (defScope s_law_told):=⟨rfl,rfl,rfl,by decide +kernel,rfl,by decide +kernel,by decide +kernel⟩
noncomputable def m_law_told: CallM:=mDef 1 2 [0] (
  sTry (sRt (mTupX (maVL (mP (mqC (.str "call"))) (maVX (mCall m_read_call [] (maN 0 (maNil))) (maNil))))) 1 (kTold 1 (.tup [.str "malformed",.non])))
theorem ok_law_told{f_read_call:Addr}{d_read_call:FuncData}(y_read_call:T_read_call P w K mg base CT f_read_call d_read_call)(g_read_call:mg "read_call"=some (.ref f_read_call))(kp_read_call:PySem.W.keepIn K (.ref f_read_call)=true)(k_CrossError:Catch K mg CT "CrossError" 1){N_Malformed L_Malformed:Addr}(o_Malformed:TolC K mg (CT 1) N_Malformed L_Malformed){f:Addr}{fd:FuncData}(F:Fun K "_law_told" "_law_told" s_law_told f fd):
    FnOk P w K mg base CX0 6 f fd ["_law_line_here"] (spM K CT 1 m_law_told):=by
  have nd:=sc_law_told.nd
  refine fun_ok F sc_law_told fun cdv A outer s H wx hr=>?_
  exact mss_one (mst_tryT (i:=1) rfl rfl nd rfl rfl (by decide) (by rfl) k_CrossError rfl (fun pn xe ho=>mss_one (mst_rtX (mex_tup (max_l (me_p (meq_str)) (max_v (mex_call y_read_call.1 mDefX_len (hr.mono (by decide)) (by rfl) g_read_call kp_read_call y_read_call.2 (ma_n (pv 0) (ma_nil))) (ma_nil)))))) (fun a oe cls d pn hz hf=>suite_tup (fun p=>pv 1) o_Malformed hz hf (by rfl) (by rfl) (by rfl) (by rfl) (by rfl) (by rfl)))
variable (P w K mg base CT) in
abbrev T_law_told(f:Addr)(d:FuncData): Prop:=FnOk P w K mg base CX0 6 f d ["_law_line_here"] (spM K CT 1 m_law_told)∧Binds K d ["_law_line_here"] []
abbrev s_law_alike: Stmt:=topS 29
abbrev N_law_alike: List Str:=["_law_actual", "_law_due", "_law_k"]
theorem sc_law_alike: FnScope N_law_alike ["_law_actual", "_law_due"] (defScope s_law_alike):=⟨rfl,rfl,rfl,by decide +kernel,rfl,by decide +kernel,by decide +kernel⟩
noncomputable def mr_law_alike(mS:CallM): CallM:=mDef 2 3 [0,1] (
  sSeq (sIf (mtB (mOpQ dIs (mqVar 1) (mqC .non))) (sRt (mP (mqOp2 dIs (mqVar 0) (mqC .non)))) (sPass))
    (sSeq (sIf (mtV (mB (mqCB dIsi (mqCons (mqVar 1) (mqCons (mqC (.ty "int")) (mqNil)))))) (sRt (mAnd (mP (mqCB dIsi (mqCons (mqVar 0) (mqCons (mqC (.ty "int")) (mqNil))))) (mAnd (mNot (mP (mqCB dIsi (mqCons (mqVar 0) (mqCons (mqC (.ty "bool")) (mqNil)))))) (mP (mqOp2 dEq (mqVar 0) (mqVar 1)))))) (sPass))
    (sSeq (sIf (mtV (mB (mqCB dIsi (mqCons (mqVar 1) (mqCons (mqC (.ty "str")) (mqNil)))))) (sRt (mAnd (mP (mqCB dIsi (mqCons (mqVar 0) (mqCons (mqC (.ty "str")) (mqNil))))) (mP (mqOp2 dEq (mqVar 0) (mqVar 1))))) (sPass))
    (sSeq (sIf (mtOr (mtNot (mtV (mB (mqCB dIsi (mqCons (mqVar 0) (mqCons (mqC (.ty "tuple")) (mqNil))))))) (mtB (mOpQ dNe (mqCB dLen (mqCons (mqVar 0) (mqNil))) (mqCB dLen (mqCons (mqVar 1) (mqNil)))))) (sRt (mP (mqC (.bl false)))) (sPass))
    (sSeq (sFor (miR1 (maQ (mqCons (mqCB dLen (mqCons (mqVar 1) (mqNil))) (mqNil)))) (bName 2) (sIf (mtNot (mtV (mCall mS [] (maQ (mqCons (mqIx (mqVar 0) (mqVar 2)) (mqCons (mqIx (mqVar 1) (mqVar 2)) (mqNil))))))) (sRt (mP (mqC (.bl false)))) (sPass)))
    (sRt (mP (mqC (.bl true)))))))))
theorem okr_law_alike(z_bool:mg "bool"=none)(z_int:mg "int"=none)(z_isinstance:mg "isinstance"=none)(z_len:mg "len"=none)(z_range:mg "range"=none)(z_str:mg "str"=none)(z_tuple:mg "tuple"=none){f_law_alike:Addr}{d_law_alike:FuncData}(F:Fun K "_law_alike" "_law_alike" s_law_alike f_law_alike d_law_alike)(g_law_alike:mg "_law_alike"=some (.ref f_law_alike))(kp_law_alike:PySem.W.keepIn K (.ref f_law_alike)=true)(b_law_alike:Binds K d_law_alike ["_law_actual", "_law_due"] []){mS:CallM}(lS:∀ ds hs o,mS ds hs=.ok o→ds.length=2){dp:Nat}(G_law_alike:FnOk P w K mg base CX0 (1+dp) f_law_alike d_law_alike ["_law_actual", "_law_due"] (spM K CT 2 mS)):
    FnOk P w K mg base CX0 (1+dp+1) f_law_alike d_law_alike ["_law_actual", "_law_due"] (spM K CT 2 (mr_law_alike mS)):=by
  have nd:=sc_law_alike.nd
  refine fun_ok F sc_law_alike fun cdv A outer s H wx hr=>?_
  exact mss_cons (mst_if (mt_cmpQ od_is (meq_var (pv 1)) (meq_non) (nomark _)) (mss_one (mst_rt (me_p (meq_cmp od_is (meq_var (pv 0)) (meq_non) (nomark _))))) (mss_nil))
    (mss_cons (mst_if (mt_v (meb_q (meq_cb cd_isi (by rfl) z_isinstance (by decide +kernel) (maq_cons (meq_var (pv 1)) (maq_cons (meq_ty (by rfl) z_int (by decide +kernel)) (maq_nil)))))) (mss_one (mst_rt (me_and (me_p (meq_cb cd_isi (by rfl) z_isinstance (by decide +kernel) (maq_cons (meq_var (pv 0)) (maq_cons (meq_ty (by rfl) z_int (by decide +kernel)) (maq_nil))))) (me_and (me_not (me_p (meq_cb cd_isi (by rfl) z_isinstance (by decide +kernel) (maq_cons (meq_var (pv 0)) (maq_cons (meq_ty (by rfl) z_bool (by decide +kernel)) (maq_nil)))))) (me_one (me_p (meq_cmp (od_eq hr.units) (meq_var (pv 0)) (meq_var (pv 1)) (nomark _)))))))) (mss_nil))
    (mss_cons (mst_if (mt_v (meb_q (meq_cb cd_isi (by rfl) z_isinstance (by decide +kernel) (maq_cons (meq_var (pv 1)) (maq_cons (meq_ty (by rfl) z_str (by decide +kernel)) (maq_nil)))))) (mss_one (mst_rt (me_and (me_p (meq_cb cd_isi (by rfl) z_isinstance (by decide +kernel) (maq_cons (meq_var (pv 0)) (maq_cons (meq_ty (by rfl) z_str (by decide +kernel)) (maq_nil))))) (me_one (me_p (meq_cmp (od_eq hr.units) (meq_var (pv 0)) (meq_var (pv 1)) (nomark _))))))) (mss_nil))
    (mss_cons (mst_if (mt_w (mw_or (mt_not (mt_v (meb_q (meq_cb cd_isi (by rfl) z_isinstance (by decide +kernel) (maq_cons (meq_var (pv 0)) (maq_cons (meq_ty (by rfl) z_tuple (by decide +kernel)) (maq_nil))))))) (mw_or1 (mt_cmpQ (od_ne hr.units) (meq_cb cd_len (by rfl) z_len (by decide +kernel) (maq_cons (meq_var (pv 0)) (maq_nil))) (meq_cb cd_len (by rfl) z_len (by decide +kernel) (maq_cons (meq_var (pv 1)) (maq_nil))) (nomark _))))) (mss_one (mst_rt (me_p (meq_bl)))) (mss_nil))
    (mss_cons (mst_for (pi:=[]) PassesOwn.never rfl (mi_r1 (by rfl) z_range (ma_q (maq_cons (meq_cb cd_len (by rfl) z_len (by decide +kernel) (maq_cons (meq_var (pv 1)) (maq_nil))) (maq_nil)))) (mg_name (i:=2) nd rfl (Or.inl rfl) (by decide)) (mss_one (mst_if (mt_not (mt_v (meb_v (me_call G_law_alike lS (hr.mono (by omega)) (by rfl) g_law_alike kp_law_alike b_law_alike .nil (fun _ _=>.nil) pass0 (ma_q (maq_cons (meq_ix hr.units (meq_var (pv 0)) (meq_var (pv 2)) (fun _ _=>rfl)) (maq_cons (meq_ix hr.units (meq_var (pv 1)) (meq_var (pv 2)) (fun _ _=>rfl)) (maq_nil)))))))) (mss_one (mst_rt (me_p (meq_bl)))) (mss_nil))))
    (mss_one (mst_rt (me_p (meq_bl))))))))
noncomputable def mf_law_alike: Nat→CallM
  | 0=>fun _ _=>.fail
  | d+1=>mr_law_alike (mf_law_alike d)
theorem mfl_law_alike: ∀ (d:Nat) ds hs o,mf_law_alike d ds hs=.ok o→ds.length=2
  | 0,_,_,_,h=>by cases h
  | d+1,ds,hs,o,h=>mDef_len ds hs o h
noncomputable def m_law_alike: CallM:=mf_law_alike 50
theorem mrl_law_alike: ∀ ds hs o,m_law_alike ds hs=.ok o→ds.length=2:=mfl_law_alike 50
theorem okf_law_alike(z_bool:mg "bool"=none)(z_int:mg "int"=none)(z_isinstance:mg "isinstance"=none)(z_len:mg "len"=none)(z_range:mg "range"=none)(z_str:mg "str"=none)(z_tuple:mg "tuple"=none){f_law_alike:Addr}{d_law_alike:FuncData}(F:Fun K "_law_alike" "_law_alike" s_law_alike f_law_alike d_law_alike)(g_law_alike:mg "_law_alike"=some (.ref f_law_alike))(kp_law_alike:PySem.W.keepIn K (.ref f_law_alike)=true)(b_law_alike:Binds K d_law_alike ["_law_actual", "_law_due"] []): ∀ dp:Nat,FnOk P w K mg base CX0 (1+dp) f_law_alike d_law_alike ["_law_actual", "_law_due"] (spM K CT 2 (mf_law_alike dp)):=by
  intro dp
  induction dp with
  | zero=>exact fn_none rfl
  | succ dp ih=>exact okr_law_alike z_bool z_int z_isinstance z_len z_range z_str z_tuple F g_law_alike kp_law_alike b_law_alike (mfl_law_alike dp) ih
theorem ok_law_alike(z_bool:mg "bool"=none)(z_int:mg "int"=none)(z_isinstance:mg "isinstance"=none)(z_len:mg "len"=none)(z_range:mg "range"=none)(z_str:mg "str"=none)(z_tuple:mg "tuple"=none){f_law_alike:Addr}{d_law_alike:FuncData}(F:Fun K "_law_alike" "_law_alike" s_law_alike f_law_alike d_law_alike)(g_law_alike:mg "_law_alike"=some (.ref f_law_alike))(kp_law_alike:PySem.W.keepIn K (.ref f_law_alike)=true)(b_law_alike:Binds K d_law_alike ["_law_actual", "_law_due"] []): FnOk P w K mg base CX0 51 f_law_alike d_law_alike ["_law_actual", "_law_due"] (spM K CT 2 m_law_alike):=okf_law_alike z_bool z_int z_isinstance z_len z_range z_str z_tuple F g_law_alike kp_law_alike b_law_alike 50
variable (P w K mg base CT) in
abbrev T_law_alike(f:Addr)(d:FuncData): Prop:=FnOk P w K mg base CX0 51 f d ["_law_actual", "_law_due"] (spM K CT 2 m_law_alike)∧Binds K d ["_law_actual", "_law_due"] []
abbrev s_law_written: Stmt:=topS 30
abbrev N_law_written: List Str:=["_law_data_here", "_law_text_here", "_law_sign_here", "_law_item_here"]
theorem sc_law_written: FnScope N_law_written ["_law_data_here"] (defScope s_law_written):=⟨rfl,rfl,rfl,by decide +kernel,rfl,by decide +kernel,by decide +kernel⟩
noncomputable def mr_law_written(mS:CallM): CallM:=mDef 1 4 [0] (
  sSeq (sIf (mtB (mOpQ dIs (mqVar 0) (mqC .non))) (sRt (mP (mqC (.str "-")))) (sPass))
    (sSeq (sIf (mtV (mB (mqCB dIsi (mqCons (mqVar 0) (mqCons (mqC (.ty "int")) (mqNil)))))) (sRt (mCB dStrI (maN 0 (maNil)))) (sPass))
    (sSeq (sIf (mtV (mB (mqCB dIsi (mqCons (mqVar 0) (mqCons (mqC (.ty "str")) (mqNil)))))) (sSeq (sAsg (mP (mqC (.str ""))) (bName 1))
      (sSeq (sFor (miT (mVar 0)) (bName 2) (sAsg (mOpQ dAdd (mqOp2 dAdd (mqVar 1) (mqVar 2)) (mqOp2 dMulS (mqVar 2) (mqCB dInt (mqCons (mqOp2 dEq (mqVar 2) (mqC (.str "\""))) (mqNil))))) (bName 1)))
      (sRt (mOpQ dAdd (mqOp2 dAdd (mqC (.str "\"")) (mqVar 1)) (mqC (.str "\"")))))) (sPass))
    (sRt (mOp2 dAdd (mOp2 dAdd (mP (mqC (.str "("))) (mJoin (mqC (.str " ")) (mLc (miN 0) [3] (bName 3) (mtYes) (mFz (mCall mS [] (maN 3 (maNil))))))) (mB (mqC (.str ")"))))))))
theorem okr_law_written(z_int:mg "int"=none)(z_isinstance:mg "isinstance"=none)(z_str:mg "str"=none){f_law_written:Addr}{d_law_written:FuncData}(F:Fun K "_law_written" "_law_written" s_law_written f_law_written d_law_written)(g_law_written:mg "_law_written"=some (.ref f_law_written))(kp_law_written:PySem.W.keepIn K (.ref f_law_written)=true)(b_law_written:Binds K d_law_written ["_law_data_here"] []){mS:CallM}(lS:∀ ds hs o,mS ds hs=.ok o→ds.length=1){dp:Nat}(G_law_written:FnOk P w K mg base CX0 (1+dp) f_law_written d_law_written ["_law_data_here"] (spM K CT 1 mS)):
    FnOk P w K mg base CX0 (1+dp+1) f_law_written d_law_written ["_law_data_here"] (spM K CT 1 (mr_law_written mS)):=by
  have nd:=sc_law_written.nd
  refine fun_ok F sc_law_written fun cdv A outer s H wx hr=>?_
  exact mss_cons (mst_if (mt_cmpQ od_is (meq_var (pv 0)) (meq_non) (nomark _)) (mss_one (mst_rt (me_p (meq_str)))) (mss_nil))
    (mss_cons (mst_if (mt_v (meb_q (meq_cb cd_isi (by rfl) z_isinstance (by decide +kernel) (maq_cons (meq_var (pv 0)) (maq_cons (meq_ty (by rfl) z_int (by decide +kernel)) (maq_nil)))))) (mss_one (mst_rt (me_cty cd_strI (by rfl) z_str (by decide +kernel) (ma_n (pv 0) (ma_nil))))) (mss_nil))
    (mss_cons (mst_if (mt_v (meb_q (meq_cb cd_isi (by rfl) z_isinstance (by decide +kernel) (maq_cons (meq_var (pv 0)) (maq_cons (meq_ty (by rfl) z_str (by decide +kernel)) (maq_nil)))))) (mss_cons (mst_set (i:=1) nd rfl (Or.inl rfl) (by decide) (me_p (meq_str)))
      (mss_cons (mst_for (pi:=[]) PassesOwn.never rfl (mi_t (me_var (pv 0))) (mg_name (i:=2) nd rfl (Or.inl rfl) (by decide)) (mss_one (mst_set (i:=1) nd rfl (Or.inl rfl) (by decide) (me_binQ od_add (meq_bin od_add (meq_var (pv 1)) (meq_var (pv 2))) (meq_bin od_mulS (meq_var (pv 2)) (meq_cty cd_int (by rfl) z_int (by decide +kernel) (maq_cons (meq_cmp (od_eq hr.units) (meq_var (pv 2)) (meq_str) (nomark _)) (maq_nil))))))))
      (mss_one (mst_rt (me_binQ od_add (meq_bin od_add (meq_str) (meq_var (pv 1))) (meq_str)))))) (mss_nil))
    (mss_one (mst_rt (me_bin od_add (me_bin od_add (me_p (meq_str)) (meb_v (me_join (meq_str) (me_lc rfl nd (own:=[("_law_item_here",3)]) (pi:=[0]) (pin:=[0,1,2]) (mi_n (pv 0)) (blkOk_by (own:=[("_law_item_here",3)]) (N:=N_law_written) (sc:=defScope s_law_written) (by decide +kernel)) (fun _ _ _ _ _=>mg_name (i:=3) nd rfl (Or.inl rfl) (by decide)) (fun _ _ _ _ _=>mts_nil) (fun _ _ _ _ _=>me_fz (me_call G_law_written lS (hr.mono (by omega)) (by rfl) g_law_written kp_law_written b_law_written .nil (fun _ _=>.nil) pass0 (ma_n (pv 3) (ma_nil)))) (by decide) (by decide) (by show ∀ i,i<4→i ∉ [3]→i∈[0,1,2];decide))))) (meb_q (meq_str)))))))
noncomputable def mf_law_written: Nat→CallM
  | 0=>fun _ _=>.fail
  | d+1=>mr_law_written (mf_law_written d)
theorem mfl_law_written: ∀ (d:Nat) ds hs o,mf_law_written d ds hs=.ok o→ds.length=1
  | 0,_,_,_,h=>by cases h
  | d+1,ds,hs,o,h=>mDef_len ds hs o h
noncomputable def m_law_written: CallM:=mf_law_written 50
theorem mrl_law_written: ∀ ds hs o,m_law_written ds hs=.ok o→ds.length=1:=mfl_law_written 50
theorem okf_law_written(z_int:mg "int"=none)(z_isinstance:mg "isinstance"=none)(z_str:mg "str"=none){f_law_written:Addr}{d_law_written:FuncData}(F:Fun K "_law_written" "_law_written" s_law_written f_law_written d_law_written)(g_law_written:mg "_law_written"=some (.ref f_law_written))(kp_law_written:PySem.W.keepIn K (.ref f_law_written)=true)(b_law_written:Binds K d_law_written ["_law_data_here"] []): ∀ dp:Nat,FnOk P w K mg base CX0 (1+dp) f_law_written d_law_written ["_law_data_here"] (spM K CT 1 (mf_law_written dp)):=by
  intro dp
  induction dp with
  | zero=>exact fn_none rfl
  | succ dp ih=>exact okr_law_written z_int z_isinstance z_str F g_law_written kp_law_written b_law_written (mfl_law_written dp) ih
theorem ok_law_written(z_int:mg "int"=none)(z_isinstance:mg "isinstance"=none)(z_str:mg "str"=none){f_law_written:Addr}{d_law_written:FuncData}(F:Fun K "_law_written" "_law_written" s_law_written f_law_written d_law_written)(g_law_written:mg "_law_written"=some (.ref f_law_written))(kp_law_written:PySem.W.keepIn K (.ref f_law_written)=true)(b_law_written:Binds K d_law_written ["_law_data_here"] []): FnOk P w K mg base CX0 51 f_law_written d_law_written ["_law_data_here"] (spM K CT 1 m_law_written):=okf_law_written z_int z_isinstance z_str F g_law_written kp_law_written b_law_written 50
variable (P w K mg base CT) in
abbrev T_law_written(f:Addr)(d:FuncData): Prop:=FnOk P w K mg base CX0 51 f d ["_law_data_here"] (spM K CT 1 m_law_written)∧Binds K d ["_law_data_here"] []
abbrev s_law_line: Stmt:=topS 31
abbrev N_law_line: List Str:=["_law_call_here", "_law_item_here"]
theorem sc_law_line: FnScope N_law_line ["_law_call_here"] (defScope s_law_line):=⟨rfl,rfl,rfl,by decide +kernel,rfl,by decide +kernel,by decide +kernel⟩
noncomputable def m_law_line: CallM:=mDef 1 2 [0] (
  sRt (mJoin (mqC (.str " ")) (mOp2 dAdd (mLst (maV (mP (mqIx (mqVar 0) (mqC (.int 0)))) (maNil))) (mLc (miV (mSl (mB (mqVar 0)) (mqSome (mqC (.int 1))) (mqNone))) [1] (bName 1) (mtYes) (mFz (mCall m_law_written [] (maN 1 (maNil))))))))
theorem ok_law_line{f_law_written:Addr}{d_law_written:FuncData}(y_law_written:T_law_written P w K mg base CT f_law_written d_law_written)(g_law_written:mg "_law_written"=some (.ref f_law_written))(kp_law_written:PySem.W.keepIn K (.ref f_law_written)=true){f:Addr}{fd:FuncData}(F:Fun K "_law_line" "_law_line" s_law_line f fd):
    FnOk P w K mg base CX0 52 f fd ["_law_call_here"] (spM K CT 1 m_law_line):=by
  have nd:=sc_law_line.nd
  refine fun_ok F sc_law_line fun cdv A outer s H wx hr=>?_
  exact mss_one (mst_rt (me_join (meq_str) (me_bin od_add (me_lst (ma_v (me_p (meq_ix hr.units (meq_var (pv 0)) (meq_int) (fun _ _=>rfl))) (ma_nil))) (meb_v (me_lc rfl nd (own:=[("_law_item_here",1)]) (pi:=[]) (pin:=[0]) (mi_v (me_sl (meb_q (meq_var (pv 0))) (mo_some (meq_int)) (mo_none))) (blkOk_by (own:=[("_law_item_here",1)]) (N:=N_law_line) (sc:=defScope s_law_line) (by decide +kernel)) (fun _ _ _ _ _=>mg_name (i:=1) nd rfl (Or.inl rfl) (by decide)) (fun _ _ _ _ _=>mts_nil) (fun _ _ _ _ _=>me_fz (me_call y_law_written.1 mrl_law_written (hr.mono (by decide)) (by rfl) g_law_written kp_law_written y_law_written.2 .nil (fun _ _=>.nil) pass0 (ma_n (pv 1) (ma_nil)))) (by decide) (by decide) (by show ∀ i,i<2→i ∉ [1]→i∈[0];decide))))))
variable (P w K mg base CT) in
abbrev T_law_line(f:Addr)(d:FuncData): Prop:=FnOk P w K mg base CX0 52 f d ["_law_call_here"] (spM K CT 1 m_law_line)∧Binds K d ["_law_call_here"] []
abbrev s_law_item: Stmt:=topS 36
abbrev N_law_item: List Str:=["_law_line_here", "_law_at", "_law_depth", "_law_items", "_law_k", "_law_found"]
theorem sc_law_item: FnScope N_law_item ["_law_line_here", "_law_at", "_law_depth"] (defScope s_law_item):=⟨rfl,rfl,rfl,by decide +kernel,rfl,by decide +kernel,by decide +kernel⟩
noncomputable def mr_law_item(mS:CallM): CallM:=mDef 3 6 [0,2] (
  sSeq (sIf (mtB (mOpQ dGeT (mqVar 1) (mqCB dLen (mqCons (mqVar 0) (mqNil))))) (sRt (mP (mqC .non))) (sPass))
    (sSeq (sIf (mtB (mOpQ dEq (mqIx (mqVar 0) (mqVar 1)) (mqC (.str "\"")))) (sRt (mCall m_law_text_item [] (maN 0 (maQ (mqCons (mqOp2 dAdd (mqVar 1) (mqC (.int 1))) (mqNil)))))) (sPass))
    (sSeq (sIf (mtB (mOpQ dNe (mqIx (mqVar 0) (mqVar 1)) (mqC (.str "(")))) (sRt (mCall m_law_number_item [] (maN 0 (maV (mVar 1) (maNil))))) (sPass))
    (sSeq (sIf (mtB (mOpQ dEq (mqVar 2) (mqC (.int 40)))) (sRt (mP (mqC .non))) (sPass))
    (sSeq (sIf (mtB (mOp2 dEq (mSl (mB (mqVar 0)) (mqSome (mqOp2 dAdd (mqVar 1) (mqC (.int 1)))) (mqSome (mqOp2 dAdd (mqVar 1) (mqC (.int 2))))) (mB (mqC (.str ")"))))) (sRt (mLst (maV (mTup (maNil)) (maV (mOpQ dAdd (mqVar 1) (mqC (.int 2))) (maNil))))) (sPass))
    (sSeq (sAsg (mLst (maNil)) (bName 3))
    (sSeq (sFor (miR1 (maQ (mqCons (mqCB dLen (mqCons (mqVar 0) (mqNil))) (mqNil)))) (bName 4) (sSeq (sAsg (mCall mS [] (maN 0 (maQ (mqCons (mqOp2 dAdd (mqVar 1) (mqC (.int 1))) (mqCons (mqOp2 dAdd (mqVar 2) (mqC (.int 1))) (mqNil)))))) (bName 5))
      (sSeq (sIf (mtB (mOpQ dIs (mqVar 5) (mqC .non))) (sRt (mP (mqC .non))) (sPass))
      (sSeq (sEx (mAppN 3 (mP (mqIx (mqVar 5) (mqC (.int 0))))))
      (sSeq (sAsg (mP (mqIx (mqVar 5) (mqC (.int 1)))) (bName 1))
      (sSeq (sIf (mtB (mOp2 dEq (mSl (mB (mqVar 0)) (mqSome (mqVar 1)) (mqSome (mqOp2 dAdd (mqVar 1) (mqC (.int 1))))) (mB (mqC (.str ")"))))) (sRt (mLst (maV (mFz (mCB dTuple (maN 3 (maNil)))) (maV (mOpQ dAdd (mqVar 1) (mqC (.int 1))) (maNil))))) (sPass))
      (sIf (mtB (mOp2 dNe (mSl (mB (mqVar 0)) (mqSome (mqVar 1)) (mqSome (mqOp2 dAdd (mqVar 1) (mqC (.int 1))))) (mB (mqC (.str " "))))) (sRt (mP (mqC .non))) (sPass))))))))
    (sRt (mP (mqC .non))))))))))
theorem okr_law_item{f_law_number_item:Addr}{d_law_number_item:FuncData}(y_law_number_item:T_law_number_item P w K mg base CT f_law_number_item d_law_number_item)(g_law_number_item:mg "_law_number_item"=some (.ref f_law_number_item))(kp_law_number_item:PySem.W.keepIn K (.ref f_law_number_item)=true){f_law_text_item:Addr}{d_law_text_item:FuncData}(y_law_text_item:T_law_text_item P w K mg base CT f_law_text_item d_law_text_item)(g_law_text_item:mg "_law_text_item"=some (.ref f_law_text_item))(kp_law_text_item:PySem.W.keepIn K (.ref f_law_text_item)=true)(z_len:mg "len"=none)(z_range:mg "range"=none)(z_tuple:mg "tuple"=none){f_law_item:Addr}{d_law_item:FuncData}(F:Fun K "_law_item" "_law_item" s_law_item f_law_item d_law_item)(g_law_item:mg "_law_item"=some (.ref f_law_item))(kp_law_item:PySem.W.keepIn K (.ref f_law_item)=true)(b_law_item:Binds K d_law_item ["_law_line_here", "_law_at", "_law_depth"] []){mS:CallM}(lS:∀ ds hs o,mS ds hs=.ok o→ds.length=3){dp:Nat}(G_law_item:FnOk P w K mg base CX0 (2+dp) f_law_item d_law_item ["_law_line_here", "_law_at", "_law_depth"] (spM K CT 3 mS)):
    FnOk P w K mg base CX0 (2+dp+1) f_law_item d_law_item ["_law_line_here", "_law_at", "_law_depth"] (spM K CT 3 (mr_law_item mS)):=by
  have nd:=sc_law_item.nd
  refine fun_ok F sc_law_item fun cdv A outer s H wx hr=>?_
  exact mss_cons (mst_if (mt_cmpQ (od_geT hr.units0) (meq_var (pv 1)) (meq_cb cd_len (by rfl) z_len (by decide +kernel) (maq_cons (meq_var (pv 0)) (maq_nil))) (nomark _)) (mss_one (mst_rt (me_p (meq_non)))) (mss_nil))
    (mss_cons (mst_if (mt_cmpQ (od_eq hr.units) (meq_ix hr.units (meq_var (pv 0)) (meq_var (pv 1)) (fun _ _=>rfl)) (meq_str) (nomark _)) (mss_one (mst_rt (me_call y_law_text_item.1 mDef_len (hr.mono (by omega)) (by rfl) g_law_text_item kp_law_text_item y_law_text_item.2 .nil (fun _ _=>.nil) pass0 (ma_n (pv 0) (ma_q (maq_cons (meq_bin od_add (meq_var (pv 1)) (meq_int)) (maq_nil))))))) (mss_nil))
    (mss_cons (mst_if (mt_cmpQ (od_ne hr.units) (meq_ix hr.units (meq_var (pv 0)) (meq_var (pv 1)) (fun _ _=>rfl)) (meq_str) (nomark _)) (mss_one (mst_rt (me_call y_law_number_item.1 mDef_len (hr.mono (by omega)) (by rfl) g_law_number_item kp_law_number_item y_law_number_item.2 .nil (fun _ _=>.nil) pass0 (ma_n (pv 0) (ma_v (me_var (pv 1)) (ma_nil)))))) (mss_nil))
    (mss_cons (mst_if (mt_cmpQ (od_eq hr.units) (meq_var (pv 2)) (meq_int) (nomark _)) (mss_one (mst_rt (me_p (meq_non)))) (mss_nil))
    (mss_cons (mst_if (mt_cmp (od_eq hr.units) (me_sl (meb_q (meq_var (pv 0))) (mo_some (meq_bin od_add (meq_var (pv 1)) (meq_int))) (mo_some (meq_bin od_add (meq_var (pv 1)) (meq_int)))) (meb_q (meq_str)) (nomark _)) (mss_one (mst_rt (me_lst (ma_v (me_tup (ma_nil)) (ma_v (me_binQ od_add (meq_var (pv 1)) (meq_int)) (ma_nil)))))) (mss_nil))
    (mss_cons (mst_set (i:=3) nd rfl (Or.inl rfl) (by decide) (me_lst (ma_nil)))
    (mss_cons (mst_for (pi:=[]) PassesOwn.never rfl (mi_r1 (by rfl) z_range (ma_q (maq_cons (meq_cb cd_len (by rfl) z_len (by decide +kernel) (maq_cons (meq_var (pv 0)) (maq_nil))) (maq_nil)))) (mg_name (i:=4) nd rfl (Or.inl rfl) (by decide)) (mss_cons (mst_set (i:=5) nd rfl (Or.inl rfl) (by decide) (me_call G_law_item lS (hr.mono (by omega)) (by rfl) g_law_item kp_law_item b_law_item .nil (fun _ _=>.nil) pass0 (ma_n (pv 0) (ma_q (maq_cons (meq_bin od_add (meq_var (pv 1)) (meq_int)) (maq_cons (meq_bin od_add (meq_var (pv 2)) (meq_int)) (maq_nil)))))))
      (mss_cons (mst_if (mt_cmpQ od_is (meq_var (pv 5)) (meq_non) (nomark _)) (mss_one (mst_rt (me_p (meq_non)))) (mss_nil))
      (mss_cons (mst_ex (me_appN (pv 3) (me_p (meq_ix hr.units (meq_var (pv 5)) (meq_int) (fun _ _=>rfl)))))
      (mss_cons (mst_set (i:=1) nd rfl (Or.inl rfl) (by decide) (me_p (meq_ix hr.units (meq_var (pv 5)) (meq_int) (fun _ _=>rfl))))
      (mss_cons (mst_if (mt_cmp (od_eq hr.units) (me_sl (meb_q (meq_var (pv 0))) (mo_some (meq_var (pv 1))) (mo_some (meq_bin od_add (meq_var (pv 1)) (meq_int)))) (meb_q (meq_str)) (nomark _)) (mss_one (mst_rt (me_lst (ma_v (me_fz (me_cty cd_tuple (by rfl) z_tuple (by decide +kernel) (ma_n (pv 3) (ma_nil)))) (ma_v (me_binQ od_add (meq_var (pv 1)) (meq_int)) (ma_nil)))))) (mss_nil))
      (mss_one (mst_if (mt_cmp (od_ne hr.units) (me_sl (meb_q (meq_var (pv 0))) (mo_some (meq_var (pv 1))) (mo_some (meq_bin od_add (meq_var (pv 1)) (meq_int)))) (meb_q (meq_str)) (nomark _)) (mss_one (mst_rt (me_p (meq_non)))) (mss_nil)))))))))
    (mss_one (mst_rt (me_p (meq_non))))))))))
noncomputable def mf_law_item: Nat→CallM
  | 0=>fun _ _=>.fail
  | d+1=>mr_law_item (mf_law_item d)
theorem mfl_law_item: ∀ (d:Nat) ds hs o,mf_law_item d ds hs=.ok o→ds.length=3
  | 0,_,_,_,h=>by cases h
  | d+1,ds,hs,o,h=>mDef_len ds hs o h
noncomputable def m_law_item: CallM:=mf_law_item 50
theorem mrl_law_item: ∀ ds hs o,m_law_item ds hs=.ok o→ds.length=3:=mfl_law_item 50
theorem okf_law_item{f_law_number_item:Addr}{d_law_number_item:FuncData}(y_law_number_item:T_law_number_item P w K mg base CT f_law_number_item d_law_number_item)(g_law_number_item:mg "_law_number_item"=some (.ref f_law_number_item))(kp_law_number_item:PySem.W.keepIn K (.ref f_law_number_item)=true){f_law_text_item:Addr}{d_law_text_item:FuncData}(y_law_text_item:T_law_text_item P w K mg base CT f_law_text_item d_law_text_item)(g_law_text_item:mg "_law_text_item"=some (.ref f_law_text_item))(kp_law_text_item:PySem.W.keepIn K (.ref f_law_text_item)=true)(z_len:mg "len"=none)(z_range:mg "range"=none)(z_tuple:mg "tuple"=none){f_law_item:Addr}{d_law_item:FuncData}(F:Fun K "_law_item" "_law_item" s_law_item f_law_item d_law_item)(g_law_item:mg "_law_item"=some (.ref f_law_item))(kp_law_item:PySem.W.keepIn K (.ref f_law_item)=true)(b_law_item:Binds K d_law_item ["_law_line_here", "_law_at", "_law_depth"] []): ∀ dp:Nat,FnOk P w K mg base CX0 (2+dp) f_law_item d_law_item ["_law_line_here", "_law_at", "_law_depth"] (spM K CT 3 (mf_law_item dp)):=by
  intro dp
  induction dp with
  | zero=>exact fn_none rfl
  | succ dp ih=>exact okr_law_item y_law_number_item g_law_number_item kp_law_number_item y_law_text_item g_law_text_item kp_law_text_item z_len z_range z_tuple F g_law_item kp_law_item b_law_item (mfl_law_item dp) ih
theorem ok_law_item{f_law_number_item:Addr}{d_law_number_item:FuncData}(y_law_number_item:T_law_number_item P w K mg base CT f_law_number_item d_law_number_item)(g_law_number_item:mg "_law_number_item"=some (.ref f_law_number_item))(kp_law_number_item:PySem.W.keepIn K (.ref f_law_number_item)=true){f_law_text_item:Addr}{d_law_text_item:FuncData}(y_law_text_item:T_law_text_item P w K mg base CT f_law_text_item d_law_text_item)(g_law_text_item:mg "_law_text_item"=some (.ref f_law_text_item))(kp_law_text_item:PySem.W.keepIn K (.ref f_law_text_item)=true)(z_len:mg "len"=none)(z_range:mg "range"=none)(z_tuple:mg "tuple"=none){f_law_item:Addr}{d_law_item:FuncData}(F:Fun K "_law_item" "_law_item" s_law_item f_law_item d_law_item)(g_law_item:mg "_law_item"=some (.ref f_law_item))(kp_law_item:PySem.W.keepIn K (.ref f_law_item)=true)(b_law_item:Binds K d_law_item ["_law_line_here", "_law_at", "_law_depth"] []): FnOk P w K mg base CX0 52 f_law_item d_law_item ["_law_line_here", "_law_at", "_law_depth"] (spM K CT 3 m_law_item):=okf_law_item y_law_number_item g_law_number_item kp_law_number_item y_law_text_item g_law_text_item kp_law_text_item z_len z_range z_tuple F g_law_item kp_law_item b_law_item 50
variable (P w K mg base CT) in
abbrev T_law_item(f:Addr)(d:FuncData): Prop:=FnOk P w K mg base CX0 52 f d ["_law_line_here", "_law_at", "_law_depth"] (spM K CT 3 m_law_item)∧Binds K d ["_law_line_here", "_law_at", "_law_depth"] []
abbrev s_law_data: Stmt:=topS 27
abbrev N_law_data: List Str:=["_law_box", "_law_depth", "_law_kind", "_law_items", "_law_k"]
theorem sc_law_data: FnScope N_law_data ["_law_box", "_law_depth"] (defScope s_law_data):=⟨rfl,rfl,rfl,by decide +kernel,rfl,by decide +kernel,by decide +kernel⟩
noncomputable def mr_law_data(mS:CallM): CallM:=mDef 2 5 [0,1] (
  sSeq (sAsg (mCall m_law_take [] (maN 0 (maQ (mqCons (mqC (.int 7)) (mqNil))))) (bName 2))
    (sSeq (sIf (mtB (mOpQ dEq (mqVar 2) (mqC (.int 0)))) (sRt (mP (mqC .non))) (sPass))
    (sSeq (sIf (mtB (mOpQ dLtT (mqVar 2) (mqC (.int 3)))) (sRt (mCall m_law_integer [] (maN 0 (maNil)))) (sPass))
    (sSeq (sIf (mtOr (mtB (mOpQ dEq (mqVar 2) (mqC (.int 3)))) (mtB (mOpQ dEq (mqVar 1) (mqC (.int 0))))) (sRt (mCall m_law_text [] (maV (mCall m_law_take [] (maN 0 (maQ (mqCons (mqOp2 dPow (mqC (.int 10)) (mqC (.int 12))) (mqNil))))) (maV (mCall m_law_take [] (maN 0 (maQ (mqCons (mqC (.int 9)) (mqNil))))) (maNil))))) (sPass))
    (sSeq (sAsg (mLst (maNil)) (bName 3))
    (sSeq (sFor (miR1 (maV (mCall m_law_take [] (maN 0 (maQ (mqCons (mqC (.int 5)) (mqNil))))) (maNil))) (bName 4) (sEx (mAppN 3 (mCall mS [] (maN 0 (maQ (mqCons (mqOp2 dSub (mqVar 1) (mqC (.int 1))) (mqNil))))))))
    (sRt (mCB dTuple (maN 3 (maNil))))))))))
theorem okr_law_data{f_law_integer:Addr}{d_law_integer:FuncData}(y_law_integer:T_law_integer P w K mg base CT f_law_integer d_law_integer)(g_law_integer:mg "_law_integer"=some (.ref f_law_integer))(kp_law_integer:PySem.W.keepIn K (.ref f_law_integer)=true){f_law_take:Addr}{d_law_take:FuncData}(y_law_take:T_law_take P w K mg base CT f_law_take d_law_take)(g_law_take:mg "_law_take"=some (.ref f_law_take))(kp_law_take:PySem.W.keepIn K (.ref f_law_take)=true){f_law_text:Addr}{d_law_text:FuncData}(y_law_text:T_law_text P w K mg base CT f_law_text d_law_text)(g_law_text:mg "_law_text"=some (.ref f_law_text))(kp_law_text:PySem.W.keepIn K (.ref f_law_text)=true)(z_range:mg "range"=none)(z_tuple:mg "tuple"=none){f_law_data:Addr}{d_law_data:FuncData}(F:Fun K "_law_data" "_law_data" s_law_data f_law_data d_law_data)(g_law_data:mg "_law_data"=some (.ref f_law_data))(kp_law_data:PySem.W.keepIn K (.ref f_law_data)=true)(b_law_data:Binds K d_law_data ["_law_box", "_law_depth"] []){mS:CallM}(lS:∀ ds hs o,mS ds hs=.ok o→ds.length=2){dp:Nat}(G_law_data:FnOk P w K mg base CX0 (3+dp) f_law_data d_law_data ["_law_box", "_law_depth"] (spM K CT 2 mS)):
    FnOk P w K mg base CX0 (3+dp+1) f_law_data d_law_data ["_law_box", "_law_depth"] (spM K CT 2 (mr_law_data mS)):=by
  have nd:=sc_law_data.nd
  refine fun_ok F sc_law_data fun cdv A outer s H wx hr=>?_
  exact mss_cons (mst_set (i:=2) nd rfl (Or.inl rfl) (by decide) (me_call y_law_take.1 mDef_len (hr.mono (by omega)) (by rfl) g_law_take kp_law_take y_law_take.2 .nil (fun _ _=>.nil) pass0 (ma_n (pv 0) (ma_q (maq_cons (meq_int) (maq_nil))))))
    (mss_cons (mst_if (mt_cmpQ (od_eq hr.units) (meq_var (pv 2)) (meq_int) (nomark _)) (mss_one (mst_rt (me_p (meq_non)))) (mss_nil))
    (mss_cons (mst_if (mt_cmpQ (od_ltT hr.units0) (meq_var (pv 2)) (meq_int) (nomark _)) (mss_one (mst_rt (me_call y_law_integer.1 mDef_len (hr.mono (by omega)) (by rfl) g_law_integer kp_law_integer y_law_integer.2 .nil (fun _ _=>.nil) pass0 (ma_n (pv 0) (ma_nil))))) (mss_nil))
    (mss_cons (mst_if (mt_w (mw_or (mt_cmpQ (od_eq hr.units) (meq_var (pv 2)) (meq_int) (nomark _)) (mw_or1 (mt_cmpQ (od_eq hr.units) (meq_var (pv 1)) (meq_int) (nomark _))))) (mss_one (mst_rt (me_call y_law_text.1 mDef_len (hr.mono (by omega)) (by rfl) g_law_text kp_law_text y_law_text.2 .nil (fun _ _=>.nil) pass0 (ma_v (me_call y_law_take.1 mDef_len (hr.mono (by omega)) (by rfl) g_law_take kp_law_take y_law_take.2 .nil (fun _ _=>.nil) pass0 (ma_n (pv 0) (ma_q (maq_cons (meq_bin od_pow (meq_int) (meq_int)) (maq_nil))))) (ma_v (me_call y_law_take.1 mDef_len (hr.mono (by omega)) (by rfl) g_law_take kp_law_take y_law_take.2 .nil (fun _ _=>.nil) pass0 (ma_n (pv 0) (ma_q (maq_cons (meq_int) (maq_nil))))) (ma_nil)))))) (mss_nil))
    (mss_cons (mst_set (i:=3) nd rfl (Or.inl rfl) (by decide) (me_lst (ma_nil)))
    (mss_cons (mst_for (pi:=[]) PassesOwn.never rfl (mi_r1 (by rfl) z_range (ma_v (me_call y_law_take.1 mDef_len (hr.mono (by omega)) (by rfl) g_law_take kp_law_take y_law_take.2 .nil (fun _ _=>.nil) pass0 (ma_n (pv 0) (ma_q (maq_cons (meq_int) (maq_nil))))) (ma_nil))) (mg_name (i:=4) nd rfl (Or.inl rfl) (by decide)) (mss_one (mst_ex (me_appN (pv 3) (me_call G_law_data lS (hr.mono (by omega)) (by rfl) g_law_data kp_law_data b_law_data .nil (fun _ _=>.nil) pass0 (ma_n (pv 0) (ma_q (maq_cons (meq_bin od_sub (meq_var (pv 1)) (meq_int)) (maq_nil)))))))))
    (mss_one (mst_rt (me_cty cd_tuple (by rfl) z_tuple (by decide +kernel) (ma_n (pv 3) (ma_nil))))))))))
noncomputable def mf_law_data: Nat→CallM
  | 0=>fun _ _=>.fail
  | d+1=>mr_law_data (mf_law_data d)
theorem mfl_law_data: ∀ (d:Nat) ds hs o,mf_law_data d ds hs=.ok o→ds.length=2
  | 0,_,_,_,h=>by cases h
  | d+1,ds,hs,o,h=>mDef_len ds hs o h
noncomputable def m_law_data: CallM:=mf_law_data 50
theorem mrl_law_data: ∀ ds hs o,m_law_data ds hs=.ok o→ds.length=2:=mfl_law_data 50
theorem okf_law_data{f_law_integer:Addr}{d_law_integer:FuncData}(y_law_integer:T_law_integer P w K mg base CT f_law_integer d_law_integer)(g_law_integer:mg "_law_integer"=some (.ref f_law_integer))(kp_law_integer:PySem.W.keepIn K (.ref f_law_integer)=true){f_law_take:Addr}{d_law_take:FuncData}(y_law_take:T_law_take P w K mg base CT f_law_take d_law_take)(g_law_take:mg "_law_take"=some (.ref f_law_take))(kp_law_take:PySem.W.keepIn K (.ref f_law_take)=true){f_law_text:Addr}{d_law_text:FuncData}(y_law_text:T_law_text P w K mg base CT f_law_text d_law_text)(g_law_text:mg "_law_text"=some (.ref f_law_text))(kp_law_text:PySem.W.keepIn K (.ref f_law_text)=true)(z_range:mg "range"=none)(z_tuple:mg "tuple"=none){f_law_data:Addr}{d_law_data:FuncData}(F:Fun K "_law_data" "_law_data" s_law_data f_law_data d_law_data)(g_law_data:mg "_law_data"=some (.ref f_law_data))(kp_law_data:PySem.W.keepIn K (.ref f_law_data)=true)(b_law_data:Binds K d_law_data ["_law_box", "_law_depth"] []): ∀ dp:Nat,FnOk P w K mg base CX0 (3+dp) f_law_data d_law_data ["_law_box", "_law_depth"] (spM K CT 2 (mf_law_data dp)):=by
  intro dp
  induction dp with
  | zero=>exact fn_none rfl
  | succ dp ih=>exact okr_law_data y_law_integer g_law_integer kp_law_integer y_law_take g_law_take kp_law_take y_law_text g_law_text kp_law_text z_range z_tuple F g_law_data kp_law_data b_law_data (mfl_law_data dp) ih
theorem ok_law_data{f_law_integer:Addr}{d_law_integer:FuncData}(y_law_integer:T_law_integer P w K mg base CT f_law_integer d_law_integer)(g_law_integer:mg "_law_integer"=some (.ref f_law_integer))(kp_law_integer:PySem.W.keepIn K (.ref f_law_integer)=true){f_law_take:Addr}{d_law_take:FuncData}(y_law_take:T_law_take P w K mg base CT f_law_take d_law_take)(g_law_take:mg "_law_take"=some (.ref f_law_take))(kp_law_take:PySem.W.keepIn K (.ref f_law_take)=true){f_law_text:Addr}{d_law_text:FuncData}(y_law_text:T_law_text P w K mg base CT f_law_text d_law_text)(g_law_text:mg "_law_text"=some (.ref f_law_text))(kp_law_text:PySem.W.keepIn K (.ref f_law_text)=true)(z_range:mg "range"=none)(z_tuple:mg "tuple"=none){f_law_data:Addr}{d_law_data:FuncData}(F:Fun K "_law_data" "_law_data" s_law_data f_law_data d_law_data)(g_law_data:mg "_law_data"=some (.ref f_law_data))(kp_law_data:PySem.W.keepIn K (.ref f_law_data)=true)(b_law_data:Binds K d_law_data ["_law_box", "_law_depth"] []): FnOk P w K mg base CX0 53 f_law_data d_law_data ["_law_box", "_law_depth"] (spM K CT 2 m_law_data):=okf_law_data y_law_integer g_law_integer kp_law_integer y_law_take g_law_take kp_law_take y_law_text g_law_text kp_law_text z_range z_tuple F g_law_data kp_law_data b_law_data 50
variable (P w K mg base CT) in
abbrev T_law_data(f:Addr)(d:FuncData): Prop:=FnOk P w K mg base CX0 53 f d ["_law_box", "_law_depth"] (spM K CT 2 m_law_data)∧Binds K d ["_law_box", "_law_depth"] []
abbrev s_law_parse: Stmt:=topS 37
abbrev N_law_parse: List Str:=["_law_line_here", "_law_at", "_law_sign_here", "_law_call_here", "_law_k", "_law_found"]
theorem sc_law_parse: FnScope N_law_parse ["_law_line_here"] (defScope s_law_parse):=⟨rfl,rfl,rfl,by decide +kernel,rfl,by decide +kernel,by decide +kernel⟩
noncomputable def m_law_parse: CallM:=mDef 1 6 [0] (
  sSeq (sAsg (mP (mqC (.int 0))) (bName 1))
    (sSeq (sFor (miT (mVar 0)) (bName 2) (sIf (mtAnd (mtB (mOpQ dLtT (mqVar 1) (mqCB dLen (mqCons (mqVar 0) (mqNil))))) (mtB (mOpQ dIn (mqIx (mqVar 0) (mqVar 1)) (mqC (.str "abcdefghijklmnopqrstuvwxyz"))))) (sAsg (mOpQ dAdd (mqVar 1) (mqC (.int 1))) (bName 1)) (sPass)))
    (sSeq (sIf (mtOr (mtB (mOpQ dLtT (mqVar 1) (mqC (.int 1)))) (mtB (mOpQ dGtT (mqVar 1) (mqC (.int 12))))) (sRt (mP (mqC .non))) (sPass))
    (sSeq (sAsg (mLst (maV (mSl (mB (mqVar 0)) (mqNone) (mqSome (mqVar 1))) (maNil))) (bName 3))
    (sSeq (sFor (miR1 (maQ (mqCons (mqCB dLen (mqCons (mqVar 0) (mqNil))) (mqNil)))) (bName 4) (sSeq (sIf (mtB (mOpQ dEq (mqVar 1) (mqCB dLen (mqCons (mqVar 0) (mqNil))))) (sRt (mCB dTuple (maN 3 (maNil)))) (sPass))
      (sSeq (sIf (mtB (mOpQ dNe (mqIx (mqVar 0) (mqVar 1)) (mqC (.str " ")))) (sRt (mP (mqC .non))) (sPass))
      (sSeq (sAsg (mCall m_law_item [] (maN 0 (maQ (mqCons (mqOp2 dAdd (mqVar 1) (mqC (.int 1))) (mqCons (mqC (.int 0)) (mqNil)))))) (bName 5))
      (sSeq (sIf (mtB (mOpQ dIs (mqVar 5) (mqC .non))) (sRt (mP (mqC .non))) (sPass))
      (sSeq (sEx (mAppN 3 (mP (mqIx (mqVar 5) (mqC (.int 0))))))
      (sAsg (mP (mqIx (mqVar 5) (mqC (.int 1)))) (bName 1))))))))
    (sSeq (sIf (mtB (mOpQ dEq (mqVar 1) (mqCB dLen (mqCons (mqVar 0) (mqNil))))) (sRt (mCB dTuple (maN 3 (maNil)))) (sPass))
    (sRt (mP (mqC .non)))))))))
theorem ok_law_parse{f_law_item:Addr}{d_law_item:FuncData}(y_law_item:T_law_item P w K mg base CT f_law_item d_law_item)(g_law_item:mg "_law_item"=some (.ref f_law_item))(kp_law_item:PySem.W.keepIn K (.ref f_law_item)=true)(z_len:mg "len"=none)(z_range:mg "range"=none)(z_tuple:mg "tuple"=none){f:Addr}{fd:FuncData}(F:Fun K "_law_parse" "_law_parse" s_law_parse f fd):
    FnOk P w K mg base CX0 53 f fd ["_law_line_here"] (spM K CT 1 m_law_parse):=by
  have nd:=sc_law_parse.nd
  refine fun_ok F sc_law_parse fun cdv A outer s H wx hr=>?_
  exact mss_cons (mst_set (i:=1) nd rfl (Or.inl rfl) (by decide) (me_p (meq_int)))
    (mss_cons (mst_for (pi:=[]) PassesOwn.never rfl (mi_t (me_var (pv 0))) (mg_name (i:=2) nd rfl (Or.inl rfl) (by decide)) (mss_one (mst_if (mt_w (mw_and (mt_cmpQ (od_ltT hr.units0) (meq_var (pv 1)) (meq_cb cd_len (by rfl) z_len (by decide +kernel) (maq_cons (meq_var (pv 0)) (maq_nil))) (nomark _)) (mw_and1 (mt_cmpQ (od_in (room65 hr)) (meq_ix hr.units (meq_var (pv 0)) (meq_var (pv 1)) (fun _ _=>rfl)) (meq_str) (by rfl))))) (mss_one (mst_set (i:=1) nd rfl (Or.inl rfl) (by decide) (me_binQ od_add (meq_var (pv 1)) (meq_int)))) (mss_nil))))
    (mss_cons (mst_if (mt_w (mw_or (mt_cmpQ (od_ltT hr.units0) (meq_var (pv 1)) (meq_int) (nomark _)) (mw_or1 (mt_cmpQ (od_gtT hr.units0) (meq_var (pv 1)) (meq_int) (nomark _))))) (mss_one (mst_rt (me_p (meq_non)))) (mss_nil))
    (mss_cons (mst_set (i:=3) nd rfl (Or.inl rfl) (by decide) (me_lst (ma_v (me_sl (meb_q (meq_var (pv 0))) (mo_none) (mo_some (meq_var (pv 1)))) (ma_nil))))
    (mss_cons (mst_for (pi:=[]) PassesOwn.never rfl (mi_r1 (by rfl) z_range (ma_q (maq_cons (meq_cb cd_len (by rfl) z_len (by decide +kernel) (maq_cons (meq_var (pv 0)) (maq_nil))) (maq_nil)))) (mg_name (i:=4) nd rfl (Or.inl rfl) (by decide)) (mss_cons (mst_if (mt_cmpQ (od_eq hr.units) (meq_var (pv 1)) (meq_cb cd_len (by rfl) z_len (by decide +kernel) (maq_cons (meq_var (pv 0)) (maq_nil))) (nomark _)) (mss_one (mst_rt (me_cty cd_tuple (by rfl) z_tuple (by decide +kernel) (ma_n (pv 3) (ma_nil))))) (mss_nil))
      (mss_cons (mst_if (mt_cmpQ (od_ne hr.units) (meq_ix hr.units (meq_var (pv 0)) (meq_var (pv 1)) (fun _ _=>rfl)) (meq_str) (nomark _)) (mss_one (mst_rt (me_p (meq_non)))) (mss_nil))
      (mss_cons (mst_set (i:=5) nd rfl (Or.inl rfl) (by decide) (me_call y_law_item.1 mrl_law_item (hr.mono (by decide)) (by rfl) g_law_item kp_law_item y_law_item.2 .nil (fun _ _=>.nil) pass0 (ma_n (pv 0) (ma_q (maq_cons (meq_bin od_add (meq_var (pv 1)) (meq_int)) (maq_cons (meq_int) (maq_nil)))))))
      (mss_cons (mst_if (mt_cmpQ od_is (meq_var (pv 5)) (meq_non) (nomark _)) (mss_one (mst_rt (me_p (meq_non)))) (mss_nil))
      (mss_cons (mst_ex (me_appN (pv 3) (me_p (meq_ix hr.units (meq_var (pv 5)) (meq_int) (fun _ _=>rfl)))))
      (mss_one (mst_set (i:=1) nd rfl (Or.inl rfl) (by decide) (me_p (meq_ix hr.units (meq_var (pv 5)) (meq_int) (fun _ _=>rfl)))))))))))
    (mss_cons (mst_if (mt_cmpQ (od_eq hr.units) (meq_var (pv 1)) (meq_cb cd_len (by rfl) z_len (by decide +kernel) (maq_cons (meq_var (pv 0)) (maq_nil))) (nomark _)) (mss_one (mst_rt (me_cty cd_tuple (by rfl) z_tuple (by decide +kernel) (ma_n (pv 3) (ma_nil))))) (mss_nil))
    (mss_one (mst_rt (me_p (meq_non)))))))))
variable (P w K mg base CT) in
abbrev T_law_parse(f:Addr)(d:FuncData): Prop:=FnOk P w K mg base CX0 53 f d ["_law_line_here"] (spM K CT 1 m_law_parse)∧Binds K d ["_law_line_here"] []
abbrev s_law_drawn: Stmt:=topS 28
abbrev N_law_drawn: List Str:=["_law_row_here", "_law_box", "_law_kind", "_law_data_here", "_law_k"]
theorem sc_law_drawn: FnScope N_law_drawn ["_law_row_here"] (defScope s_law_drawn):=⟨rfl,rfl,rfl,by decide +kernel,rfl,by decide +kernel,by decide +kernel⟩
noncomputable def m_law_drawn: CallM:=mDef 1 5 [0] (
  sSeq (sAsg (mLst (maV (mVar 0) (maNil))) (bName 1))
    (sSeq (sAsg (mCall m_law_take [] (maN 1 (maQ (mqCons (mqC (.int 9)) (mqNil))))) (bName 2))
    (sSeq (sIf (mtB (mOpQ dEq (mqVar 2) (mqC (.int 0)))) (sSeq (sAsg (mCall m_law_integer [] (maN 1 (maNil))) (bName 3))
      (sSeq (sFor (miR1 (maV (mCall m_law_take [] (maN 1 (maQ (mqCons (mqC (.int 41)) (mqNil))))) (maNil))) (bName 4) (sAsg (mTup (maV (mVar 3) (maNil))) (bName 3)))
      (sRt (mMv 3)))) (sPass))
    (sSeq (sIf (mtB (mOpQ dEq (mqVar 2) (mqC (.int 1)))) (sRt (mCB dTuple (maV (mOp2 dMulL (mLst (maV (mFz (mCall m_law_take [] (maN 1 (maQ (mqCons (mqC (.int 3)) (mqNil)))))) (maNil))) (mCall m_law_take [] (maN 1 (maQ (mqCons (mqC (.int 300)) (mqNil)))))) (maNil)))) (sPass))
    (sSeq (sIf (mtB (mOpQ dEq (mqVar 2) (mqC (.int 2)))) (sRt (mOp2 dMulS (mCall m_law_text [] (maV (mCall m_law_take [] (maN 1 (maQ (mqCons (mqOp2 dPow (mqC (.int 10)) (mqC (.int 15))) (mqNil))))) (maQ (mqCons (mqC (.int 20)) (mqNil))))) (mCall m_law_take [] (maN 1 (maQ (mqCons (mqC (.int 20)) (mqNil))))))) (sPass))
    (sRt (mTup (maV (mCall m_law_data [] (maN 1 (maQ (mqCons (mqC (.int 3)) (mqNil))))) (maV (mCall m_law_data [] (maN 1 (maQ (mqCons (mqC (.int 3)) (mqNil))))) (maV (mCall m_law_data [] (maN 1 (maQ (mqCons (mqC (.int 2)) (mqNil))))) (maNil)))))))))))
theorem ok_law_drawn{f_law_data:Addr}{d_law_data:FuncData}(y_law_data:T_law_data P w K mg base CT f_law_data d_law_data)(g_law_data:mg "_law_data"=some (.ref f_law_data))(kp_law_data:PySem.W.keepIn K (.ref f_law_data)=true){f_law_integer:Addr}{d_law_integer:FuncData}(y_law_integer:T_law_integer P w K mg base CT f_law_integer d_law_integer)(g_law_integer:mg "_law_integer"=some (.ref f_law_integer))(kp_law_integer:PySem.W.keepIn K (.ref f_law_integer)=true){f_law_take:Addr}{d_law_take:FuncData}(y_law_take:T_law_take P w K mg base CT f_law_take d_law_take)(g_law_take:mg "_law_take"=some (.ref f_law_take))(kp_law_take:PySem.W.keepIn K (.ref f_law_take)=true){f_law_text:Addr}{d_law_text:FuncData}(y_law_text:T_law_text P w K mg base CT f_law_text d_law_text)(g_law_text:mg "_law_text"=some (.ref f_law_text))(kp_law_text:PySem.W.keepIn K (.ref f_law_text)=true)(z_range:mg "range"=none)(z_tuple:mg "tuple"=none){f:Addr}{fd:FuncData}(F:Fun K "_law_drawn" "_law_drawn" s_law_drawn f fd):
    FnOk P w K mg base CX0 54 f fd ["_law_row_here"] (spM K CT 1 m_law_drawn):=by
  have nd:=sc_law_drawn.nd
  refine fun_ok F sc_law_drawn fun cdv A outer s H wx hr=>?_
  exact mss_cons (mst_set (i:=1) nd rfl (Or.inl rfl) (by decide) (me_lst (ma_v (me_var (pv 0)) (ma_nil))))
    (mss_cons (mst_set (i:=2) nd rfl (Or.inl rfl) (by decide) (me_call y_law_take.1 mDef_len (hr.mono (by decide)) (by rfl) g_law_take kp_law_take y_law_take.2 .nil (fun _ _=>.nil) pass0 (ma_n (pv 1) (ma_q (maq_cons (meq_int) (maq_nil))))))
    (mss_cons (mst_if (mt_cmpQ (od_eq hr.units) (meq_var (pv 2)) (meq_int) (nomark _)) (mss_cons (mst_set (i:=3) nd rfl (Or.inl rfl) (by decide) (me_call y_law_integer.1 mDef_len (hr.mono (by decide)) (by rfl) g_law_integer kp_law_integer y_law_integer.2 .nil (fun _ _=>.nil) pass0 (ma_n (pv 1) (ma_nil))))
      (mss_cons (mst_for (pi:=[]) PassesOwn.never rfl (mi_r1 (by rfl) z_range (ma_v (me_call y_law_take.1 mDef_len (hr.mono (by decide)) (by rfl) g_law_take kp_law_take y_law_take.2 .nil (fun _ _=>.nil) pass0 (ma_n (pv 1) (ma_q (maq_cons (meq_int) (maq_nil))))) (ma_nil))) (mg_name (i:=4) nd rfl (Or.inl rfl) (by decide)) (mss_one (mst_set (i:=3) nd rfl (Or.inl rfl) (by decide) (me_tup (ma_v (me_var (pv 3)) (ma_nil))))))
      (mss_one (mst_rt (me_mv (pv 3)))))) (mss_nil))
    (mss_cons (mst_if (mt_cmpQ (od_eq hr.units) (meq_var (pv 2)) (meq_int) (nomark _)) (mss_one (mst_rt (me_cty cd_tuple (by rfl) z_tuple (by decide +kernel) (ma_v (me_bin od_mulL (me_lst (ma_v (me_fz (me_call y_law_take.1 mDef_len (hr.mono (by decide)) (by rfl) g_law_take kp_law_take y_law_take.2 .nil (fun _ _=>.nil) pass0 (ma_n (pv 1) (ma_q (maq_cons (meq_int) (maq_nil)))))) (ma_nil))) (meb_v (me_call y_law_take.1 mDef_len (hr.mono (by decide)) (by rfl) g_law_take kp_law_take y_law_take.2 .nil (fun _ _=>.nil) pass0 (ma_n (pv 1) (ma_q (maq_cons (meq_int) (maq_nil))))))) (ma_nil))))) (mss_nil))
    (mss_cons (mst_if (mt_cmpQ (od_eq hr.units) (meq_var (pv 2)) (meq_int) (nomark _)) (mss_one (mst_rt (me_bin od_mulS (me_call y_law_text.1 mDef_len (hr.mono (by decide)) (by rfl) g_law_text kp_law_text y_law_text.2 .nil (fun _ _=>.nil) pass0 (ma_v (me_call y_law_take.1 mDef_len (hr.mono (by decide)) (by rfl) g_law_take kp_law_take y_law_take.2 .nil (fun _ _=>.nil) pass0 (ma_n (pv 1) (ma_q (maq_cons (meq_bin od_pow (meq_int) (meq_int)) (maq_nil))))) (ma_q (maq_cons (meq_int) (maq_nil))))) (meb_v (me_call y_law_take.1 mDef_len (hr.mono (by decide)) (by rfl) g_law_take kp_law_take y_law_take.2 .nil (fun _ _=>.nil) pass0 (ma_n (pv 1) (ma_q (maq_cons (meq_int) (maq_nil))))))))) (mss_nil))
    (mss_one (mst_rt (me_tup (ma_v (me_call y_law_data.1 mrl_law_data (hr.mono (by decide)) (by rfl) g_law_data kp_law_data y_law_data.2 .nil (fun _ _=>.nil) pass0 (ma_n (pv 1) (ma_q (maq_cons (meq_int) (maq_nil))))) (ma_v (me_call y_law_data.1 mrl_law_data (hr.mono (by decide)) (by rfl) g_law_data kp_law_data y_law_data.2 .nil (fun _ _=>.nil) pass0 (ma_n (pv 1) (ma_q (maq_cons (meq_int) (maq_nil))))) (ma_v (me_call y_law_data.1 mrl_law_data (hr.mono (by decide)) (by rfl) g_law_data kp_law_data y_law_data.2 .nil (fun _ _=>.nil) pass0 (ma_n (pv 1) (ma_q (maq_cons (meq_int) (maq_nil))))) (ma_nil)))))))))))
variable (P w K mg base CT) in
abbrev T_law_drawn(f:Addr)(d:FuncData): Prop:=FnOk P w K mg base CX0 54 f d ["_law_row_here"] (spM K CT 1 m_law_drawn)∧Binds K d ["_law_row_here"] []
abbrev s_law_call: Stmt:=topS 33
abbrev N_law_call: List Str:=["_law_row_here", "_law_box", "_law_call_here", "_law_k"]
theorem sc_law_call: FnScope N_law_call ["_law_row_here"] (defScope s_law_call):=⟨rfl,rfl,rfl,by decide +kernel,rfl,by decide +kernel,by decide +kernel⟩
noncomputable def m_law_call: CallM:=mDef 1 4 [0] (
  sSeq (sAsg (mLst (maV (mVar 0) (maNil))) (bName 1))
    (sSeq (sAsg (mLst (maV (mFz (mCall m_law_word [] (maV (mCall m_law_take [] (maN 1 (maQ (mqCons (mqOp2 dPow (mqC (.int 10)) (mqC (.int 12))) (mqNil))))) (maV (mOp2 dAdd (mP (mqC (.int 1))) (mCall m_law_take [] (maN 1 (maQ (mqCons (mqC (.int 12)) (mqNil)))))) (maNil))))) (maNil))) (bName 2))
    (sSeq (sFor (miR1 (maV (mIx (mLst (maV (mP (mqC (.int 0))) (maV (mP (mqC (.int 1))) (maV (mP (mqC (.int 2))) (maV (mP (mqC (.int 3))) (maV (mP (mqC (.int 1))) (maNil))))))) (mCall m_law_take [] (maN 1 (maQ (mqCons (mqC (.int 5)) (mqNil)))))) (maNil))) (bName 3) (sEx (mAppN 2 (mCall m_law_data [] (maN 1 (maQ (mqCons (mqC (.int 3)) (mqNil))))))))
    (sSeq (sIf (mtB (mOp2 dEq (mCall m_law_take [] (maN 1 (maQ (mqCons (mqC (.int 6)) (mqNil))))) (mB (mqC (.int 0))))) (sEx (mAppN 2 (mCall m_law_drawn [] (maQ (mqCons (mqIx (mqVar 1) (mqC (.int 0))) (mqNil)))))) (sPass))
    (sRt (mCB dTuple (maN 2 (maNil))))))))
theorem ok_law_call{f_law_data:Addr}{d_law_data:FuncData}(y_law_data:T_law_data P w K mg base CT f_law_data d_law_data)(g_law_data:mg "_law_data"=some (.ref f_law_data))(kp_law_data:PySem.W.keepIn K (.ref f_law_data)=true){f_law_drawn:Addr}{d_law_drawn:FuncData}(y_law_drawn:T_law_drawn P w K mg base CT f_law_drawn d_law_drawn)(g_law_drawn:mg "_law_drawn"=some (.ref f_law_drawn))(kp_law_drawn:PySem.W.keepIn K (.ref f_law_drawn)=true){f_law_take:Addr}{d_law_take:FuncData}(y_law_take:T_law_take P w K mg base CT f_law_take d_law_take)(g_law_take:mg "_law_take"=some (.ref f_law_take))(kp_law_take:PySem.W.keepIn K (.ref f_law_take)=true){f_law_word:Addr}{d_law_word:FuncData}(y_law_word:T_law_word P w K mg base CT f_law_word d_law_word)(g_law_word:mg "_law_word"=some (.ref f_law_word))(kp_law_word:PySem.W.keepIn K (.ref f_law_word)=true)(z_range:mg "range"=none)(z_tuple:mg "tuple"=none){f:Addr}{fd:FuncData}(F:Fun K "_law_call" "_law_call" s_law_call f fd):
    FnOk P w K mg base CX0 55 f fd ["_law_row_here"] (spM K CT 1 m_law_call):=by
  have nd:=sc_law_call.nd
  refine fun_ok F sc_law_call fun cdv A outer s H wx hr=>?_
  exact mss_cons (mst_set (i:=1) nd rfl (Or.inl rfl) (by decide) (me_lst (ma_v (me_var (pv 0)) (ma_nil))))
    (mss_cons (mst_set (i:=2) nd rfl (Or.inl rfl) (by decide) (me_lst (ma_v (me_fz (me_call y_law_word.1 mDef_len (hr.mono (by decide)) (by rfl) g_law_word kp_law_word y_law_word.2 .nil (fun _ _=>.nil) pass0 (ma_v (me_call y_law_take.1 mDef_len (hr.mono (by decide)) (by rfl) g_law_take kp_law_take y_law_take.2 .nil (fun _ _=>.nil) pass0 (ma_n (pv 1) (ma_q (maq_cons (meq_bin od_pow (meq_int) (meq_int)) (maq_nil))))) (ma_v (me_bin od_add (me_p (meq_int)) (meb_v (me_call y_law_take.1 mDef_len (hr.mono (by decide)) (by rfl) g_law_take kp_law_take y_law_take.2 .nil (fun _ _=>.nil) pass0 (ma_n (pv 1) (ma_q (maq_cons (meq_int) (maq_nil))))))) (ma_nil))))) (ma_nil))))
    (mss_cons (mst_for (pi:=[]) PassesOwn.never rfl (mi_r1 (by rfl) z_range (ma_v (me_ix hr.units (me_lst (ma_v (me_p (meq_int)) (ma_v (me_p (meq_int)) (ma_v (me_p (meq_int)) (ma_v (me_p (meq_int)) (ma_v (me_p (meq_int)) (ma_nil))))))) (meb_v (me_call y_law_take.1 mDef_len (hr.mono (by decide)) (by rfl) g_law_take kp_law_take y_law_take.2 .nil (fun _ _=>.nil) pass0 (ma_n (pv 1) (ma_q (maq_cons (meq_int) (maq_nil)))))) (fun _ _=>rfl)) (ma_nil))) (mg_name (i:=3) nd rfl (Or.inl rfl) (by decide)) (mss_one (mst_ex (me_appN (pv 2) (me_call y_law_data.1 mrl_law_data (hr.mono (by decide)) (by rfl) g_law_data kp_law_data y_law_data.2 .nil (fun _ _=>.nil) pass0 (ma_n (pv 1) (ma_q (maq_cons (meq_int) (maq_nil)))))))))
    (mss_cons (mst_if (mt_cmp (od_eq hr.units) (me_call y_law_take.1 mDef_len (hr.mono (by decide)) (by rfl) g_law_take kp_law_take y_law_take.2 .nil (fun _ _=>.nil) pass0 (ma_n (pv 1) (ma_q (maq_cons (meq_int) (maq_nil))))) (meb_q (meq_int)) (nomark _)) (mss_one (mst_ex (me_appN (pv 2) (me_call y_law_drawn.1 mDef_len (hr.mono (by decide)) (by rfl) g_law_drawn kp_law_drawn y_law_drawn.2 .nil (fun _ _=>.nil) pass0 (ma_q (maq_cons (meq_ix hr.units (meq_var (pv 1)) (meq_int) (fun _ _=>rfl)) (maq_nil))))))) (mss_nil))
    (mss_one (mst_rt (me_cty cd_tuple (by rfl) z_tuple (by decide +kernel) (ma_n (pv 2) (ma_nil))))))))
variable (P w K mg base CT) in
abbrev T_law_call(f:Addr)(d:FuncData): Prop:=FnOk P w K mg base CX0 55 f d ["_law_row_here"] (spM K CT 1 m_law_call)∧Binds K d ["_law_row_here"] []
abbrev s_law: Stmt:=topS 40
abbrev N_law: List Str:=["_law_script", "_law_k", "_law_line_here", "_law_turn", "_law_due", "_law_told_here"]
theorem sc_law: FnScope N_law ["_law_script"] (defScope s_law):=⟨rfl,rfl,rfl,by decide +kernel,rfl,by decide +kernel,by decide +kernel⟩
noncomputable def m_law: CallM:=mDef 1 6 [0] (
  sSeq (sFor (miR1 (maQ (mqCons (mqC (.int 10)) (mqNil)))) (bName 1) (sSeq (sAsg (mCall m_law_line [] (maV (mCall m_law_call [] (maV (mOp2 dAdd (mOp2 dMul (mCall m_law_row [] (maN 0 (maN 1 (maNil)))) (mB (mqC (.int 2147483647)))) (mCB dInt (maV (mCall m_law_row [] (maN 0 (maQ (mqCons (mqOp2 dAdd (mqC (.int 10)) (mqVar 1)) (mqNil))))) (maNil)))) (maNil))) (maNil))) (bName 2))
      (sFor (miR1 (maQ (mqCons (mqC (.int 3)) (mqNil)))) (bName 3) (sSeq (sAsg (mCall m_law_parse [] (maN 2 (maNil))) (bName 4))
        (sSeq (sAsg (mCall m_law_told [] (maN 2 (maNil))) (bName 5))
        (sSeq (sIf (mtAnd (mtB (mOpQ dIs (mqVar 4) (mqC .non))) (mtB (mOpQ dNe (mqIx (mqVar 5) (mqC (.int 0))) (mqC (.str "malformed"))))) (sRt (mP (mqC (.bl false)))) (sPass))
        (sSeq (sIf (mtAnd (mtB (mOpQ dIsNot (mqVar 4) (mqC .non))) (mtOr (mtB (mOpQ dNe (mqIx (mqVar 5) (mqC (.int 0))) (mqC (.str "call")))) (mtNot (mtV (mCall m_law_alike [] (maV (mP (mqIx (mqVar 5) (mqC (.int 1)))) (maN 4 (maNil)))))))) (sRt (mP (mqC (.bl false)))) (sPass))
        (sAsg (mCall m_law_spoilt [] (maN 2 (maV (mLst (maV (mFz (mCall m_law_row [] (maN 0 (maQ (mqCons (mqOp2 dAdd (mqOp2 dAdd (mqC (.int 20)) (mqOp2 dMul (mqC (.int 2)) (mqVar 1))) (mqVar 3)) (mqNil)))))) (maNil))) (maNil)))) (bName 2)))))))))
    (sRt (mP (mqC (.bl true)))))
theorem ok_law {f_law_alike:Addr} {d_law_alike:FuncData} (y_law_alike:T_law_alike P w K mg base CT f_law_alike d_law_alike) (g_law_alike:mg "_law_alike"=some (.ref f_law_alike)) (kp_law_alike:PySem.W.keepIn K (.ref f_law_alike)=true) {f_law_call:Addr} {d_law_call:FuncData} (y_law_call:T_law_call P w K mg base CT f_law_call d_law_call) (g_law_call:mg "_law_call"=some (.ref f_law_call)) (kp_law_call:PySem.W.keepIn K (.ref f_law_call)=true) {f_law_line:Addr} {d_law_line:FuncData} (y_law_line:T_law_line P w K mg base CT f_law_line d_law_line) (g_law_line:mg "_law_line"=some (.ref f_law_line)) (kp_law_line:PySem.W.keepIn K (.ref f_law_line)=true) {f_law_parse:Addr} {d_law_parse:FuncData} (y_law_parse:T_law_parse P w K mg base CT f_law_parse d_law_parse) (g_law_parse:mg "_law_parse"=some (.ref f_law_parse)) (kp_law_parse:PySem.W.keepIn K (.ref f_law_parse)=true) {f_law_row:Addr} {d_law_row:FuncData} (y_law_row:T_law_row P w K mg base CT f_law_row d_law_row) (g_law_row:mg "_law_row"=some (.ref f_law_row)) (kp_law_row:PySem.W.keepIn K (.ref f_law_row)=true) {f_law_spoilt:Addr} {d_law_spoilt:FuncData} (y_law_spoilt:T_law_spoilt P w K mg base CT f_law_spoilt d_law_spoilt) (g_law_spoilt:mg "_law_spoilt"=some (.ref f_law_spoilt)) (kp_law_spoilt:PySem.W.keepIn K (.ref f_law_spoilt)=true) {f_law_told:Addr} {d_law_told:FuncData} (y_law_told:T_law_told P w K mg base CT f_law_told d_law_told) (g_law_told:mg "_law_told"=some (.ref f_law_told)) (kp_law_told:PySem.W.keepIn K (.ref f_law_told)=true) (z_int:mg "int"=none) (z_range:mg "range"=none) {f:Addr} {fd:FuncData} (F:Fun K "law" "law" s_law f fd) :
    FnOk P w K mg base CX0 56 f fd ["_law_script"] (spM K CT 1 m_law):=by
  have nd:=sc_law.nd
  refine fun_ok F sc_law fun cdv A outer s H wx hr=>?_
  exact mss_cons (mst_for (pi:=[]) PassesOwn.never rfl (mi_r1 (by rfl) z_range (ma_q (maq_cons (meq_int) (maq_nil)))) (mg_name (i:=1) nd rfl (Or.inl rfl) (by decide)) (mss_cons (mst_set (i:=2) nd rfl (Or.inl rfl) (by decide) (me_call y_law_line.1 mDef_len (hr.mono (by decide)) (by rfl) g_law_line kp_law_line y_law_line.2 .nil (fun _ _=>.nil) pass0 (ma_v (me_call y_law_call.1 mDef_len (hr.mono (by decide)) (by rfl) g_law_call kp_law_call y_law_call.2 .nil (fun _ _=>.nil) pass0 (ma_v (me_bin od_add (me_bin od_mul (me_call y_law_row.1 mDef_len (hr.mono (by decide)) (by rfl) g_law_row kp_law_row y_law_row.2 .nil (fun _ _=>.nil) pass0 (ma_n (pv 0) (ma_n (pv 1) (ma_nil)))) (meb_q (meq_int))) (meb_v (me_cty cd_int (by rfl) z_int (by decide +kernel) (ma_v (me_call y_law_row.1 mDef_len (hr.mono (by decide)) (by rfl) g_law_row kp_law_row y_law_row.2 .nil (fun _ _=>.nil) pass0 (ma_n (pv 0) (ma_q (maq_cons (meq_bin od_add (meq_int) (meq_var (pv 1))) (maq_nil))))) (ma_nil))))) (ma_nil))) (ma_nil))))
      (mss_one (mst_for (pi:=[]) PassesOwn.never rfl (mi_r1 (by rfl) z_range (ma_q (maq_cons (meq_int) (maq_nil)))) (mg_name (i:=3) nd rfl (Or.inl rfl) (by decide)) (mss_cons (mst_set (i:=4) nd rfl (Or.inl rfl) (by decide) (me_call y_law_parse.1 mDef_len (hr.mono (by decide)) (by rfl) g_law_parse kp_law_parse y_law_parse.2 .nil (fun _ _=>.nil) pass0 (ma_n (pv 2) (ma_nil))))
        (mss_cons (mst_set (i:=5) nd rfl (Or.inl rfl) (by decide) (me_call y_law_told.1 mDef_len (hr.mono (by decide)) (by rfl) g_law_told kp_law_told y_law_told.2 .nil (fun _ _=>.nil) pass0 (ma_n (pv 2) (ma_nil))))
        (mss_cons (mst_if (mt_w (mw_and (mt_cmpQ od_is (meq_var (pv 4)) (meq_non) (nomark _)) (mw_and1 (mt_cmpQ (od_ne hr.units) (meq_ix hr.units (meq_var (pv 5)) (meq_int) (fun _ _=>rfl)) (meq_str) (nomark _))))) (mss_one (mst_rt (me_p (meq_bl)))) (mss_nil))
        (mss_cons (mst_if (mt_w (mw_and (mt_cmpQ od_isnot (meq_var (pv 4)) (meq_non) (nomark _)) (mw_and1 (mt_w (mw_or (mt_cmpQ (od_ne hr.units) (meq_ix hr.units (meq_var (pv 5)) (meq_int) (fun _ _=>rfl)) (meq_str) (nomark _)) (mw_or1 (mt_not (mt_v (meb_v (me_call y_law_alike.1 mrl_law_alike (hr.mono (by decide)) (by rfl) g_law_alike kp_law_alike y_law_alike.2 .nil (fun _ _=>.nil) pass0 (ma_v (me_p (meq_ix hr.units (meq_var (pv 5)) (meq_int) (fun _ _=>rfl))) (ma_n (pv 4) (ma_nil))))))))))))) (mss_one (mst_rt (me_p (meq_bl)))) (mss_nil))
        (mss_one (mst_set (i:=2) nd rfl (Or.inl rfl) (by decide) (me_call y_law_spoilt.1 mDef_len (hr.mono (by decide)) (by rfl) g_law_spoilt kp_law_spoilt y_law_spoilt.2 .nil (fun _ _=>.nil) pass0 (ma_n (pv 2) (ma_v (me_lst (ma_v (me_fz (me_call y_law_row.1 mDef_len (hr.mono (by decide)) (by rfl) g_law_row kp_law_row y_law_row.2 .nil (fun _ _=>.nil) pass0 (ma_n (pv 0) (ma_q (maq_cons (meq_bin od_add (meq_bin od_add (meq_int) (meq_bin od_mul (meq_int) (meq_var (pv 1)))) (meq_var (pv 3))) (maq_nil)))))) (ma_nil))) (ma_nil))))))))))))))
    (mss_one (mst_rt (me_p (meq_bl))))
end
end Gen
set_option synthInstance.maxSize 100000
set_option synthInstance.maxHeartbeats 1000000
namespace Gen
open PySem E Y
open L2 (atI ixN)
abbrev e_LI: (List Int)→D:=eL false D.int
theorem pu_LI(x:(List Int)): (e_LI x).pure=true:=puF (puM (fun _=>rfl) x)
abbrev e_MI: (List Int)→D:=eL true D.int
theorem np_MI(x:(List Int)): (e_MI x).pure=false:=npO
abbrev e_MS: (List Str)→D:=eL true D.str
abbrev e_MV: (List V)→D:=eL true e_V
abbrev e_QV: (List V)→D:=eQ e_V
theorem pu_QV(x:(List V)): (e_QV x).pure=true:=puT (puM pu_V x)
abbrev e_T1V: V→D:=fun x=>.tup [e_V x]
abbrev e_QI: (List Int)→D:=eQ D.int
abbrev e_T3VVV: (V×V×V)→D:=fun x=>.tup [e_V x.1,e_V x.2.1,e_V x.2.2]
abbrev e_J2SI: (Str×Int)→D:=fun x=>.lst true [D.str x.1,D.int x.2]
abbrev e_J2VI: (V×Int)→D:=fun x=>.lst true [e_V x.1,D.int x.2]
abbrev e_OI: (Option Int)→D:=eO D.int
abbrev e_J2OII: ((Option Int)×Int)→D:=fun x=>.lst true [e_OI x.1,D.int x.2]
abbrev e_OJ2VI: (Option (V×Int))→D:=eO e_J2VI
abbrev e_MKrows: (List Nat)→D:=eL true D.loc
abbrev e_T2VI: (V×Int)→D:=fun x=>.tup [e_V x.1,D.int x.2]
theorem pu_T2VI(x:(V×Int)): (e_T2VI x).pure=true:=puT (puc (pu_V x.1) (puc rfl (pun)))
abbrev e_T2SV: (Str×V)→D:=fun x=>.tup [D.str x.1,e_V x.2]
theorem pu_T2SV(x:(Str×V)): (e_T2SV x).pure=true:=puT (puc rfl (puc (pu_V x.2) (pun)))
abbrev e_OJ2SI: (Option (Str×Int))→D:=eO e_J2SI
abbrev e_OJ2OII: (Option ((Option Int)×Int))→D:=eO e_J2OII
abbrev e_OS: (Option Str)→D:=eO D.str
theorem pu_OS(x:(Option Str)): (e_OS x).pure=true:=puO (fun _=>rfl) x
noncomputable def t_law_row(script:(List Int))(k:Int): Option Int :=
  (if decide ((0:Int)<(script.length:Int))=true then
    (modO k (script.length:Int)).bind fun remn =>
    (atI script remn).bind fun cell1 =>
    some cell1
  else
    some (0:Int)).bind fun cell =>
  (if decide (cell<(0:Int))=true then
    (some ((1:Int) - ((2:Int)*cell))).bind fun cell3 =>
    some cell3
  else
    some cell).bind fun cell2 =>
  if ((decide ((1000000000:Int)≤cell2))&&(decide (k<(script.length:Int))))=true then
    some cell2
  else
    (some ((((cell2*(48271:Int))+((k+(1:Int))*(69621:Int)))+(script.length:Int)) % (2147483647:Int))).bind fun first =>
    (mulO first first).bind fun prod =>
    (some (((prod+(cell2*(16807:Int)))+k) % (2147483629:Int))).bind fun second =>
    some ((second*(2147483647:Int))+((first*(40692:Int)) % (2147483399:Int)))
abbrev q_law_row(script:(List Int))(k:Int)(h:List Ob): Int→Fl→Mem→Prop:=fun r=>FP (D.int r) [0,1] [e_LI script,D.int k] [e_LI script,D.int k] h
theorem y_law_row(script:(List Int))(k:Int)(h:List Ob)(r:Int)(hr:t_law_row script k=some r): m_law_row [e_LI script,D.int k] h=.ok (D.int r,[e_LI script,D.int k],h):=by
  unfold t_law_row at hr
  unfold m_law_row
  refine run_def rfl rfl (xcP (rfl)) (fun m hm=>?_)
  show Run _ m (q_law_row script k h r)
  refine run_asg hm (YM.pp YT.c rfl) (YG.name (i:=2) (d:=D.int (0:Int)) rfl) (fun m hm=>?_)
  obtain⟨cell,h_cell,hr⟩:=bnd hr
  refine run_ifj (p1:=[some (e_LI script),some (D.int k),some (D.int cell),some D.und,some D.und]) (h1:=h) hm (YB.bb (YM.opQ (YT.cb (YL.cons (YT.var rfl rfl) YL.nil) len_L rfl) YT.c rfl)) (fun hc m hm=>?_) (fun hc m hm=>?_) (fun m hm=>?_)
  · clear hr
    have hr:=h_cell
    clear h_cell
    rw[if_pos hc] at hr
    obtain⟨remn,h_remn,hr⟩:=bnd hr
    obtain⟨cell1,h_cell1,hr⟩:=bnd hr
    refine run_asg hm (YM.pp (YT.ix (YT.var rfl rfl) (YT.op2 (YT.cb (YL.cons (YT.var rfl rfl) YL.nil) rfl rfl) (YT.cb (YL.cons (YT.var rfl rfl) YL.nil) len_L rfl) (mod_O h_remn) rfl) (ix_L h_cell1)) rfl) (YG.name (i:=2) (d:=D.int cell1) rfl) (fun m hm=>?_)
    obtain rfl:=Option.some.inj hr
    exact run_end ⟨rfl,hm.wk (.keep (.keep (.keep (.keep (.keep Wk.nil)))))⟩
  · clear hr
    have hr:=h_cell
    clear h_cell
    rw[if_neg (ne_t hc)] at hr
    refine run_pass ?_
    obtain rfl:=Option.some.inj hr
    exact run_end ⟨rfl,hm.wk (.keep (.keep (.keep (.keep (.keep Wk.nil)))))⟩
  obtain⟨cell2,h_cell2,hr⟩:=bnd hr
  refine run_ifj (p1:=[some (e_LI script),some (D.int k),some (D.int cell2),some D.und,some D.und]) (h1:=h) hm (YB.bb (YM.opQ (YT.var rfl rfl) YT.c rfl)) (fun hc m hm=>?_) (fun hc m hm=>?_) (fun m hm=>?_)
  · clear hr
    have hr:=h_cell2
    clear h_cell2
    rw[if_pos hc] at hr
    obtain⟨cell3,h_cell3,hr⟩:=bnd hr
    refine run_asg hm (YM.cast (YM.opQ YT.c (YT.op2 YT.c (YT.var rfl rfl) (mul_l (by decide)) rfl) rfl) (congrArg D.int (Option.some.inj h_cell3))) (YG.name (i:=2) (d:=D.int cell3) rfl) (fun m hm=>?_)
    obtain rfl:=Option.some.inj hr
    exact run_end ⟨rfl,hm.wk (.keep (.keep (.keep (.keep (.keep Wk.nil)))))⟩
  · clear hr
    have hr:=h_cell2
    clear h_cell2
    rw[if_neg (ne_t hc)] at hr
    refine run_pass ?_
    obtain rfl:=Option.some.inj hr
    exact run_end ⟨rfl,hm.wk (.keep (.keep (.keep (.keep (.keep Wk.nil)))))⟩
  refine run_if hm (YB.andT (YB.bb (YM.opQ (YT.var rfl rfl) (YT.op2 YT.c YT.c (pow_k (j:=9) 1000000000 (by decide) (by decide)) rfl) rfl)) (YB.bb (YM.opQ (YT.var rfl rfl) (YT.cb (YL.cons (YT.var rfl rfl) YL.nil) len_L rfl) rfl))) (fun hc m hm=>?_) (fun hc m hm=>?_)
  · rw[if_pos hc] at hr
    obtain rfl:=Option.some.inj hr
    exact run_rt hm (YM.mv rfl rfl) (fun m hm=>⟨rfl,(Out.pin rfl rfl (Out.pin rfl rfl (Out.nil))).eq hm.e,hm.h⟩)
  · rw[if_neg (ne_t hc)] at hr
    refine run_pass ?_
    obtain⟨first,h_first,hr⟩:=bnd hr
    refine run_asg hm (YM.cast (YM.opQ (YT.cb (YL.cons (YT.op2 (YT.op2 (YT.op2 (YT.var rfl rfl) YT.c (mul_r (by decide)) rfl) (YT.op2 (YT.op2 (YT.var rfl rfl) YT.c rfl rfl) YT.c (mul_r (by decide)) rfl) rfl rfl) (YT.cb (YL.cons (YT.var rfl rfl) YL.nil) len_L rfl) rfl rfl) YL.nil) rfl rfl) YT.c (mod_k (by decide))) (congrArg D.int (Option.some.inj h_first))) (YG.name (i:=3) (d:=D.int first) rfl) (fun m hm=>?_)
    obtain⟨prod,h_prod,hr⟩:=bnd hr
    obtain⟨second,h_second,hr⟩:=bnd hr
    refine run_asg hm (YM.cast (YM.opQ (YT.cb (YL.cons (YT.op2 (YT.op2 (YT.op2 (YT.var rfl rfl) (YT.var rfl rfl) (mul_O h_prod) rfl) (YT.op2 (YT.var rfl rfl) YT.c (mul_r (by decide)) rfl) rfl rfl) (YT.var rfl rfl) rfl rfl) YL.nil) rfl rfl) YT.c (mod_k (by decide))) (congrArg D.int (Option.some.inj h_second))) (YG.name (i:=4) (d:=D.int second) rfl) (fun m hm=>?_)
    refine run_last ?_
    obtain rfl:=Option.some.inj hr
    exact run_rt hm (YM.opQ (YT.op2 (YT.var rfl rfl) YT.c (mul_r (by decide)) rfl) (YT.op2 (YT.cb (YL.cons (YT.op2 (YT.var rfl rfl) YT.c (mul_r (by decide)) rfl) YL.nil) rfl rfl) YT.c (mod_k (by decide)) rfl) rfl) (fun m hm=>⟨rfl,(Out.pin rfl rfl (Out.pin rfl rfl (Out.nil))).eq hm.e,hm.h⟩)
noncomputable def t_law_take(box:(List Int))(size:Int): Option (Int×(List Int)) :=
  (atI box (0:Int)).bind fun it =>
  (modO it size).bind fun digit =>
  (atI box (0:Int)).bind fun it1 =>
  (fdivO it1 size).bind fun quot =>
  (setI box (0:Int) quot).bind fun box1 =>
  some (digit,box1)
abbrev q_law_take(box:(List Int))(size:Int)(h:List Ob): (Int×(List Int))→Fl→Mem→Prop:=fun r=>FP (D.int r.1) [0,1] [e_MI box,D.int size] [e_MI r.2,D.int size] h
theorem y_law_take(box:(List Int))(size:Int)(h:List Ob)(r:(Int×(List Int)))(hr:t_law_take box size=some r): m_law_take [e_MI box,D.int size] h=.ok (D.int r.1,[e_MI r.2,D.int size],h):=by
  unfold t_law_take at hr
  unfold m_law_take
  refine run_def rfl rfl (xcP (rfl)) (fun m hm=>?_)
  show Run _ m (q_law_take box size h r)
  obtain⟨it,h_it,hr⟩:=bnd hr
  obtain⟨digit,h_digit,hr⟩:=bnd hr
  refine run_asg hm (YM.opQ (YT.cb (YL.cons (YT.ix (YT.var rfl rfl) YT.c (ix_L h_it)) YL.nil) rfl rfl) (YT.var rfl rfl) (mod_O h_digit)) (YG.name (i:=2) (d:=D.int digit) rfl) (fun m hm=>?_)
  obtain⟨it1,h_it1,hr⟩:=bnd hr
  obtain⟨quot,h_quot,hr⟩:=bnd hr
  obtain⟨box1,h_box1,hr⟩:=bnd hr
  refine run_asg hm (YM.opQ (YT.ix (YT.var rfl rfl) YT.c (ix_L h_it1)) (YT.var rfl rfl) (fdiv_O h_quot)) (YG.subL (e:=D.int) YT.c rfl h_box1) (fun m hm=>?_)
  refine run_last ?_
  obtain rfl:=Option.some.inj hr
  exact run_rt hm (YM.mv rfl rfl) (fun m hm=>⟨rfl,(Out.pin rfl rfl (Out.pin rfl rfl (Out.nil))).eq hm.e,hm.h⟩)
noncomputable def t_law_word_l1(letters:Str)(s:(Str×Int))(k:Int): Option (Str×Int) :=
  (atS letters (s.2 % (26:Int))).bind fun ch =>
  (catSO s.1 ch).bind fun word1 =>
  (some ((s.2 / (26:Int))+k)).bind fun restx =>
  some (word1,restx)
noncomputable def t_law_word(number:Int)(count:Int): Option Str :=
  (some ("abcdefghijklmnopqrstuvwxyz":Str)).bind fun letters =>
  (some ("":Str)).bind fun word =>
  (gd ((-4611686018427387904≤count∧count<4611686018427387904)) (some (rangeI 0 count))).bind fun rg =>
  (forS (t_law_word_l1 letters) rg (word,number)).bind fun s1 =>
  some s1.1
abbrev q_law_word(number:Int)(count:Int)(h:List Ob): Str→Fl→Mem→Prop:=fun r=>FP (D.str r) [0,1] [D.int number,D.int count] [D.int number,D.int count] h
theorem y_law_word(number:Int)(count:Int)(h:List Ob)(r:Str)(hr:t_law_word number count=some r): m_law_word [D.int number,D.int count] h=.ok (D.str r,[D.int number,D.int count],h):=by
  unfold t_law_word at hr
  unfold m_law_word
  refine run_def rfl rfl (xcP (rfl)) (fun m hm=>?_)
  show Run _ m (q_law_word number count h r)
  obtain⟨letters,h_letters,hr⟩:=bnd hr
  refine run_asg hm (YM.cast (YM.pp YT.c rfl) (congrArg D.str (Option.some.inj h_letters))) (YG.name (i:=2) (d:=D.str letters) rfl) (fun m hm=>?_)
  obtain⟨word,h_word,hr⟩:=bnd hr
  refine run_asg hm (YM.cast (YM.pp YT.c rfl) (congrArg D.str (Option.some.inj h_word))) (YG.name (i:=3) (d:=D.str word) rfl) (fun m hm=>?_)
  refine run_asg hm (YM.pp (YT.cb (YL.cons (YT.var rfl rfl) YL.nil) rfl rfl) rfl) (YG.name (i:=4) (d:=D.int number) rfl) (fun m hm=>?_)
  obtain⟨rg,h_rg,hr⟩:=bnd hr
  obtain⟨s1,h_s1,hr⟩:=bnd hr
  refine run_for (p2:=[some (D.int number),some (D.int count),some (D.str letters),some (D.str s1.1),some (D.int s1.2),none]) (h2:=h) hm (YI.cast (YI.r1 (YA.n rfl rfl YA.nil) (.nam rfl rfl Ct.nil) (gd_some h_rg).1) (congrArg (List.map D.int) (Option.some.inj (gd_some h_rg).2))) (fun m hm=>run_forS (P:=fun(s:(Str×Int))=>[some (D.int number),some (D.int count),some (D.str letters),some (D.str s.1),some (D.int s.2),none]) (H:=fun(s:(Str×Int))=>h) (enc:=D.int) (fun _ _ _=>trivial) ?_ rg (word,number) s1 h_s1 m (hm.wk (.keep (.keep (.keep (.keep (.keep (.drop Wk.nil)))))))) (fun m hm=>?_)
  · intro s k rr hr m hm
    unfold t_law_word_l1 at hr
    refine st_tg (YG.name (i:=5) (d:=D.int k) rfl) hm (fun m hm=>?_)
    obtain⟨ch,h_ch,hr⟩:=bnd hr
    obtain⟨word1,h_word1,hr⟩:=bnd hr
    refine run_asg hm (YM.opQ (YT.var rfl rfl) (YT.ix (YT.var rfl rfl) (YT.op2 (YT.cb (YL.cons (YT.var rfl rfl) YL.nil) rfl rfl) YT.c (mod_k (by decide)) rfl) (ix_S h_ch)) (cat_S h_word1)) (YG.name (i:=3) (d:=D.str word1) rfl) (fun m hm=>?_)
    refine run_last ?_
    obtain⟨restx,h_restx,hr⟩:=bnd hr
    refine run_asg hm (YM.cast (YM.opQ (YT.op2 (YT.var rfl rfl) YT.c (fdiv_k (by decide)) rfl) (YT.var rfl rfl) rfl) (congrArg D.int (Option.some.inj h_restx))) (YG.name (i:=4) (d:=D.int restx) rfl) (fun m hm=>?_)
    obtain rfl:=Option.some.inj hr
    exact run_end ⟨.inl rfl,hm.wk (.keep (.keep (.keep (.keep (.keep (.drop Wk.nil))))))⟩
  refine run_last ?_
  obtain rfl:=Option.some.inj hr
  exact run_rt hm (YM.mv rfl rfl) (fun m hm=>⟨rfl,(Out.pin rfl rfl (Out.pin rfl rfl (Out.nil))).eq hm.e,hm.h⟩)
noncomputable def t_law_integer(box:(List Int)): Option (Int×(List Int)) :=
  (t_law_take box (6:Int)).bind fun o_take =>
  (t_law_take o_take.2 (3:Int)).bind fun o_take1 =>
  (t_law_take o_take1.2 (20000:Int)).bind fun o_take2 =>
  (t_law_take o_take2.2 (1000000000000000001:Int)).bind fun o_take3 =>
  (atI [(0:Int),(1:Int),((127:Int)+o_take1.1),o_take2.1,o_take3.1,(1000000000000000000:Int)] o_take.1).bind fun number =>
  (t_law_take o_take3.2 (2:Int)).bind fun o_take4 =>
  if decide (o_take4.1=(1:Int))=true then
    some ((-number),o_take4.2)
  else
    some (number,o_take4.2)
abbrev q_law_integer(box:(List Int))(h:List Ob): (Int×(List Int))→Fl→Mem→Prop:=fun r=>FP (D.int r.1) [0] [e_MI box] [e_MI r.2] h
theorem y_law_integer(box:(List Int))(h:List Ob)(r:(Int×(List Int)))(hr:t_law_integer box=some r): m_law_integer [e_MI box] h=.ok (D.int r.1,[e_MI r.2],h):=by
  unfold t_law_integer at hr
  unfold m_law_integer
  refine run_def rfl rfl (xcP (rfl)) (fun m hm=>?_)
  show Run _ m (q_law_integer box h r)
  obtain⟨o_take,h_o_take,hr⟩:=bnd hr
  refine run_asg hm (YM.call (YA.n rfl rfl (YA.qq (YL.cons YT.c YL.nil))) (.namM rfl rfl (np_MI box) (.bor rfl Gr.nil)) (y_law_take box (6:Int) _ o_take h_o_take) rfl) (YG.name (i:=1) (d:=D.int o_take.1) rfl) (fun m hm=>?_)
  replace hm:Sx [some (e_MI o_take.2),some (D.int o_take.1),some D.und] h m:=hm
  obtain⟨o_take1,h_o_take1,hr⟩:=bnd hr
  obtain⟨o_take2,h_o_take2,hr⟩:=bnd hr
  obtain⟨o_take3,h_o_take3,hr⟩:=bnd hr
  obtain⟨number,h_number,hr⟩:=bnd hr
  refine run_asg hm (YM.ix (YM.cast (YM.lst (YA.v (YM.pp YT.c rfl) (YA.v (YM.pp YT.c rfl) (YA.v (YM.fz (YM.op2 (YM.pp YT.c rfl) (YM.call (YA.n rfl rfl (YA.qq (YL.cons YT.c YL.nil))) (.namM rfl rfl (np_MI o_take.2) (.bor rfl Gr.nil)) (y_law_take o_take.2 (3:Int) _ o_take1 h_o_take1) rfl) rfl) (fz_same rfl rfl)) (YA.v (YM.fz (YM.call (YA.n rfl rfl (YA.qq (YL.cons YT.c YL.nil))) (.namM rfl rfl (np_MI o_take1.2) (.bor rfl Gr.nil)) (y_law_take o_take1.2 (20000:Int) _ o_take2 h_o_take2) rfl) (fz_same rfl rfl)) (YA.v (YM.fz (YM.call (YA.n rfl rfl (YA.qq (YL.cons (YT.op2 (YT.op2 YT.c YT.c (pow_k (j:=18) 1000000000000000000 (by decide) (by decide)) rfl) YT.c rfl rfl) YL.nil))) (.namM rfl rfl (np_MI o_take2.2) (.bor rfl Gr.nil)) (y_law_take o_take2.2 (1000000000000000001:Int) _ o_take3 h_o_take3) rfl) (fz_same rfl rfl)) (YA.v (YM.opQ YT.c YT.c (pow_k (j:=18) 1000000000000000000 (by decide) (by decide))) YA.nil)))))) rfl (by simp)) (show _=e_MI [(0:Int),(1:Int),((127:Int)+o_take1.1),o_take2.1,o_take3.1,(1000000000000000000:Int)] from by first | rfl | simp[e_V,Dat.toD,toDs])) (YM.qb (YT.var rfl rfl)) (ix_L h_number) rfl) (YG.name (i:=2) (d:=D.int number) rfl) (fun m hm=>?_)
  replace hm:Sx [some (e_MI o_take3.2),some (D.int o_take.1),some (D.int number)] h m:=hm
  obtain⟨o_take4,h_o_take4,hr⟩:=bnd hr
  refine run_if hm (YB.bb (YM.op2 (YM.call (YA.n rfl rfl (YA.qq (YL.cons YT.c YL.nil))) (.namM rfl rfl (np_MI o_take3.2) (.bor rfl Gr.nil)) (y_law_take o_take3.2 (2:Int) _ o_take4 h_o_take4) rfl) (YM.qb YT.c) (eq_fa Fa.int (by decide) o_take4.1 (1:Int)))) (fun hc m hm=>?_) (fun hc m hm=>?_)
  · rw[if_pos hc] at hr
    obtain rfl:=Option.some.inj hr
    exact run_rt hm (YM.pp (YT.op1 (YT.var rfl rfl) rfl rfl) rfl) (fun m hm=>⟨rfl,(Out.pin rfl rfl (Out.nil)).eq hm.e,hm.h⟩)
  · rw[if_neg (ne_t hc)] at hr
    refine run_pass ?_
    refine run_last ?_
    obtain rfl:=Option.some.inj hr
    exact run_rt hm (YM.mv rfl rfl) (fun m hm=>⟨rfl,(Out.pin rfl rfl (Out.nil)).eq hm.e,hm.h⟩)
noncomputable def t_law_sign(number:Int): Option Str :=
  (some (" !\"#$&'()*+,-./0123456789:;<=>?@ABCDEFGHIJKLMNOPQRSTUVWXYZ[\\]^_`abcdefghijklmnopqrstuvwxyz{|}~":Str)).bind fun signs =>
  (atS signs (number % (94:Int))).bind fun ch =>
  some ch
abbrev q_law_sign(number:Int)(h:List Ob): Str→Fl→Mem→Prop:=fun r=>FP (D.str r) [0] [D.int number] [D.int number] h
theorem y_law_sign(number:Int)(h:List Ob)(r:Str)(hr:t_law_sign number=some r): m_law_sign [D.int number] h=.ok (D.str r,[D.int number],h):=by
  unfold t_law_sign at hr
  unfold m_law_sign
  refine run_def rfl rfl (xcP (rfl)) (fun m hm=>?_)
  show Run _ m (q_law_sign number h r)
  obtain⟨signs,h_signs,hr⟩:=bnd hr
  refine run_asg hm (YM.cast (YM.pp YT.c rfl) (congrArg D.str (Option.some.inj h_signs))) (YG.name (i:=1) (d:=D.str signs) rfl) (fun m hm=>?_)
  refine run_last ?_
  obtain⟨ch,h_ch,hr⟩:=bnd hr
  obtain rfl:=Option.some.inj hr
  exact run_rt hm (YM.pp (YT.ix (YT.var rfl rfl) (YT.op2 (YT.cb (YL.cons (YT.var rfl rfl) YL.nil) rfl rfl) YT.c (mod_k (by decide)) rfl) (ix_S h_ch)) rfl) (fun m hm=>⟨rfl,(Out.pin rfl rfl (Out.nil)).eq hm.e,hm.h⟩)
noncomputable def t_law_text_l1(s:(Str×Int))(k:Int): Option (Str×Int) :=
  (t_law_sign (s.2 / (7:Int))).bind fun o_sign =>
  (catSO s.1 o_sign).bind fun text1 =>
  (some (((s.2 / (94:Int))+((s.2 % (94:Int))*(2147483647:Int)))+k)).bind fun restx =>
  some (text1,restx)
noncomputable def t_law_text(row:Int)(count:Int): Option Str :=
  (some ("":Str)).bind fun text =>
  (gd ((-4611686018427387904≤count∧count<4611686018427387904)) (some (rangeI 0 count))).bind fun rg =>
  (forS t_law_text_l1 rg (text,row)).bind fun s1 =>
  some s1.1
abbrev q_law_text(row:Int)(count:Int)(h:List Ob): Str→Fl→Mem→Prop:=fun r=>FP (D.str r) [0,1] [D.int row,D.int count] [D.int row,D.int count] h
theorem y_law_text(row:Int)(count:Int)(h:List Ob)(r:Str)(hr:t_law_text row count=some r): m_law_text [D.int row,D.int count] h=.ok (D.str r,[D.int row,D.int count],h):=by
  unfold t_law_text at hr
  unfold m_law_text
  refine run_def rfl rfl (xcP (rfl)) (fun m hm=>?_)
  show Run _ m (q_law_text row count h r)
  obtain⟨text,h_text,hr⟩:=bnd hr
  refine run_asg hm (YM.cast (YM.pp YT.c rfl) (congrArg D.str (Option.some.inj h_text))) (YG.name (i:=2) (d:=D.str text) rfl) (fun m hm=>?_)
  refine run_asg hm (YM.pp (YT.cb (YL.cons (YT.var rfl rfl) YL.nil) rfl rfl) rfl) (YG.name (i:=3) (d:=D.int row) rfl) (fun m hm=>?_)
  obtain⟨rg,h_rg,hr⟩:=bnd hr
  obtain⟨s1,h_s1,hr⟩:=bnd hr
  refine run_for (p2:=[some (D.int row),some (D.int count),some (D.str s1.1),some (D.int s1.2),none]) (h2:=h) hm (YI.cast (YI.r1 (YA.n rfl rfl YA.nil) (.nam rfl rfl Ct.nil) (gd_some h_rg).1) (congrArg (List.map D.int) (Option.some.inj (gd_some h_rg).2))) (fun m hm=>run_forS (P:=fun(s:(Str×Int))=>[some (D.int row),some (D.int count),some (D.str s.1),some (D.int s.2),none]) (H:=fun(s:(Str×Int))=>h) (enc:=D.int) (fun _ _ _=>trivial) ?_ rg (text,row) s1 h_s1 m (hm.wk (.keep (.keep (.keep (.keep (.drop Wk.nil))))))) (fun m hm=>?_)
  · intro s k rr hr m hm
    unfold t_law_text_l1 at hr
    refine st_tg (YG.name (i:=4) (d:=D.int k) rfl) hm (fun m hm=>?_)
    obtain⟨o_sign,h_o_sign,hr⟩:=bnd hr
    obtain⟨text1,h_text1,hr⟩:=bnd hr
    refine run_asg hm (YM.opN rfl rfl (YM.call (YA.qq (YL.cons (YT.op2 (YT.var rfl rfl) YT.c (fdiv_k (by decide)) rfl) YL.nil)) (.bor rfl Gr.nil) (y_law_sign (s.2 / (7:Int)) _ o_sign h_o_sign) rfl) rfl rfl (cat_S h_text1)) (YG.name (i:=2) (d:=D.str text1) rfl) (fun m hm=>?_)
    refine run_last ?_
    obtain⟨restx,h_restx,hr⟩:=bnd hr
    refine run_asg hm (YM.cast (YM.opQ (YT.op2 (YT.op2 (YT.var rfl rfl) YT.c (fdiv_k (by decide)) rfl) (YT.op2 (YT.op2 (YT.var rfl rfl) YT.c (mod_k (by decide)) rfl) YT.c (mul_r (by decide)) rfl) rfl rfl) (YT.var rfl rfl) rfl) (congrArg D.int (Option.some.inj h_restx))) (YG.name (i:=3) (d:=D.int restx) rfl) (fun m hm=>?_)
    obtain rfl:=Option.some.inj hr
    exact run_end ⟨.inl rfl,hm.wk (.keep (.keep (.keep (.keep (.drop Wk.nil)))))⟩
  refine run_last ?_
  obtain rfl:=Option.some.inj hr
  exact run_rt hm (YM.mv rfl rfl) (fun m hm=>⟨rfl,(Out.pin rfl rfl (Out.pin rfl rfl (Out.nil))).eq hm.e,hm.h⟩)
noncomputable def t_law_data_l1(tS:(List Int)→Int→Option (V×(List Int)))(depth:Int)(s:((List Int)×(List V)))(k:Int): Option ((List Int)×(List V)) :=
  (tS s.1 (depth - (1:Int))).bind fun o_data =>
  (appO s.2 o_data.1).bind fun items =>
  some (o_data.2,items)
noncomputable def tr_law_data(tS:(List Int)→Int→Option (V×(List Int)))(box:(List Int))(depth:Int): Option (V×(List Int)) :=
  (t_law_take box (7:Int)).bind fun o_take =>
  if decide (o_take.1=(0:Int))=true then
    some ((⟨Dat.non,Nat.le_of_ble_eq_true rfl⟩:V),o_take.2)
  else
    if decide (o_take.1<(3:Int))=true then
      (t_law_integer o_take.2).bind fun o_integer =>
      some ((⟨Dat.int o_integer.1,Nat.le_of_ble_eq_true rfl⟩:V),o_integer.2)
    else
      if ((decide (o_take.1=(3:Int)))||(decide (depth=(0:Int))))=true then
        (t_law_take o_take.2 (1000000000000:Int)).bind fun o_take1 =>
        (t_law_take o_take1.2 (9:Int)).bind fun o_take2 =>
        (t_law_text o_take1.1 o_take2.1).bind fun o_text =>
        some ((⟨Dat.str o_text,Nat.le_of_ble_eq_true rfl⟩:V),o_take2.2)
      else
        (t_law_take o_take.2 (5:Int)).bind fun o_take3 =>
        (gd ((-4611686018427387904≤o_take3.1∧o_take3.1<4611686018427387904)) (some (rangeI 0 o_take3.1))).bind fun rg =>
        (forS (t_law_data_l1 tS depth) rg (o_take3.2,([]:(List V)))).bind fun s1 =>
        (mkV (Dat.tup (s1.2.map fun z=>z.d))).bind fun any =>
        some (any,s1.1)
abbrev q_law_data(box:(List Int))(depth:Int)(h:List Ob): (V×(List Int))→Fl→Mem→Prop:=fun r=>FP (e_V r.1) [0,1] [e_MI box,D.int depth] [e_MI r.2,D.int depth] h
noncomputable def tf_law_data: Nat→(List Int)→Int→Option (V×(List Int))
  | 0=>fun _ _=>none
  | d+1=>tr_law_data (tf_law_data d)
noncomputable def t_law_data(box:(List Int))(depth:Int): Option (V×(List Int)):=tf_law_data 50 box depth
theorem yr_law_data {mS:CallM} {tS:(List Int)→Int→Option (V×(List Int))} (yS:∀ (box:(List Int)) (depth:Int) (h:List Ob) (r:(V×(List Int))),tS box depth=some r→mS [e_MI box,D.int depth] h=.ok (e_V r.1,[e_MI r.2,D.int depth],h)) (box:(List Int)) (depth:Int) (h:List Ob) (r:(V×(List Int))) (hr:tr_law_data tS box depth=some r):mr_law_data mS [e_MI box,D.int depth] h=.ok (e_V r.1,[e_MI r.2,D.int depth],h):=by
  unfold tr_law_data at hr
  unfold mr_law_data
  refine run_def rfl rfl (xcP (pu_V r.1)) (fun m hm=>?_)
  show Run _ m (q_law_data box depth h r)
  obtain⟨o_take,h_o_take,hr⟩:=bnd hr
  refine run_asg hm (YM.call (YA.n rfl rfl (YA.qq (YL.cons YT.c YL.nil))) (.namM rfl rfl (np_MI box) (.bor rfl Gr.nil)) (y_law_take box (7:Int) _ o_take h_o_take) rfl) (YG.name (i:=2) (d:=D.int o_take.1) rfl) (fun m hm=>?_)
  replace hm:Sx [some (e_MI o_take.2),some (D.int depth),some (D.int o_take.1),some D.und,some D.und] h m:=hm
  refine run_if hm (YB.bb (YM.opQ (YT.var rfl rfl) YT.c (eq_fa Fa.int (by decide) o_take.1 (0:Int)))) (fun hc m hm=>?_) (fun hc m hm=>?_)
  · rw[if_pos hc] at hr
    obtain rfl:=Option.some.inj hr
    exact run_rt hm (YM.pp YT.c rfl) (fun m hm=>⟨rfl,(Out.pin rfl rfl (Out.pin rfl rfl (Out.nil))).eq hm.e,hm.h⟩)
  · rw[if_neg (ne_t hc)] at hr
    refine run_pass ?_
    refine run_if hm (YB.bb (YM.opQ (YT.var rfl rfl) YT.c rfl)) (fun hc m hm=>?_) (fun hc m hm=>?_)
    · rw[if_pos hc] at hr
      obtain⟨o_integer,h_o_integer,hr⟩:=bnd hr
      obtain rfl:=Option.some.inj hr
      exact run_rt hm (YM.call (YA.n rfl rfl YA.nil) (.namM rfl rfl (np_MI o_take.2) Gr.nil) (y_law_integer o_take.2 _ o_integer h_o_integer) rfl) (fun m hm=>⟨rfl,(Out.pin rfl rfl (Out.pin rfl rfl (Out.nil))).eq hm.e,hm.h⟩)
    · rw[if_neg (ne_t hc)] at hr
      refine run_pass ?_
      refine run_if hm (YB.orT (YB.bb (YM.opQ (YT.var rfl rfl) YT.c (eq_fa Fa.int (by decide) o_take.1 (3:Int)))) (YB.bb (YM.opQ (YT.var rfl rfl) YT.c (eq_fa Fa.int (by decide) depth (0:Int))))) (fun hc m hm=>?_) (fun hc m hm=>?_)
      · rw[if_pos hc] at hr
        obtain⟨o_take1,h_o_take1,hr⟩:=bnd hr
        obtain⟨o_take2,h_o_take2,hr⟩:=bnd hr
        obtain⟨o_text,h_o_text,hr⟩:=bnd hr
        obtain rfl:=Option.some.inj hr
        exact run_rt hm (YM.call (YA.v (YM.call (YA.n rfl rfl (YA.qq (YL.cons (YT.op2 YT.c YT.c (pow_k (j:=12) 1000000000000 (by decide) (by decide)) rfl) YL.nil))) (.namM rfl rfl (np_MI o_take.2) (.bor rfl Gr.nil)) (y_law_take o_take.2 (1000000000000:Int) _ o_take1 h_o_take1) rfl) (YA.v (YM.call (YA.n rfl rfl (YA.qq (YL.cons YT.c YL.nil))) (.namM rfl rfl (np_MI o_take1.2) (.bor rfl Gr.nil)) (y_law_take o_take1.2 (9:Int) _ o_take2 h_o_take2) rfl) YA.nil)) (.val (.val Gr.nil)) (y_law_text o_take1.1 o_take2.1 _ o_text h_o_text) rfl) (fun m hm=>⟨rfl,(Out.pin rfl rfl (Out.pin rfl rfl (Out.nil))).eq hm.e,hm.h⟩)
      · rw[if_neg (ne_t hc)] at hr
        refine run_pass ?_
        refine run_asg hm (YM.lst YA.nil rfl (by decide)) (YG.name (i:=3) (d:=D.lst true []) rfl) (fun m hm=>?_)
        obtain⟨o_take3,h_o_take3,hr⟩:=bnd hr
        obtain⟨rg,h_rg,hr⟩:=bnd hr
        obtain⟨s1,h_s1,hr⟩:=bnd hr
        refine run_for (p2:=[some (e_MI s1.1),some (D.int depth),some (D.int o_take.1),some (e_MV s1.2),none]) (h2:=h) hm (YI.cast (YI.r1 (YA.v (YM.call (YA.n rfl rfl (YA.qq (YL.cons YT.c YL.nil))) (.namM rfl rfl (np_MI o_take.2) (.bor rfl Gr.nil)) (y_law_take o_take.2 (5:Int) _ o_take3 h_o_take3) rfl) YA.nil) (.val Ct.nil) (gd_some h_rg).1) (congrArg (List.map D.int) (Option.some.inj (gd_some h_rg).2))) (fun m hm=>run_forS (P:=fun(s:((List Int)×(List V)))=>[some (e_MI s.1),some (D.int depth),some (D.int o_take.1),some (e_MV s.2),none]) (H:=fun(s:((List Int)×(List V)))=>h) (enc:=D.int) (fun _ _ _=>trivial) ?_ rg (o_take3.2,([]:(List V))) s1 h_s1 m (hm.wk (.keep (.keep (.keep (.cast (rfl) (.drop Wk.nil))))))) (fun m hm=>?_)
        · intro s k rr hr m hm
          unfold t_law_data_l1 at hr
          refine st_tg (YG.name (i:=4) (d:=D.int k) rfl) hm (fun m hm=>?_)
          refine run_last ?_
          obtain⟨o_data,h_o_data,hr⟩:=bnd hr
          obtain⟨items,h_items,hr⟩:=bnd hr
          refine run_ex hm (YM.appL (e:=e_V) (xs:=s.2) (a:=o_data.1) rfl rfl (YM.call (YA.n rfl rfl (YA.qq (YL.cons (YT.op2 (YT.var rfl rfl) YT.c rfl rfl) YL.nil))) (.namM rfl rfl (np_MI s.1) (.bor rfl Gr.nil)) (yS s.1 (depth - (1:Int)) _ o_data h_o_data) rfl) rfl h_items) (fun m hm=>?_)
          replace hm:Sx [some (e_MI o_data.2),some (D.int depth),some (D.int o_take.1),some (e_MV items),some (D.int k)] h m:=hm
          obtain rfl:=Option.some.inj hr
          exact run_end ⟨.inl rfl,hm.wk (.keep (.keep (.keep (.keep (.drop Wk.nil)))))⟩
        refine run_last ?_
        obtain⟨any,h_any,hr⟩:=bnd hr
        obtain rfl:=Option.some.inj hr
        exact run_rt hm (YM.cast (YM.cb (YA.n rfl rfl YA.nil) (.nam rfl rfl Ct.nil) (tuple_L pu_V)) (((show e_QV s1.2=Dat.toD (Dat.tup (s1.2.map fun z=>z.d)) from congrArg D.tup (tmap (e:=e_V) (f:=fun z=>z.d) (fun z=>rfl) s1.2))).trans (mkV_eq h_any))) (fun m hm=>⟨rfl,(Out.pin rfl rfl (Out.pin rfl rfl (Out.nil))).eq hm.e,hm.h⟩)
theorem yf_law_data: ∀ (d:Nat) (box:(List Int)) (depth:Int) (h:List Ob) (r:(V×(List Int))),tf_law_data d box depth=some r→mf_law_data d [e_MI box,D.int depth] h=.ok (e_V r.1,[e_MI r.2,D.int depth],h)
  | 0=>fun box depth h r e=>by cases e
  | d+1=>yr_law_data (yf_law_data d)
theorem y_law_data(box:(List Int))(depth:Int)(h:List Ob)(r:(V×(List Int)))(hr:t_law_data box depth=some r): m_law_data [e_MI box,D.int depth] h=.ok (e_V r.1,[e_MI r.2,D.int depth],h):=yf_law_data 50 box depth h r hr
noncomputable def t_law_drawn_l1(s:V)(k:Int): Option V :=
  (mkV (Dat.tup [s.d])).bind fun data =>
  some data
noncomputable def t_law_drawn(row:Int): Option V :=
  (t_law_take [row] (9:Int)).bind fun o_take =>
  if decide (o_take.1=(0:Int))=true then
    (t_law_integer o_take.2).bind fun o_integer =>
    (t_law_take o_integer.2 (41:Int)).bind fun o_take1 =>
    (gd ((-4611686018427387904≤o_take1.1∧o_take1.1<4611686018427387904)) (some (rangeI 0 o_take1.1))).bind fun rg =>
    (forS t_law_drawn_l1 rg (⟨Dat.int o_integer.1,Nat.le_of_ble_eq_true rfl⟩:V)).bind fun data1 =>
    some data1
  else
    if decide (o_take.1=(1:Int))=true then
      (t_law_take o_take.2 (3:Int)).bind fun o_take2 =>
      (t_law_take o_take2.2 (300:Int)).bind fun o_take3 =>
      (repLO [o_take2.1] o_take3.1).bind fun rep =>
      some (⟨Dat.tup (rep.map fun z=>Dat.int z),Nat.le_trans (dep_T (deps_map (fun z=>Nat.le_refl 0) rep)) (by decide)⟩:V)
    else
      if decide (o_take.1=(2:Int))=true then
        (t_law_take o_take.2 (1000000000000000:Int)).bind fun o_take4 =>
        (t_law_text o_take4.1 (20:Int)).bind fun o_text =>
        (t_law_take o_take4.2 (20:Int)).bind fun o_take5 =>
        (repO o_text o_take5.1).bind fun rep1 =>
        some (⟨Dat.str rep1,Nat.le_of_ble_eq_true rfl⟩:V)
      else
        (t_law_data o_take.2 (3:Int)).bind fun o_data =>
        (t_law_data o_data.2 (3:Int)).bind fun o_data1 =>
        (t_law_data o_data1.2 (2:Int)).bind fun o_data2 =>
        (mkV (Dat.tup [o_data.1.d,o_data1.1.d,o_data2.1.d])).bind fun any1 =>
        some any1
abbrev q_law_drawn(row:Int)(h:List Ob): V→Fl→Mem→Prop:=fun r=>FP (e_V r) [0] [D.int row] [D.int row] h
theorem y_law_drawn (row:Int) (h:List Ob) (r:V) (hr:t_law_drawn row=some r):m_law_drawn [D.int row] h=.ok (e_V r,[D.int row],h):=by
  unfold t_law_drawn at hr
  unfold m_law_drawn
  refine run_def rfl rfl (xcP (pu_V r)) (fun m hm=>?_)
  show Run _ m (q_law_drawn row h r)
  refine run_asg hm (YM.cast (YM.lst (YA.v (YM.varP rfl rfl rfl) YA.nil) rfl (by simp)) (show _=e_MI [row] from by first | rfl | simp[e_V,Dat.toD,toDs])) (YG.name (i:=1) (d:=e_MI [row]) rfl) (fun m hm=>?_)
  obtain⟨o_take,h_o_take,hr⟩:=bnd hr
  refine run_asg hm (YM.call (YA.n rfl rfl (YA.qq (YL.cons YT.c YL.nil))) (.namM rfl rfl (np_MI [row]) (.bor rfl Gr.nil)) (y_law_take [row] (9:Int) _ o_take h_o_take) rfl) (YG.name (i:=2) (d:=D.int o_take.1) rfl) (fun m hm=>?_)
  replace hm:Sx [some (D.int row),some (e_MI o_take.2),some (D.int o_take.1),some D.und,some D.und] h m:=hm
  refine run_if hm (YB.bb (YM.opQ (YT.var rfl rfl) YT.c (eq_fa Fa.int (by decide) o_take.1 (0:Int)))) (fun hc m hm=>?_) (fun hc m hm=>?_)
  · rw[if_pos hc] at hr
    refine run_assoc ?_
    obtain⟨o_integer,h_o_integer,hr⟩:=bnd hr
    refine run_asg hm (YM.call (YA.n rfl rfl YA.nil) (.namM rfl rfl (np_MI o_take.2) Gr.nil) (y_law_integer o_take.2 _ o_integer h_o_integer) rfl) (YG.name (i:=3) (d:=e_V (⟨Dat.int o_integer.1,Nat.le_of_ble_eq_true rfl⟩:V)) rfl) (fun m hm=>?_)
    replace hm:Sx [some (D.int row),some (e_MI o_integer.2),some (D.int o_take.1),some (e_V (⟨Dat.int o_integer.1,Nat.le_of_ble_eq_true rfl⟩:V)),some D.und] h m:=hm
    refine run_assoc ?_
    obtain⟨o_take1,h_o_take1,hr⟩:=bnd hr
    obtain⟨rg,h_rg,hr⟩:=bnd hr
    obtain⟨data1,h_data1,hr⟩:=bnd hr
    refine run_for (p2:=[some (D.int row),some (e_MI o_take1.2),some (D.int o_take.1),some (e_V data1),none]) (h2:=h) hm (YI.cast (YI.r1 (YA.v (YM.call (YA.n rfl rfl (YA.qq (YL.cons YT.c YL.nil))) (.namM rfl rfl (np_MI o_integer.2) (.bor rfl Gr.nil)) (y_law_take o_integer.2 (41:Int) _ o_take1 h_o_take1) rfl) YA.nil) (.val Ct.nil) (gd_some h_rg).1) (congrArg (List.map D.int) (Option.some.inj (gd_some h_rg).2))) (fun m hm=>run_forS (P:=fun(s:V)=>[some (D.int row),some (e_MI o_take1.2),some (D.int o_take.1),some (e_V s),none]) (H:=fun(s:V)=>h) (enc:=D.int) (fun _ _ _=>trivial) ?_ rg (⟨Dat.int o_integer.1,Nat.le_of_ble_eq_true rfl⟩:V) data1 h_data1 m (hm.wk (.keep (.keep (.keep (.keep (.drop Wk.nil))))))) (fun m hm=>?_)
    · intro s k rr hr m hm
      unfold t_law_drawn_l1 at hr
      refine st_tg (YG.name (i:=4) (d:=D.int k) rfl) hm (fun m hm=>?_)
      refine run_last ?_
      obtain⟨data,h_data,hr⟩:=bnd hr
      refine run_asg hm (YM.cast (YM.tup (YA.v (YM.varP rfl (deP (pu_V s)) (pu_V s)) YA.nil) rfl (by simp)) (((show e_T1V s=Dat.toD (Dat.tup [s.d]) from congrArg D.tup (tcons (rfl) (tnil)))).trans (mkV_eq h_data))) (YG.name (i:=3) (d:=e_V data) rfl) (fun m hm=>?_)
      obtain rfl:=Option.some.inj hr
      exact run_end ⟨.inl rfl,hm.wk (.keep (.keep (.keep (.keep (.drop Wk.nil)))))⟩
    obtain rfl:=Option.some.inj hr
    exact run_rt hm (YM.mv rfl (deP (pu_V data1))) (fun m hm=>⟨rfl,(Out.pin rfl rfl (Out.nil)).eq hm.e,hm.h⟩)
  · rw[if_neg (ne_t hc)] at hr
    refine run_pass ?_
    refine run_if hm (YB.bb (YM.opQ (YT.var rfl rfl) YT.c (eq_fa Fa.int (by decide) o_take.1 (1:Int)))) (fun hc m hm=>?_) (fun hc m hm=>?_)
    · rw[if_pos hc] at hr
      obtain⟨o_take2,h_o_take2,hr⟩:=bnd hr
      obtain⟨o_take3,h_o_take3,hr⟩:=bnd hr
      obtain⟨rep,h_rep,hr⟩:=bnd hr
      obtain rfl:=Option.some.inj hr
      exact run_rt hm (YM.cast (YM.cb (YA.v (YM.op2 (YM.cast (YM.lst (YA.v (YM.fz (YM.call (YA.n rfl rfl (YA.qq (YL.cons YT.c YL.nil))) (.namM rfl rfl (np_MI o_take.2) (.bor rfl Gr.nil)) (y_law_take o_take.2 (3:Int) _ o_take2 h_o_take2) rfl) (fz_same rfl rfl)) YA.nil) rfl (by simp)) (show _=e_MI [o_take2.1] from by first | rfl | simp[e_V,Dat.toD,toDs])) (YM.call (YA.n rfl rfl (YA.qq (YL.cons YT.c YL.nil))) (.namM rfl rfl (np_MI o_take2.2) (.bor rfl Gr.nil)) (y_law_take o_take2.2 (300:Int) _ o_take3 h_o_take3) rfl) (mulL_L (fun _=>rfl) h_rep)) YA.nil) (.val Ct.nil) (tuple_L (fun _=>rfl))) ((show e_QI rep=Dat.toD (Dat.tup (rep.map fun z=>Dat.int z)) from congrArg D.tup (tmap (e:=D.int) (f:=fun z=>Dat.int z) (fun z=>rfl) rep)))) (fun m hm=>⟨rfl,(Out.pin rfl rfl (Out.nil)).eq hm.e,hm.h⟩)
    · rw[if_neg (ne_t hc)] at hr
      refine run_pass ?_
      refine run_if hm (YB.bb (YM.opQ (YT.var rfl rfl) YT.c (eq_fa Fa.int (by decide) o_take.1 (2:Int)))) (fun hc m hm=>?_) (fun hc m hm=>?_)
      · rw[if_pos hc] at hr
        obtain⟨o_take4,h_o_take4,hr⟩:=bnd hr
        obtain⟨o_text,h_o_text,hr⟩:=bnd hr
        obtain⟨o_take5,h_o_take5,hr⟩:=bnd hr
        obtain⟨rep1,h_rep1,hr⟩:=bnd hr
        obtain rfl:=Option.some.inj hr
        exact run_rt hm (YM.op2 (YM.call (YA.v (YM.call (YA.n rfl rfl (YA.qq (YL.cons (YT.op2 YT.c YT.c (pow_k (j:=15) 1000000000000000 (by decide) (by decide)) rfl) YL.nil))) (.namM rfl rfl (np_MI o_take.2) (.bor rfl Gr.nil)) (y_law_take o_take.2 (1000000000000000:Int) _ o_take4 h_o_take4) rfl) (YA.qq (YL.cons YT.c YL.nil))) (.val (.bor rfl Gr.nil)) (y_law_text o_take4.1 (20:Int) _ o_text h_o_text) rfl) (YM.call (YA.n rfl rfl (YA.qq (YL.cons YT.c YL.nil))) (.namM rfl rfl (np_MI o_take4.2) (.bor rfl Gr.nil)) (y_law_take o_take4.2 (20:Int) _ o_take5 h_o_take5) rfl) (mulS_O h_rep1)) (fun m hm=>⟨rfl,(Out.pin rfl rfl (Out.nil)).eq hm.e,hm.h⟩)
      · rw[if_neg (ne_t hc)] at hr
        refine run_pass ?_
        refine run_last ?_
        obtain⟨o_data,h_o_data,hr⟩:=bnd hr
        obtain⟨o_data1,h_o_data1,hr⟩:=bnd hr
        obtain⟨o_data2,h_o_data2,hr⟩:=bnd hr
        obtain⟨any1,h_any1,hr⟩:=bnd hr
        obtain rfl:=Option.some.inj hr
        exact run_rt hm (YM.cast (YM.tup (YA.v (YM.call (YA.n rfl rfl (YA.qq (YL.cons YT.c YL.nil))) (.namM rfl rfl (np_MI o_take.2) (.bor rfl Gr.nil)) (y_law_data o_take.2 (3:Int) _ o_data h_o_data) rfl) (YA.v (YM.call (YA.n rfl rfl (YA.qq (YL.cons YT.c YL.nil))) (.namM rfl rfl (np_MI o_data.2) (.bor rfl Gr.nil)) (y_law_data o_data.2 (3:Int) _ o_data1 h_o_data1) rfl) (YA.v (YM.call (YA.n rfl rfl (YA.qq (YL.cons YT.c YL.nil))) (.namM rfl rfl (np_MI o_data1.2) (.bor rfl Gr.nil)) (y_law_data o_data1.2 (2:Int) _ o_data2 h_o_data2) rfl) YA.nil))) rfl (by simp)) (((show e_T3VVV (o_data.1,o_data1.1,o_data2.1)=Dat.toD (Dat.tup [o_data.1.d,o_data1.1.d,o_data2.1.d]) from congrArg D.tup (tcons (rfl) (tcons (rfl) (tcons (rfl) (tnil)))))).trans (mkV_eq h_any1))) (fun m hm=>⟨rfl,(Out.pin rfl rfl (Out.nil)).eq hm.e,hm.h⟩)
noncomputable def t_law_call_l1(s:((List Int)×(List V)))(k:Int): Option ((List Int)×(List V)) :=
  (t_law_data s.1 (3:Int)).bind fun o_data =>
  (appO s.2 o_data.1).bind fun call1 =>
  some (o_data.2,call1)
noncomputable def t_law_call(row:Int): Option V :=
  (t_law_take [row] (1000000000000:Int)).bind fun o_take =>
  (t_law_take o_take.2 (12:Int)).bind fun o_take1 =>
  (t_law_word o_take.1 ((1:Int)+o_take1.1)).bind fun o_word =>
  (some [o_word]).bind fun call =>
  (t_law_take o_take1.2 (5:Int)).bind fun o_take2 =>
  (atI [(0:Int),(1:Int),(2:Int),(3:Int),(1:Int)] o_take2.1).bind fun it =>
  (gd ((-4611686018427387904≤it∧it<4611686018427387904)) (some (rangeI 0 it))).bind fun rg =>
  (forS t_law_call_l1 rg (o_take2.2,(call.map fun z=>(⟨Dat.str z,Nat.le_of_ble_eq_true rfl⟩:V)))).bind fun s1 =>
  (t_law_take s1.1 (6:Int)).bind fun o_take3 =>
  (if decide (o_take3.1=(0:Int))=true then
    (atI o_take3.2 (0:Int)).bind fun it1 =>
    (t_law_drawn it1).bind fun o_drawn =>
    (appO s1.2 o_drawn).bind fun call3 =>
    some call3
  else
    some s1.2).bind fun call2 =>
  (mkV (Dat.tup (call2.map fun z=>z.d))).bind fun any =>
  some any
abbrev q_law_call(row:Int)(h:List Ob): V→Fl→Mem→Prop:=fun r=>FP (e_V r) [0] [D.int row] [D.int row] h
theorem y_law_call(row:Int)(h:List Ob)(r:V)(hr:t_law_call row=some r): m_law_call [D.int row] h=.ok (e_V r,[D.int row],h):=by
  unfold t_law_call at hr
  unfold m_law_call
  refine run_def rfl rfl (xcP (pu_V r)) (fun m hm=>?_)
  show Run _ m (q_law_call row h r)
  refine run_asg hm (YM.cast (YM.lst (YA.v (YM.varP rfl rfl rfl) YA.nil) rfl (by simp)) (show _=e_MI [row] from by first | rfl | simp[e_V,Dat.toD,toDs])) (YG.name (i:=1) (d:=e_MI [row]) rfl) (fun m hm=>?_)
  obtain⟨o_take,h_o_take,hr⟩:=bnd hr
  obtain⟨o_take1,h_o_take1,hr⟩:=bnd hr
  obtain⟨o_word,h_o_word,hr⟩:=bnd hr
  obtain⟨call,h_call,hr⟩:=bnd hr
  refine run_asg hm (YM.cast (YM.cast (YM.lst (YA.v (YM.fz (YM.call (YA.v (YM.call (YA.n rfl rfl (YA.qq (YL.cons (YT.op2 YT.c YT.c (pow_k (j:=12) 1000000000000 (by decide) (by decide)) rfl) YL.nil))) (.namM rfl rfl (np_MI [row]) (.bor rfl Gr.nil)) (y_law_take [row] (1000000000000:Int) _ o_take h_o_take) rfl) (YA.v (YM.op2 (YM.pp YT.c rfl) (YM.call (YA.n rfl rfl (YA.qq (YL.cons YT.c YL.nil))) (.namM rfl rfl (np_MI o_take.2) (.bor rfl Gr.nil)) (y_law_take o_take.2 (12:Int) _ o_take1 h_o_take1) rfl) rfl) YA.nil)) (.val (.val Gr.nil)) (y_law_word o_take.1 ((1:Int)+o_take1.1) _ o_word h_o_word) rfl) (fz_same rfl rfl)) YA.nil) rfl (by simp)) (show _=e_MS [o_word] from by first | rfl | simp[e_V,Dat.toD,toDs])) (congrArg e_MS (Option.some.inj h_call))) (YG.name (i:=2) (d:=e_MS call) rfl) (fun m hm=>?_)
  replace hm:Sx [some (D.int row),some (e_MI o_take1.2),some (e_MS call),some D.und] h m:=hm
  obtain⟨o_take2,h_o_take2,hr⟩:=bnd hr
  obtain⟨it,h_it,hr⟩:=bnd hr
  obtain⟨rg,h_rg,hr⟩:=bnd hr
  obtain⟨s1,h_s1,hr⟩:=bnd hr
  refine run_for (p2:=[some (D.int row),some (e_MI s1.1),some (e_MV s1.2),none]) (h2:=h) hm (YI.cast (YI.r1 (YA.v (YM.ix (YM.cast (YM.lst (YA.v (YM.pp YT.c rfl) (YA.v (YM.pp YT.c rfl) (YA.v (YM.pp YT.c rfl) (YA.v (YM.pp YT.c rfl) (YA.v (YM.pp YT.c rfl) YA.nil))))) rfl (by simp)) (show _=e_MI [(0:Int),(1:Int),(2:Int),(3:Int),(1:Int)] from by first | rfl | simp[e_V,Dat.toD,toDs])) (YM.call (YA.n rfl rfl (YA.qq (YL.cons YT.c YL.nil))) (.namM rfl rfl (np_MI o_take1.2) (.bor rfl Gr.nil)) (y_law_take o_take1.2 (5:Int) _ o_take2 h_o_take2) rfl) (ix_L h_it) rfl) YA.nil) (.val Ct.nil) (gd_some h_rg).1) (congrArg (List.map D.int) (Option.some.inj (gd_some h_rg).2))) (fun m hm=>run_forS (P:=fun(s:((List Int)×(List V)))=>[some (D.int row),some (e_MI s.1),some (e_MV s.2),none]) (H:=fun(s:((List Int)×(List V)))=>h) (enc:=D.int) (fun _ _ _=>trivial) ?_ rg (o_take2.2,(call.map fun z=>(⟨Dat.str z,Nat.le_of_ble_eq_true rfl⟩:V))) s1 h_s1 m (hm.wk (.keep (.keep (.cast (cmap_L (e:=D.str) (f:=e_V) (g:=fun z=>(⟨Dat.str z,Nat.le_of_ble_eq_true rfl⟩:V)) (fun z=>rfl) call) (.drop Wk.nil)))))) (fun m hm=>?_)
  · intro s k rr hr m hm
    unfold t_law_call_l1 at hr
    refine st_tg (YG.name (i:=3) (d:=D.int k) rfl) hm (fun m hm=>?_)
    refine run_last ?_
    obtain⟨o_data,h_o_data,hr⟩:=bnd hr
    obtain⟨call1,h_call1,hr⟩:=bnd hr
    refine run_ex hm (YM.appL (e:=e_V) (xs:=s.2) (a:=o_data.1) rfl rfl (YM.call (YA.n rfl rfl (YA.qq (YL.cons YT.c YL.nil))) (.namM rfl rfl (np_MI s.1) (.bor rfl Gr.nil)) (y_law_data s.1 (3:Int) _ o_data h_o_data) rfl) rfl h_call1) (fun m hm=>?_)
    replace hm:Sx [some (D.int row),some (e_MI o_data.2),some (e_MV call1),some (D.int k)] h m:=hm
    obtain rfl:=Option.some.inj hr
    exact run_end ⟨.inl rfl,hm.wk (.keep (.keep (.keep (.drop Wk.nil))))⟩
  obtain⟨o_take3,h_o_take3,hr⟩:=bnd hr
  obtain⟨call2,h_call2,hr⟩:=bnd hr
  refine run_ifj (p1:=[some (D.int row),some (e_MI o_take3.2),some (e_MV call2),none]) (h1:=h) hm (YB.bb (YM.op2 (YM.call (YA.n rfl rfl (YA.qq (YL.cons YT.c YL.nil))) (.namM rfl rfl (np_MI s1.1) (.bor rfl Gr.nil)) (y_law_take s1.1 (6:Int) _ o_take3 h_o_take3) rfl) (YM.qb YT.c) (eq_fa Fa.int (by decide) o_take3.1 (0:Int)))) (fun hc m hm=>?_) (fun hc m hm=>?_) (fun m hm=>?_)
  · clear hr
    have hr:=h_call2
    clear h_call2
    rw[if_pos hc] at hr
    obtain⟨it1,h_it1,hr⟩:=bnd hr
    obtain⟨o_drawn,h_o_drawn,hr⟩:=bnd hr
    obtain⟨call3,h_call3,hr⟩:=bnd hr
    refine run_ex hm (YM.appL (e:=e_V) (xs:=s1.2) (a:=o_drawn) rfl rfl (YM.call (YA.qq (YL.cons (YT.ix (YT.var rfl rfl) YT.c (ix_L h_it1)) YL.nil)) (.bor rfl Gr.nil) (y_law_drawn it1 _ o_drawn h_o_drawn) rfl) rfl h_call3) (fun m hm=>?_)
    obtain rfl:=Option.some.inj hr
    exact run_end ⟨rfl,hm.wk (.keep (.keep (.keep (.drop Wk.nil))))⟩
  · clear hr
    have hr:=h_call2
    clear h_call2
    rw[if_neg (ne_t hc)] at hr
    refine run_pass ?_
    obtain rfl:=Option.some.inj hr
    exact run_end ⟨rfl,hm.wk (.keep (.keep (.keep (.drop Wk.nil))))⟩
  refine run_last ?_
  obtain⟨any,h_any,hr⟩:=bnd hr
  obtain rfl:=Option.some.inj hr
  exact run_rt hm (YM.cast (YM.cb (YA.n rfl rfl YA.nil) (.nam rfl rfl Ct.nil) (tuple_L pu_V)) (((show e_QV call2=Dat.toD (Dat.tup (call2.map fun z=>z.d)) from congrArg D.tup (tmap (e:=e_V) (f:=fun z=>z.d) (fun z=>rfl) call2))).trans (mkV_eq h_any))) (fun m hm=>⟨rfl,(Out.pin rfl rfl (Out.nil)).eq hm.e,hm.h⟩)
noncomputable def t_law_written_l1(s:Str)(sign:Str): Option Str :=
  (catSO s sign).bind fun cat =>
  (repO sign (if (decide (sign=("\"":Str)))=true then (1:Int) else 0)).bind fun rep =>
  (catSO cat rep).bind fun text1 =>
  some text1
noncomputable def t_law_written_c2(tS:V→Option Str)(item1:V): Option (Option Str) :=
  (tS item1).bind fun o_written1 =>
  some (some o_written1)
noncomputable def tr_law_written(tS:V→Option Str)(data:V): Option Str :=
  if data.isNone=true then
    some ("-":Str)
  else
    if (V.sel data false true false false)=true then
      (invO D.int (e_V data)).bind fun as =>
      (strIO as).bind fun txt =>
      some txt
    else
      if (V.sel data false false true false)=true then
        (some ("":Str)).bind fun text =>
        (invO D.str (e_V data)).bind fun as1 =>
        (forS t_law_written_l1 (signsS as1) text).bind fun text2 =>
        (catSO ("\"":Str) text2).bind fun cat2 =>
        (catSO cat2 ("\"":Str)).bind fun cat3 =>
        some cat3
      else
        (invO e_QV (e_V data)).bind fun items =>
        (lcOg (t_law_written_c2 tS) items).bind fun lc =>
        (joinO (" ":Str) lc).bind fun joined =>
        (catSO (("(":Str)) joined).bind fun cat4 =>
        (catSO cat4 ((")":Str))).bind fun cat5 =>
        some cat5
abbrev q_law_written(data:V)(h:List Ob): Str→Fl→Mem→Prop:=fun r=>FP (D.str r) [0] [e_V data] [e_V data] h
noncomputable def tf_law_written: Nat→V→Option Str
  | 0=>fun _=>none
  | d+1=>tr_law_written (tf_law_written d)
noncomputable def t_law_written(data:V): Option Str:=tf_law_written 50 data
theorem yr_law_written {mS:CallM} {tS:V→Option Str} (yS:∀ (data:V) (h:List Ob) (r:Str),tS data=some r→mS [e_V data] h=.ok (D.str r,[e_V data],h)) (data:V) (h:List Ob) (r:Str) (hr:tr_law_written tS data=some r):mr_law_written mS [e_V data] h=.ok (D.str r,[e_V data],h):=by
  unfold tr_law_written at hr
  unfold mr_law_written
  refine run_def rfl rfl (xcP (rfl)) (fun m hm=>?_)
  show Run _ m (q_law_written data h r)
  refine run_if hm (YB.bb (YM.opQ (YT.var rfl (deP (pu_V data))) YT.c (is_n (isn_V _)))) (fun hc m hm=>?_) (fun hc m hm=>?_)
  · rw[if_pos hc] at hr
    obtain rfl:=Option.some.inj hr
    exact run_rt hm (YM.pp YT.c rfl) (fun m hm=>⟨rfl,(Out.pin rfl (deP (pu_V data)) (Out.nil)).eq hm.e,hm.h⟩)
  · rw[if_neg (ne_t hc)] at hr
    refine run_pass ?_
    refine run_if hm (YB.v (YM.qb (YT.cb (YL.cons (YT.var rfl (deP (pu_V data))) (YL.cons YT.c YL.nil)) (isi_V (isi_k (k:="NoneType") (n:="int") (b:=false) rfl (by decide +kernel)) (fun _=>(isi_k (k:="int") (n:="int") (b:=true) rfl (by decide +kernel))) (fun _=>(isi_k (k:="str") (n:="int") (b:=false) rfl (by decide +kernel))) (fun _=>(isi_k (k:="tuple") (n:="int") (b:=false) rfl (by decide +kernel)))) rfl)) rfl) (fun hc m hm=>?_) (fun hc m hm=>?_)
    · rw[if_pos hc] at hr
      obtain⟨as,h_as,hr⟩:=bnd hr
      obtain⟨txt,h_txt,hr⟩:=bnd hr
      obtain rfl:=Option.some.inj hr
      exact run_rt hm (YM.cb (YA.n rfl (deP (pu_V data)) YA.nil) (.nam rfl (deP (pu_V data)) Ct.nil) (show dStrI [e_V data]=_ from by rw[← invO_some h_as];exact str_I h_txt)) (fun m hm=>⟨rfl,(Out.pin rfl (deP (pu_V data)) (Out.nil)).eq hm.e,hm.h⟩)
    · rw[if_neg (ne_t hc)] at hr
      refine run_pass ?_
      refine run_if hm (YB.v (YM.qb (YT.cb (YL.cons (YT.var rfl (deP (pu_V data))) (YL.cons YT.c YL.nil)) (isi_V (isi_k (k:="NoneType") (n:="str") (b:=false) rfl (by decide +kernel)) (fun _=>(isi_k (k:="int") (n:="str") (b:=false) rfl (by decide +kernel))) (fun _=>(isi_k (k:="str") (n:="str") (b:=true) rfl (by decide +kernel))) (fun _=>(isi_k (k:="tuple") (n:="str") (b:=false) rfl (by decide +kernel)))) rfl)) rfl) (fun hc m hm=>?_) (fun hc m hm=>?_)
      · rw[if_pos hc] at hr
        refine run_assoc ?_
        obtain⟨text,h_text,hr⟩:=bnd hr
        refine run_asg hm (YM.cast (YM.pp YT.c rfl) (congrArg D.str (Option.some.inj h_text))) (YG.name (i:=1) (d:=D.str text) rfl) (fun m hm=>?_)
        refine run_assoc ?_
        obtain⟨as1,h_as1,hr⟩:=bnd hr
        obtain⟨text2,h_text2,hr⟩:=bnd hr
        refine run_for (p2:=[some (e_V data),some (D.str text2),none,some D.und]) (h2:=h) hm (YI.t (YM.cast (YM.varP rfl (deP (pu_V data)) (pu_V data)) (invO_some h_as1).symm)) (fun m hm=>run_forS (P:=fun(s:Str)=>[some (e_V data),some (D.str s),none,some D.und]) (H:=fun(s:Str)=>h) (enc:=D.str) (fun _ _ _=>trivial) ?_ (signsS as1) text text2 h_text2 m (hm.wk (.keep (.keep (.drop (.keep Wk.nil)))))) (fun m hm=>?_)
        · intro s sign rr hr m hm
          unfold t_law_written_l1 at hr
          refine st_tg (YG.name (i:=2) (d:=D.str sign) rfl) hm (fun m hm=>?_)
          refine run_last ?_
          obtain⟨cat,h_cat,hr⟩:=bnd hr
          obtain⟨rep,h_rep,hr⟩:=bnd hr
          obtain⟨text1,h_text1,hr⟩:=bnd hr
          refine run_asg hm (YM.opQ (YT.op2 (YT.var rfl rfl) (YT.var rfl rfl) (cat_S h_cat) rfl) (YT.op2 (YT.var rfl rfl) (YT.cb (YL.cons (YT.op2 (YT.var rfl rfl) YT.c (eq_fa Fa.str (by decide) sign ("\"":Str)) rfl) YL.nil) rfl rfl) (mulS_O h_rep) rfl) (cat_S h_text1)) (YG.name (i:=1) (d:=D.str text1) rfl) (fun m hm=>?_)
          obtain rfl:=Option.some.inj hr
          exact run_end ⟨.inl rfl,hm.wk (.keep (.keep (.drop (.keep Wk.nil))))⟩
        obtain⟨cat2,h_cat2,hr⟩:=bnd hr
        obtain⟨cat3,h_cat3,hr⟩:=bnd hr
        obtain rfl:=Option.some.inj hr
        exact run_rt hm (YM.opQ (YT.op2 YT.c (YT.var rfl rfl) (cat_S h_cat2) rfl) YT.c (cat_S h_cat3)) (fun m hm=>⟨rfl,(Out.pin rfl (deP (pu_V data)) (Out.nil)).eq hm.e,hm.h⟩)
      · rw[if_neg (ne_t hc)] at hr
        refine run_pass ?_
        refine run_last ?_
        obtain⟨items,h_items,hr⟩:=bnd hr
        obtain⟨lc,h_lc,hr⟩:=bnd hr
        obtain⟨joined,h_joined,hr⟩:=bnd hr
        obtain⟨cat4,h_cat4,hr⟩:=bnd hr
        obtain⟨cat5,h_cat5,hr⟩:=bnd hr
        obtain rfl:=Option.some.inj hr
        exact run_rt hm (YM.op2 (YM.op2 (YM.pp YT.c rfl) (YM.join YT.c (YM.lcO (enc:=e_V) (eb:=D.str) (pL:=[some (e_V data),some D.und,some D.und,some D.und]) (YI.nT (congrArg (fun z=>some (some z)) (invO_some h_items).symm) (puM pu_V _)) rfl rfl (fun _ _=>trivial) (fun item1 r hr m hm=>by
    unfold t_law_written_c2 at hr
    refine lc_st (YG.name (i:=3) (d:=e_V item1) rfl) (YB.yes) hm (fun m hm=>?_)
    obtain⟨o_written1,h_o_written1,hr⟩:=bnd hr
    obtain rfl:=Option.some.inj hr
    exact lc_el hm rfl (YM.fz (YM.call (YA.n rfl (deP (pu_V item1)) YA.nil) (.namP rfl (deP (pu_V item1)) (pu_V item1) Gr.nil) (yS item1 _ o_written1 h_o_written1) rfl) (fz_same rfl rfl)) (.keep (.keep (.keep (.keep Wk.nil)))) rfl) h_lc) h_joined) (cat_S h_cat4)) (YM.qb YT.c) (cat_S h_cat5)) (fun m hm=>⟨rfl,(Out.pin rfl (deP (pu_V data)) (Out.nil)).eq hm.e,hm.h⟩)
theorem yf_law_written: ∀ (d:Nat) (data:V) (h:List Ob) (r:Str),tf_law_written d data=some r→mf_law_written d [e_V data] h=.ok (D.str r,[e_V data],h)
  | 0=>fun data h r e=>by cases e
  | d+1=>yr_law_written (yf_law_written d)
theorem y_law_written(data:V)(h:List Ob)(r:Str)(hr:t_law_written data=some r): m_law_written [e_V data] h=.ok (D.str r,[e_V data],h):=yf_law_written 50 data h r hr
noncomputable def t_law_line_c1(item1:V): Option (Option Str) :=
  (t_law_written item1).bind fun o_written1 =>
  some (some o_written1)
noncomputable def t_law_line(call:V): Option Str :=
  (atV call (0:Int)).bind fun part =>
  (invO e_QV (e_V call)).bind fun as =>
  (lcOg t_law_line_c1 (cutL as (some (1:Int)) none)).bind fun lc =>
  (catO [part] (lc.map fun z=>(⟨Dat.str z,Nat.le_of_ble_eq_true rfl⟩:V))).bind fun cat =>
  (invO e_MS (e_MV cat)).bind fun as1 =>
  (joinO (" ":Str) as1).bind fun joined =>
  some joined
abbrev q_law_line(call:V)(h:List Ob): Str→Fl→Mem→Prop:=fun r=>FP (D.str r) [0] [e_V call] [e_V call] h
theorem y_law_line(call:V)(h:List Ob)(r:Str)(hr:t_law_line call=some r): m_law_line [e_V call] h=.ok (D.str r,[e_V call],h):=by
  unfold t_law_line at hr
  unfold m_law_line
  refine run_def rfl rfl (xcP (rfl)) (fun m hm=>?_)
  show Run _ m (q_law_line call h r)
  refine run_last ?_
  obtain⟨part,h_part,hr⟩:=bnd hr
  obtain⟨as,h_as,hr⟩:=bnd hr
  obtain⟨lc,h_lc,hr⟩:=bnd hr
  obtain⟨cat,h_cat,hr⟩:=bnd hr
  obtain⟨as1,h_as1,hr⟩:=bnd hr
  obtain⟨joined,h_joined,hr⟩:=bnd hr
  obtain rfl:=Option.some.inj hr
  exact run_rt hm (YM.join YT.c (YM.cast (YM.op2 (YM.cast (YM.lst (YA.v (YM.pp (YT.ix (YT.var rfl (deP (pu_V call))) YT.c (ix_V h_part)) (pu_V part)) YA.nil) rfl (by simp)) (show _=e_MV [part] from by first | rfl | simp[e_V,Dat.toD,toDs])) (YM.cast (YM.lcO (enc:=e_V) (eb:=D.str) (pL:=[some (e_V call),some D.und]) (YI.vT (YM.sl (YM.cast (YM.qb (YT.var rfl (deP (pu_V call)))) (invO_some h_as).symm) (YO.some YT.c) YO.none (sl_Q pu_V)) (puM pu_V _)) rfl rfl (fun _ _=>trivial) (fun item1 r hr m hm=>by
    unfold t_law_line_c1 at hr
    refine lc_st (YG.name (i:=1) (d:=e_V item1) rfl) (YB.yes) hm (fun m hm=>?_)
    obtain⟨o_written1,h_o_written1,hr⟩:=bnd hr
    obtain rfl:=Option.some.inj hr
    exact lc_el hm rfl (YM.fz (YM.call (YA.n rfl (deP (pu_V item1)) YA.nil) (.namP rfl (deP (pu_V item1)) (pu_V item1) Gr.nil) (y_law_written item1 _ o_written1 h_o_written1) rfl) (fz_same rfl rfl)) (.keep (.keep Wk.nil)) rfl) h_lc) (cmap_L (e:=D.str) (f:=e_V) (g:=fun z=>(⟨Dat.str z,Nat.le_of_ble_eq_true rfl⟩:V)) (fun z=>rfl) lc)) (cat_L pu_V h_cat)) (invO_some h_as1).symm) h_joined) (fun m hm=>⟨rfl,(Out.pin rfl (deP (pu_V call)) (Out.nil)).eq hm.e,hm.h⟩)
noncomputable def t_law_text_item_l1(line:Str)(s:(Int×Str))(k:Int): Option (Ex (Option (Str×Int)) (Int×Str)) :=
  (lenS line).bind fun len1 =>
  if decide (len1≤s.1)=true then
    some (.rt none)
  else
    (atS line s.1).bind fun ch =>
    if decide (ch=("\"":Str))=true then
      (cutSO line (some (s.1+(1:Int))) (some (s.1+(2:Int)))).bind fun part =>
      if (!decide (part=("\"":Str)))=true then
        some (.rt (some (s.2,(s.1+(1:Int)))))
      else
        (some (s.1+(1:Int))).bind fun atx1 =>
        (atS line atx1).bind fun ch1 =>
        (ordO ch1).bind fun code =>
        if ((decide (code<(32:Int)))||((decide ((126:Int)<code))||(decide (code=(37:Int)))))=true then
          some (.rt none)
        else
          (atS line atx1).bind fun ch2 =>
          (catSO s.2 ch2).bind fun text1 =>
          (some (atx1+(1:Int))).bind fun atx2 =>
          some (.go (atx2,text1))
    else
      (atS line s.1).bind fun ch3 =>
      (ordO ch3).bind fun code1 =>
      if ((decide (code1<(32:Int)))||((decide ((126:Int)<code1))||(decide (code1=(37:Int)))))=true then
        some (.rt none)
      else
        (atS line s.1).bind fun ch4 =>
        (catSO s.2 ch4).bind fun text2 =>
        (some (s.1+(1:Int))).bind fun atx3 =>
        some (.go (atx3,text2))
noncomputable def t_law_text_item(line:Str)(atx:Int): Option (Option (Str×Int)) :=
  (some ("":Str)).bind fun text =>
  (lenS line).bind fun len =>
  (gd ((-4611686018427387904≤len∧len<4611686018427387904)) (some (rangeI 0 len))).bind fun rg =>
  (forE (t_law_text_item_l1 line) rg (atx,text)).bind (Rs.elim (fun s1 =>
    some none) (fun r=>some r))
abbrev q_law_text_item(line:Str)(atx:Int)(h:List Ob): (Option (Str×Int))→Fl→Mem→Prop:=fun r=>FP (e_OJ2SI r) [0] [D.str line,D.int atx] [D.str line,D.int atx] h
theorem y_law_text_item (line:Str) (atx:Int) (h:List Ob) (r:(Option (Str×Int))) (hr:t_law_text_item line atx=some r):m_law_text_item [D.str line,D.int atx] h=.ok (e_OJ2SI r,[D.str line,D.int atx],h):=by
  unfold t_law_text_item at hr
  unfold m_law_text_item
  refine run_def rfl rfl (nxO (e:=e_J2SI) (fun _=>rfl) r) (fun m hm=>?_)
  show Run _ m (q_law_text_item line atx h r)
  obtain⟨text,h_text,hr⟩:=bnd hr
  refine run_asg hm (YM.cast (YM.pp YT.c rfl) (congrArg D.str (Option.some.inj h_text))) (YG.name (i:=2) (d:=D.str text) rfl) (fun m hm=>?_)
  obtain⟨len,h_len,hr⟩:=bnd hr
  obtain⟨rg,h_rg,hr⟩:=bnd hr
  obtain⟨ex,h_s1,hr⟩:=bnd hr
  refine run_forX (P:=fun(s:(Int×Str))=>[some (D.str line),some (D.int s.1),some (D.str s.2),none,none]) (H:=fun(s:(Int×Str))=>h) (PR:=q_law_text_item line atx h) (e:=ex) hm (YI.cast (YI.r1 (YA.qq (YL.cons (YT.cb (YL.cons (YT.var rfl rfl) YL.nil) (len_S h_len) rfl) YL.nil)) (.bor Ct.nil) (gd_some h_rg).1) (congrArg (List.map D.int) (Option.some.inj (gd_some h_rg).2))) (fun m hm=>run_forE (enc:=D.int) (fun _ _ _=>trivial) ?_ rg (atx,text) ex h_s1 m (hm.wk (.keep (.keep (.keep (.drop (.drop Wk.nil))))))) ?_ ?_
  · intro s k rr hr m hm
    unfold t_law_text_item_l1 at hr
    refine st_tg (YG.name (i:=3) (d:=D.int k) rfl) hm (fun m hm=>?_)
    obtain⟨len1,h_len1,hr⟩:=bnd hr
    refine run_if hm (YB.bb (YM.opQ (YT.var rfl rfl) (YT.cb (YL.cons (YT.var rfl rfl) YL.nil) (len_S h_len1) rfl) rfl)) (fun hc m hm=>?_) (fun hc m hm=>?_)
    · rw[if_pos hc] at hr
      obtain rfl:=Option.some.inj hr
      exact run_rt hm (YM.pp YT.c rfl) (fun m hm=>⟨⟨_,rfl⟩,⟨rfl,(Out.pin rfl rfl (Out.keep rfl rfl (Out.nil))).eq hm.e,hm.h⟩⟩)
    · rw[if_neg (ne_t hc)] at hr
      refine run_pass ?_
      obtain⟨ch,h_ch,hr⟩:=bnd hr
      refine run_if hm (YB.bb (YM.opQ (YT.ix (YT.var rfl rfl) (YT.var rfl rfl) (ix_S h_ch)) YT.c (eq_fa Fa.str (by decide) ch ("\"":Str)))) (fun hc m hm=>?_) (fun hc m hm=>?_)
      · rw[if_pos hc] at hr
        refine run_assoc ?_
        obtain⟨part,h_part,hr⟩:=bnd hr
        refine run_if hm (YB.bb (YM.op2 (YM.sl (YM.qb (YT.var rfl rfl)) (YO.some (YT.op2 (YT.var rfl rfl) YT.c rfl rfl)) (YO.some (YT.op2 (YT.var rfl rfl) YT.c rfl rfl)) (sl_S h_part)) (YM.qb YT.c) (ne_fa Fa.str (by decide) part ("\"":Str)))) (fun hc m hm=>?_) (fun hc m hm=>?_)
        · rw[if_pos hc] at hr
          obtain rfl:=Option.some.inj hr
          exact run_rt hm (YM.lst (YA.v (YM.mv rfl rfl) (YA.v (YM.opQ (YT.var rfl rfl) YT.c rfl) YA.nil)) rfl (by simp)) (fun m hm=>⟨⟨_,rfl⟩,⟨rfl,(Out.pin rfl rfl (Out.keep rfl rfl (Out.nil))).eq hm.e,hm.h⟩⟩)
        · rw[if_neg (ne_t hc)] at hr
          refine run_pass ?_
          obtain⟨atx1,h_atx1,hr⟩:=bnd hr
          refine run_asg hm (YM.cast (YM.opQ (YT.var rfl rfl) YT.c rfl) (congrArg D.int (Option.some.inj h_atx1))) (YG.name (i:=1) (d:=D.int atx1) rfl) (fun m hm=>?_)
          obtain⟨ch1,h_ch1,hr⟩:=bnd hr
          obtain⟨code,h_code,hr⟩:=bnd hr
          refine run_asg hm (YM.pp (YT.cb (YL.cons (YT.ix (YT.var rfl rfl) (YT.var rfl rfl) (ix_S h_ch1)) YL.nil) (ord_S h_code) rfl) rfl) (YG.name (i:=4) (d:=D.int code) rfl) (fun m hm=>?_)
          refine run_if hm (YB.orT (YB.bb (YM.opQ (YT.var rfl rfl) YT.c rfl)) (YB.orT (YB.bb (YM.opQ (YT.var rfl rfl) YT.c rfl)) (YB.bb (YM.opQ (YT.var rfl rfl) YT.c (eq_fa Fa.int (by decide) code (37:Int)))))) (fun hc m hm=>?_) (fun hc m hm=>?_)
          · rw[if_pos hc] at hr
            obtain rfl:=Option.some.inj hr
            exact run_rt hm (YM.pp YT.c rfl) (fun m hm=>⟨⟨_,rfl⟩,⟨rfl,(Out.pin rfl rfl (Out.keep rfl rfl (Out.nil))).eq hm.e,hm.h⟩⟩)
          · rw[if_neg (ne_t hc)] at hr
            refine run_pass ?_
            obtain⟨ch2,h_ch2,hr⟩:=bnd hr
            obtain⟨text1,h_text1,hr⟩:=bnd hr
            refine run_asg hm (YM.opQ (YT.var rfl rfl) (YT.ix (YT.var rfl rfl) (YT.var rfl rfl) (ix_S h_ch2)) (cat_S h_text1)) (YG.name (i:=2) (d:=D.str text1) rfl) (fun m hm=>?_)
            refine run_last ?_
            obtain⟨atx2,h_atx2,hr⟩:=bnd hr
            refine run_asg hm (YM.cast (YM.opQ (YT.var rfl rfl) YT.c rfl) (congrArg D.int (Option.some.inj h_atx2))) (YG.name (i:=1) (d:=D.int atx2) rfl) (fun m hm=>?_)
            obtain rfl:=Option.some.inj hr
            exact run_end ⟨.inl rfl,hm.wk (.keep (.keep (.keep (.drop (.drop Wk.nil)))))⟩
      · rw[if_neg (ne_t hc)] at hr
        refine run_pass ?_
        obtain⟨ch3,h_ch3,hr⟩:=bnd hr
        obtain⟨code1,h_code1,hr⟩:=bnd hr
        refine run_asg hm (YM.pp (YT.cb (YL.cons (YT.ix (YT.var rfl rfl) (YT.var rfl rfl) (ix_S h_ch3)) YL.nil) (ord_S h_code1) rfl) rfl) (YG.name (i:=4) (d:=D.int code1) rfl) (fun m hm=>?_)
        refine run_if hm (YB.orT (YB.bb (YM.opQ (YT.var rfl rfl) YT.c rfl)) (YB.orT (YB.bb (YM.opQ (YT.var rfl rfl) YT.c rfl)) (YB.bb (YM.opQ (YT.var rfl rfl) YT.c (eq_fa Fa.int (by decide) code1 (37:Int)))))) (fun hc m hm=>?_) (fun hc m hm=>?_)
        · rw[if_pos hc] at hr
          obtain rfl:=Option.some.inj hr
          exact run_rt hm (YM.pp YT.c rfl) (fun m hm=>⟨⟨_,rfl⟩,⟨rfl,(Out.pin rfl rfl (Out.keep rfl rfl (Out.nil))).eq hm.e,hm.h⟩⟩)
        · rw[if_neg (ne_t hc)] at hr
          refine run_pass ?_
          obtain⟨ch4,h_ch4,hr⟩:=bnd hr
          obtain⟨text2,h_text2,hr⟩:=bnd hr
          refine run_asg hm (YM.opQ (YT.var rfl rfl) (YT.ix (YT.var rfl rfl) (YT.var rfl rfl) (ix_S h_ch4)) (cat_S h_text2)) (YG.name (i:=2) (d:=D.str text2) rfl) (fun m hm=>?_)
          refine run_last ?_
          obtain⟨atx3,h_atx3,hr⟩:=bnd hr
          refine run_asg hm (YM.cast (YM.opQ (YT.var rfl rfl) YT.c rfl) (congrArg D.int (Option.some.inj h_atx3))) (YG.name (i:=1) (d:=D.int atx3) rfl) (fun m hm=>?_)
          obtain rfl:=Option.some.inj hr
          exact run_end ⟨.inl rfl,hm.wk (.keep (.keep (.keep (.drop (.drop Wk.nil)))))⟩
  · intro s1 he m hm
    subst he
    replace hr:=(show _=_ from hr)
    rw[rs_go] at hr
    refine run_last ?_
    obtain rfl:=Option.some.inj hr
    exact run_rt hm (YM.pp YT.c rfl) (fun m hm=>⟨rfl,(Out.pin rfl rfl (Out.keep rfl rfl (Out.nil))).eq hm.e,hm.h⟩)
  · intro r1 he d m hq
    subst he
    obtain rfl:=Option.some.inj hr
    exact hq
noncomputable def t_law_number_item_l1(line:Str)(s:Int)(k:Int): Option Int :=
  (lenS line).bind fun len1 =>
  (if decide (s<len1)=true then
  (atS line s).bind fun ch1 =>
  (inSO ch1 ("0123456789":Str)).bind fun inx =>
  some inx
  else
  some false).bind fun both =>
  (if both=true then
    (some (s+(1:Int))).bind fun atx3 =>
    some atx3
  else
    some s).bind fun atx2 =>
  some atx2
noncomputable def t_law_number_item(line:Str)(atx:Int): Option (Option ((Option Int)×Int)) :=
  (atS line atx).bind fun ch =>
  (if decide (ch=("-":Str))=true then
    (some (atx+(1:Int))).bind fun atx1 =>
    some (atx1,(-1:Int))
  else
    some (atx,(1:Int))).bind fun j =>
  (lenS line).bind fun len =>
  (gd ((-4611686018427387904≤len∧len<4611686018427387904)) (some (rangeI 0 len))).bind fun rg =>
  (forS (t_law_number_item_l1 line) rg j.1).bind fun atx4 =>
  if decide (atx4=j.1)=true then
    if decide (j.2=(1:Int))=true then
      some none
    else
      some (some (none,atx4))
  else
    (if decide ((19:Int)<(atx4 - j.1))=true then
    some true
    else
    (atS line j.1).bind fun ch2 =>
    (if ((decide (ch2=("0":Str)))&&((decide (j.2=(-1:Int)))||(decide ((1:Int)<(atx4 - j.1)))))=true then
    some true
    else
    (cutSO line (some j.1) (some atx4)).bind fun part =>
    (intSO part).bind fun num =>
    some (decide ((1000000000000000000:Int)<num))).bind fun either =>
    some either).bind fun either1 =>
    if either1=true then
      some none
    else
      (cutSO line (some j.1) (some atx4)).bind fun part1 =>
      (intSO part1).bind fun num1 =>
      (mulO j.2 num1).bind fun prod =>
      some (some ((some prod),atx4))
abbrev q_law_number_item(line:Str)(atx:Int)(h:List Ob): (Option ((Option Int)×Int))→Fl→Mem→Prop:=fun r=>FP (e_OJ2OII r) [0] [D.str line,D.int atx] [D.str line,D.int atx] h
theorem y_law_number_item(line:Str)(atx:Int)(h:List Ob)(r:(Option ((Option Int)×Int)))(hr:t_law_number_item line atx=some r): m_law_number_item [D.str line,D.int atx] h=.ok (e_OJ2OII r,[D.str line,D.int atx],h):=by
  unfold t_law_number_item at hr
  unfold m_law_number_item
  refine run_def rfl rfl (nxO (e:=e_J2OII) (fun _=>rfl) r) (fun m hm=>?_)
  show Run _ m (q_law_number_item line atx h r)
  refine run_asg hm (YM.pp YT.c rfl) (YG.name (i:=2) (d:=D.int (1:Int)) rfl) (fun m hm=>?_)
  obtain⟨ch,h_ch,hr⟩:=bnd hr
  obtain⟨j,h_j,hr⟩:=bnd hr
  refine run_ifj (p1:=[some (D.str line),some (D.int j.1),some (D.int j.2),some D.und,some D.und]) (h1:=h) hm (YB.bb (YM.opQ (YT.ix (YT.var rfl rfl) (YT.var rfl rfl) (ix_S h_ch)) YT.c (eq_fa Fa.str (by decide) ch ("-":Str)))) (fun hc m hm=>?_) (fun hc m hm=>?_) (fun m hm=>?_)
  · clear hr
    have hr:=h_j
    clear h_j
    rw[if_pos hc] at hr
    refine run_assoc ?_
    refine run_asg hm (YM.pp (YT.op1 YT.c rfl rfl) rfl) (YG.name (i:=2) (d:=D.int (-1:Int)) rfl) (fun m hm=>?_)
    obtain⟨atx1,h_atx1,hr⟩:=bnd hr
    refine run_asg hm (YM.cast (YM.opQ (YT.var rfl rfl) YT.c rfl) (congrArg D.int (Option.some.inj h_atx1))) (YG.name (i:=1) (d:=D.int atx1) rfl) (fun m hm=>?_)
    obtain rfl:=Option.some.inj hr
    exact run_end ⟨rfl,hm.wk (.keep (.keep (.keep (.keep (.keep Wk.nil)))))⟩
  · clear hr
    have hr:=h_j
    clear h_j
    rw[if_neg (ne_t hc)] at hr
    refine run_pass ?_
    obtain rfl:=Option.some.inj hr
    exact run_end ⟨rfl,hm.wk (.keep (.keep (.keep (.keep (.keep Wk.nil)))))⟩
  refine run_asg hm (YM.varP rfl rfl rfl) (YG.name (i:=3) (d:=D.int j.1) rfl) (fun m hm=>?_)
  obtain⟨len,h_len,hr⟩:=bnd hr
  obtain⟨rg,h_rg,hr⟩:=bnd hr
  obtain⟨atx4,h_atx4,hr⟩:=bnd hr
  refine run_for (p2:=[some (D.str line),some (D.int atx4),some (D.int j.2),some (D.int j.1),none]) (h2:=h) hm (YI.cast (YI.r1 (YA.qq (YL.cons (YT.cb (YL.cons (YT.var rfl rfl) YL.nil) (len_S h_len) rfl) YL.nil)) (.bor Ct.nil) (gd_some h_rg).1) (congrArg (List.map D.int) (Option.some.inj (gd_some h_rg).2))) (fun m hm=>run_forS (P:=fun(s:Int)=>[some (D.str line),some (D.int s),some (D.int j.2),some (D.int j.1),none]) (H:=fun(s:Int)=>h) (enc:=D.int) (fun _ _ _=>trivial) ?_ rg j.1 atx4 h_atx4 m (hm.wk (.keep (.keep (.keep (.keep (.drop Wk.nil))))))) (fun m hm=>?_)
  · intro s k rr hr m hm
    unfold t_law_number_item_l1 at hr
    refine st_tg (YG.name (i:=4) (d:=D.int k) rfl) hm (fun m hm=>?_)
    refine run_last ?_
    obtain⟨len1,h_len1,hr⟩:=bnd hr
    obtain⟨both,h_both,hr⟩:=bnd hr
    obtain⟨atx2,h_atx2,hr⟩:=bnd hr
    refine run_ifj (p1:=[some (D.str line),some (D.int atx2),some (D.int j.2),some (D.int j.1),some (D.int k)]) (h1:=h) hm (YB.and (y:=both) (p':=[some (D.str line),some (D.int s),some (D.int j.2),some (D.int j.1),some (D.int k)]) (h':=h) (YB.bb (YM.opQ (YT.var rfl rfl) (YT.cb (YL.cons (YT.var rfl rfl) YL.nil) (len_S h_len1) rfl) rfl)) (fun hb=>by rw[if_pos hb] at h_both;obtain⟨ch1,h_ch1,h_both⟩:=bnd h_both;obtain⟨inx,h_inx,h_both⟩:=bnd h_both;obtain rfl:=Option.some.inj h_both;exact YB.bb (YM.opQ (YT.ix (YT.var rfl rfl) (YT.var rfl rfl) (ix_S h_ch1)) YT.c (in_S h_inx))) (fun hb=>by rw[if_neg (ne_t hb)] at h_both;obtain rfl:=Option.some.inj h_both;exact⟨rfl,rfl,(.keep (.keep (.keep (.keep (.keep Wk.nil)))))⟩)) (fun hc m hm=>?_) (fun hc m hm=>?_) (fun m hm=>?_)
    · clear hr
      have hr:=h_atx2
      clear h_atx2
      rw[if_pos hc] at hr
      obtain⟨atx3,h_atx3,hr⟩:=bnd hr
      refine run_asg hm (YM.cast (YM.opQ (YT.var rfl rfl) YT.c rfl) (congrArg D.int (Option.some.inj h_atx3))) (YG.name (i:=1) (d:=D.int atx3) rfl) (fun m hm=>?_)
      obtain rfl:=Option.some.inj hr
      exact run_end ⟨rfl,hm.wk (.keep (.keep (.keep (.keep (.keep Wk.nil)))))⟩
    · clear hr
      have hr:=h_atx2
      clear h_atx2
      rw[if_neg (ne_t hc)] at hr
      refine run_pass ?_
      obtain rfl:=Option.some.inj hr
      exact run_end ⟨rfl,hm.wk (.keep (.keep (.keep (.keep (.keep Wk.nil)))))⟩
    obtain rfl:=Option.some.inj hr
    exact run_end ⟨.inl rfl,hm.wk (.keep (.keep (.keep (.keep (.drop Wk.nil)))))⟩
  refine run_if hm (YB.bb (YM.opQ (YT.var rfl rfl) (YT.var rfl rfl) (eq_fa Fa.int (by decide) atx4 j.1))) (fun hc m hm=>?_) (fun hc m hm=>?_)
  · rw[if_pos hc] at hr
    refine run_assoc ?_
    refine run_if hm (YB.bb (YM.opQ (YT.var rfl rfl) YT.c (eq_fa Fa.int (by decide) j.2 (1:Int)))) (fun hc m hm=>?_) (fun hc m hm=>?_)
    · rw[if_pos hc] at hr
      obtain rfl:=Option.some.inj hr
      exact run_rt hm (YM.pp YT.c rfl) (fun m hm=>⟨rfl,(Out.pin rfl rfl (Out.keep rfl rfl (Out.nil))).eq hm.e,hm.h⟩)
    · rw[if_neg (ne_t hc)] at hr
      refine run_pass ?_
      obtain rfl:=Option.some.inj hr
      exact run_rt hm (YM.lst (YA.v (YM.pp YT.c rfl) (YA.v (YM.varP rfl rfl rfl) YA.nil)) rfl (by simp)) (fun m hm=>⟨rfl,(Out.pin rfl rfl (Out.keep rfl rfl (Out.nil))).eq hm.e,hm.h⟩)
  · rw[if_neg (ne_t hc)] at hr
    refine run_pass ?_
    obtain⟨either1,h_either1,hr⟩:=bnd hr
    refine run_if hm (YB.or (y:=either1) (p':=[some (D.str line),some (D.int atx4),some (D.int j.2),some (D.int j.1),none]) (h':=h) (YB.bb (YM.opQ (YT.op2 (YT.var rfl rfl) (YT.var rfl rfl) rfl rfl) YT.c rfl)) (fun hb=>by rw[if_neg (ne_t hb)] at h_either1;obtain⟨ch2,h_ch2,h_either1⟩:=bnd h_either1;obtain⟨either,h_either,h_either1⟩:=bnd h_either1;obtain rfl:=Option.some.inj h_either1;exact YB.or (y:=either) (p':=[some (D.str line),some (D.int atx4),some (D.int j.2),some (D.int j.1),none]) (h':=h) (YB.andT (YB.bb (YM.opQ (YT.ix (YT.var rfl rfl) (YT.var rfl rfl) (ix_S h_ch2)) YT.c (eq_fa Fa.str (by decide) ch2 ("0":Str)))) (YB.orT (YB.bb (YM.opQ (YT.var rfl rfl) (YT.op1 YT.c rfl rfl) (eq_fa Fa.int (by decide) j.2 (-1:Int)))) (YB.bb (YM.opQ (YT.op2 (YT.var rfl rfl) (YT.var rfl rfl) rfl rfl) YT.c rfl)))) (fun hb=>by rw[if_neg (ne_t hb)] at h_either;obtain⟨part,h_part,h_either⟩:=bnd h_either;obtain⟨num,h_num,h_either⟩:=bnd h_either;obtain rfl:=Option.some.inj h_either;exact YB.bb (YM.op2 (YM.cb (YA.v (YM.sl (YM.qb (YT.var rfl rfl)) (YO.some (YT.var rfl rfl)) (YO.some (YT.var rfl rfl)) (sl_S h_part)) YA.nil) (.val Ct.nil) (int_S h_num)) (YM.qb (YT.op2 YT.c YT.c (pow_k (j:=18) 1000000000000000000 (by decide) (by decide)) rfl)) rfl)) (fun hb=>by rw[if_pos hb] at h_either;obtain rfl:=Option.some.inj h_either;exact⟨rfl,rfl,(.keep (.keep (.keep (.keep (.drop Wk.nil)))))⟩)) (fun hb=>by rw[if_pos hb] at h_either1;obtain rfl:=Option.some.inj h_either1;exact⟨rfl,rfl,(.keep (.keep (.keep (.keep (.drop Wk.nil)))))⟩)) (fun hc m hm=>?_) (fun hc m hm=>?_)
    · rw[if_pos hc] at hr
      obtain rfl:=Option.some.inj hr
      exact run_rt hm (YM.pp YT.c rfl) (fun m hm=>⟨rfl,(Out.pin rfl rfl (Out.keep rfl rfl (Out.nil))).eq hm.e,hm.h⟩)
    · rw[if_neg (ne_t hc)] at hr
      refine run_pass ?_
      refine run_last ?_
      obtain⟨part1,h_part1,hr⟩:=bnd hr
      obtain⟨num1,h_num1,hr⟩:=bnd hr
      obtain⟨prod,h_prod,hr⟩:=bnd hr
      obtain rfl:=Option.some.inj hr
      exact run_rt hm (YM.lst (YA.v (YM.fz (YM.opN rfl rfl (YM.cb (YA.v (YM.sl (YM.qb (YT.var rfl rfl)) (YO.some (YT.var rfl rfl)) (YO.some (YT.var rfl rfl)) (sl_S h_part1)) YA.nil) (.val Ct.nil) (int_S h_num1)) rfl rfl (mul_O h_prod)) (fz_same rfl rfl)) (YA.v (YM.varP rfl rfl rfl) YA.nil)) rfl (by simp)) (fun m hm=>⟨rfl,(Out.pin rfl rfl (Out.keep rfl rfl (Out.nil))).eq hm.e,hm.h⟩)
noncomputable def t_law_item_l1(tS:Str→Int→Int→Option (Option (V×Int)))(line:Str)(depth:Int)(s:(Int×(List V)))(k:Int): Option (Ex (Option (V×Int)) (Int×(List V))) :=
  (tS line (s.1+(1:Int)) (depth+(1:Int))).bind fun found =>
  if found.isNone=true then
    some (.rt none)
  else
    (found).bind fun some_found =>
    (appO s.2 some_found.1).bind fun items =>
    (cutSO line (some some_found.2) (some (some_found.2+(1:Int)))).bind fun part1 =>
    if decide (part1=(")":Str))=true then
      (mkV (Dat.tup (items.map fun z=>z.d))).bind fun any =>
      some (.rt (some (any,(some_found.2+(1:Int)))))
    else
      (cutSO line (some some_found.2) (some (some_found.2+(1:Int)))).bind fun part2 =>
      if (!decide (part2=(" ":Str)))=true then
        some (.rt none)
      else
        some (.go (some_found.2,items))
noncomputable def tr_law_item (tS:Str→Int→Int→Option (Option (V×Int))) (line:Str) (atx:Int) (depth:Int):Option (Option (V×Int)) :=
  (lenS line).bind fun len =>
  if decide (len≤atx)=true then
    some none
  else
    (atS line atx).bind fun ch =>
    if decide (ch=("\"":Str))=true then
      (t_law_text_item line (atx+(1:Int))).bind fun o_item =>
      some (o_item.map fun z=>((⟨Dat.str z.1,Nat.le_of_ble_eq_true rfl⟩:V),z.2))
    else
      (atS line atx).bind fun ch1 =>
      if (!decide (ch1=("(":Str)))=true then
        (t_law_number_item line atx).bind fun o_item1 =>
        some (o_item1.map fun z=>((⟨Option.elim z.1 Dat.non (fun o=>Dat.int o),Nat.le_trans (dep_O (fun o=>Nat.le_refl 0) z.1) (by decide)⟩:V),z.2))
      else
        if decide (depth=(40:Int))=true then
          some none
        else
          (cutSO line (some (atx+(1:Int))) (some (atx+(2:Int)))).bind fun part =>
          if decide (part=(")":Str))=true then
            some (some ((⟨Dat.tup [],Nat.le_trans (Nat.le_refl 1) (by decide)⟩:V),(atx+(2:Int))))
          else
            (lenS line).bind fun len1 =>
            (gd ((-4611686018427387904≤len1∧len1<4611686018427387904)) (some (rangeI 0 len1))).bind fun rg =>
            (forE (t_law_item_l1 tS line depth) rg (atx,([]:(List V)))).bind (Rs.elim (fun s1 =>
              some none) (fun r=>some r))
abbrev q_law_item(line:Str)(atx:Int)(depth:Int)(h:List Ob): (Option (V×Int))→Fl→Mem→Prop:=fun r=>FP (e_OJ2VI r) [0,2] [D.str line,D.int atx,D.int depth] [D.str line,D.int atx,D.int depth] h
noncomputable def tf_law_item: Nat→Str→Int→Int→Option (Option (V×Int))
  | 0=>fun _ _ _=>none
  | d+1=>tr_law_item (tf_law_item d)
noncomputable def t_law_item(line:Str)(atx:Int)(depth:Int): Option (Option (V×Int)):=tf_law_item 50 line atx depth
theorem yr_law_item {mS:CallM} {tS:Str→Int→Int→Option (Option (V×Int))} (yS:∀ (line:Str) (atx:Int) (depth:Int) (h:List Ob) (r:(Option (V×Int))),tS line atx depth=some r→mS [D.str line,D.int atx,D.int depth] h=.ok (e_OJ2VI r,[D.str line,D.int atx,D.int depth],h)) (line:Str) (atx:Int) (depth:Int) (h:List Ob) (r:(Option (V×Int))) (hr:tr_law_item tS line atx depth=some r):mr_law_item mS [D.str line,D.int atx,D.int depth] h=.ok (e_OJ2VI r,[D.str line,D.int atx,D.int depth],h):=by
  unfold tr_law_item at hr
  unfold mr_law_item
  refine run_def rfl rfl (nxO (e:=e_J2VI) (fun _=>rfl) r) (fun m hm=>?_)
  show Run _ m (q_law_item line atx depth h r)
  obtain⟨len,h_len,hr⟩:=bnd hr
  refine run_if hm (YB.bb (YM.opQ (YT.var rfl rfl) (YT.cb (YL.cons (YT.var rfl rfl) YL.nil) (len_S h_len) rfl) rfl)) (fun hc m hm=>?_) (fun hc m hm=>?_)
  · rw[if_pos hc] at hr
    obtain rfl:=Option.some.inj hr
    exact run_rt hm (YM.pp YT.c rfl) (fun m hm=>⟨rfl,(Out.pin rfl rfl (Out.keep rfl rfl (Out.pin rfl rfl (Out.nil)))).eq hm.e,hm.h⟩)
  · rw[if_neg (ne_t hc)] at hr
    refine run_pass ?_
    obtain⟨ch,h_ch,hr⟩:=bnd hr
    refine run_if hm (YB.bb (YM.opQ (YT.ix (YT.var rfl rfl) (YT.var rfl rfl) (ix_S h_ch)) YT.c (eq_fa Fa.str (by decide) ch ("\"":Str)))) (fun hc m hm=>?_) (fun hc m hm=>?_)
    · rw[if_pos hc] at hr
      obtain⟨o_item,h_o_item,hr⟩:=bnd hr
      obtain rfl:=Option.some.inj hr
      exact run_rt hm (YM.cast (YM.call (YA.n rfl rfl (YA.qq (YL.cons (YT.op2 (YT.var rfl rfl) YT.c rfl rfl) YL.nil))) (.namP rfl rfl rfl (.bor rfl Gr.nil)) (y_law_text_item line (atx+(1:Int)) _ o_item h_o_item) rfl) (cmap_O (e:=e_J2SI) (f:=e_J2VI) (g:=fun z=>((⟨Dat.str z.1,Nat.le_of_ble_eq_true rfl⟩:V),z.2)) (fun z=>rfl) o_item)) (fun m hm=>⟨rfl,(Out.pin rfl rfl (Out.keep rfl rfl (Out.pin rfl rfl (Out.nil)))).eq hm.e,hm.h⟩)
    · rw[if_neg (ne_t hc)] at hr
      refine run_pass ?_
      obtain⟨ch1,h_ch1,hr⟩:=bnd hr
      refine run_if hm (YB.bb (YM.opQ (YT.ix (YT.var rfl rfl) (YT.var rfl rfl) (ix_S h_ch1)) YT.c (ne_fa Fa.str (by decide) ch1 (("(":Str))))) (fun hc m hm=>?_) (fun hc m hm=>?_)
      · rw[if_pos hc] at hr
        obtain⟨o_item1,h_o_item1,hr⟩:=bnd hr
        obtain rfl:=Option.some.inj hr
        exact run_rt hm (YM.cast (YM.call (YA.n rfl rfl (YA.v (YM.varP rfl rfl rfl) YA.nil)) (.namP rfl rfl rfl (.val Gr.nil)) (y_law_number_item line atx _ o_item1 h_o_item1) rfl) (cmap_O (e:=e_J2OII) (f:=e_J2VI) (g:=fun z=>((⟨Option.elim z.1 Dat.non (fun o=>Dat.int o),Nat.le_trans (dep_O (fun o=>Nat.le_refl 0) z.1) (by decide)⟩:V),z.2)) (fun z=>congrArg (D.lst true) (congr2 (tO (e:=D.int) (f:=fun o=>Dat.int o) (fun o=>rfl) z.1) (congr2 (rfl) (rfl)))) o_item1)) (fun m hm=>⟨rfl,(Out.pin rfl rfl (Out.keep rfl rfl (Out.pin rfl rfl (Out.nil)))).eq hm.e,hm.h⟩)
      · rw[if_neg (ne_t hc)] at hr
        refine run_pass ?_
        refine run_if hm (YB.bb (YM.opQ (YT.var rfl rfl) YT.c (eq_fa Fa.int (by decide) depth (40:Int)))) (fun hc m hm=>?_) (fun hc m hm=>?_)
        · rw[if_pos hc] at hr
          obtain rfl:=Option.some.inj hr
          exact run_rt hm (YM.pp YT.c rfl) (fun m hm=>⟨rfl,(Out.pin rfl rfl (Out.keep rfl rfl (Out.pin rfl rfl (Out.nil)))).eq hm.e,hm.h⟩)
        · rw[if_neg (ne_t hc)] at hr
          refine run_pass ?_
          obtain⟨part,h_part,hr⟩:=bnd hr
          refine run_if hm (YB.bb (YM.op2 (YM.sl (YM.qb (YT.var rfl rfl)) (YO.some (YT.op2 (YT.var rfl rfl) YT.c rfl rfl)) (YO.some (YT.op2 (YT.var rfl rfl) YT.c rfl rfl)) (sl_S h_part)) (YM.qb YT.c) (eq_fa Fa.str (by decide) part ((")":Str))))) (fun hc m hm=>?_) (fun hc m hm=>?_)
          · rw[if_pos hc] at hr
            obtain rfl:=Option.some.inj hr
            exact run_rt hm (YM.lst (YA.v (YM.tup YA.nil rfl (by decide)) (YA.v (YM.opQ (YT.var rfl rfl) YT.c rfl) YA.nil)) rfl (by simp)) (fun m hm=>⟨rfl,(Out.pin rfl rfl (Out.keep rfl rfl (Out.pin rfl rfl (Out.nil)))).eq hm.e,hm.h⟩)
          · rw[if_neg (ne_t hc)] at hr
            refine run_pass ?_
            refine run_asg hm (YM.lst YA.nil rfl (by decide)) (YG.name (i:=3) (d:=D.lst true []) rfl) (fun m hm=>?_)
            obtain⟨len1,h_len1,hr⟩:=bnd hr
            obtain⟨rg,h_rg,hr⟩:=bnd hr
            obtain⟨ex,h_s1,hr⟩:=bnd hr
            refine run_forX (P:=fun(s:(Int×(List V)))=>[some (D.str line),some (D.int s.1),some (D.int depth),some (e_MV s.2),none,none]) (H:=fun(s:(Int×(List V)))=>h) (PR:=q_law_item line atx depth h) (e:=ex) hm (YI.cast (YI.r1 (YA.qq (YL.cons (YT.cb (YL.cons (YT.var rfl rfl) YL.nil) (len_S h_len1) rfl) YL.nil)) (.bor Ct.nil) (gd_some h_rg).1) (congrArg (List.map D.int) (Option.some.inj (gd_some h_rg).2))) (fun m hm=>run_forE (enc:=D.int) (fun _ _ _=>trivial) ?_ rg (atx,([]:(List V))) ex h_s1 m (hm.wk (.keep (.keep (.keep (.cast (rfl) (.drop (.drop Wk.nil)))))))) ?_ ?_
            · intro s k rr hr m hm
              unfold t_law_item_l1 at hr
              refine st_tg (YG.name (i:=4) (d:=D.int k) rfl) hm (fun m hm=>?_)
              obtain⟨found,h_found,hr⟩:=bnd hr
              refine run_asg hm (YM.call (YA.n rfl rfl (YA.qq (YL.cons (YT.op2 (YT.var rfl rfl) YT.c rfl rfl) (YL.cons (YT.op2 (YT.var rfl rfl) YT.c rfl rfl) YL.nil)))) (.namP rfl rfl rfl (.bor rfl (.bor rfl Gr.nil))) (yS line (s.1+(1:Int)) (depth+(1:Int)) _ found h_found) rfl) (YG.name (i:=5) (d:=e_OJ2VI found) rfl) (fun m hm=>?_)
              refine run_if hm (YB.bb (YM.opQ (YT.var rfl (deO (e:=e_J2VI) (fun _=>rfl) found)) YT.c (is_n (isn_O (by intro a;rfl))))) (fun hc m hm=>?_) (fun hc m hm=>?_)
              · rw[if_pos hc] at hr
                obtain rfl:=Option.some.inj hr
                exact run_rt hm (YM.pp YT.c rfl) (fun m hm=>⟨⟨_,rfl⟩,⟨rfl,(Out.pin rfl rfl (Out.keep rfl rfl (Out.pin rfl rfl (Out.nil)))).eq hm.e,hm.h⟩⟩)
              · rw[if_neg (ne_t hc)] at hr
                refine run_pass ?_
                obtain⟨some_found,h_some_found,hr⟩:=bnd hr
                obtain⟨items,h_items,hr⟩:=bnd hr
                refine run_ex hm (YM.appL (e:=e_V) (xs:=s.2) (a:=some_found.1) rfl rfl (YM.pp (YT.ix (YT.cast (YT.var rfl (deO (e:=e_J2VI) (fun _=>rfl) found)) (congrArg e_OJ2VI h_some_found)) YT.c rfl) (pu_V some_found.1)) rfl h_items) (fun m hm=>?_)
                refine run_asg hm (YM.pp (YT.ix (YT.cast (YT.var rfl (deO (e:=e_J2VI) (fun _=>rfl) found)) (congrArg e_OJ2VI h_some_found)) YT.c rfl) rfl) (YG.name (i:=1) (d:=D.int some_found.2) rfl) (fun m hm=>?_)
                obtain⟨part1,h_part1,hr⟩:=bnd hr
                refine run_if hm (YB.bb (YM.op2 (YM.sl (YM.qb (YT.var rfl rfl)) (YO.some (YT.var rfl rfl)) (YO.some (YT.op2 (YT.var rfl rfl) YT.c rfl rfl)) (sl_S h_part1)) (YM.qb YT.c) (eq_fa Fa.str (by decide) part1 ((")":Str))))) (fun hc m hm=>?_) (fun hc m hm=>?_)
                · rw[if_pos hc] at hr
                  obtain⟨any,h_any,hr⟩:=bnd hr
                  obtain rfl:=Option.some.inj hr
                  exact run_rt hm (YM.lst (YA.v (YM.cast (YM.fz (YM.cb (YA.n rfl rfl YA.nil) (.nam rfl rfl Ct.nil) (tuple_L pu_V)) (fz_same rfl (pu_QV items))) (((show e_QV items=Dat.toD (Dat.tup (items.map fun z=>z.d)) from congrArg D.tup (tmap (e:=e_V) (f:=fun z=>z.d) (fun z=>rfl) items))).trans (mkV_eq h_any))) (YA.v (YM.opQ (YT.var rfl rfl) YT.c rfl) YA.nil)) rfl (by simp)) (fun m hm=>⟨⟨_,rfl⟩,⟨rfl,(Out.pin rfl rfl (Out.keep rfl rfl (Out.pin rfl rfl (Out.nil)))).eq hm.e,hm.h⟩⟩)
                · rw[if_neg (ne_t hc)] at hr
                  refine run_pass ?_
                  refine run_last ?_
                  obtain⟨part2,h_part2,hr⟩:=bnd hr
                  refine run_if hm (YB.bb (YM.op2 (YM.sl (YM.qb (YT.var rfl rfl)) (YO.some (YT.var rfl rfl)) (YO.some (YT.op2 (YT.var rfl rfl) YT.c rfl rfl)) (sl_S h_part2)) (YM.qb YT.c) (ne_fa Fa.str (by decide) part2 (" ":Str)))) (fun hc m hm=>?_) (fun hc m hm=>?_)
                  · rw[if_pos hc] at hr
                    obtain rfl:=Option.some.inj hr
                    exact run_rt hm (YM.pp YT.c rfl) (fun m hm=>⟨⟨_,rfl⟩,⟨rfl,(Out.pin rfl rfl (Out.keep rfl rfl (Out.pin rfl rfl (Out.nil)))).eq hm.e,hm.h⟩⟩)
                  · rw[if_neg (ne_t hc)] at hr
                    refine run_pass ?_
                    obtain rfl:=Option.some.inj hr
                    exact run_end ⟨.inl rfl,hm.wk (.keep (.keep (.keep (.keep (.drop (.drop Wk.nil))))))⟩
            · intro s1 he m hm
              subst he
              replace hr:=(show _=_ from hr)
              rw[rs_go] at hr
              refine run_last ?_
              obtain rfl:=Option.some.inj hr
              exact run_rt hm (YM.pp YT.c rfl) (fun m hm=>⟨rfl,(Out.pin rfl rfl (Out.keep rfl rfl (Out.pin rfl rfl (Out.nil)))).eq hm.e,hm.h⟩)
            · intro r1 he d m hq
              subst he
              obtain rfl:=Option.some.inj hr
              exact hq
theorem yf_law_item: ∀ (d:Nat) (line:Str) (atx:Int) (depth:Int) (h:List Ob) (r:(Option (V×Int))),tf_law_item d line atx depth=some r→mf_law_item d [D.str line,D.int atx,D.int depth] h=.ok (e_OJ2VI r,[D.str line,D.int atx,D.int depth],h)
  | 0=>fun line atx depth h r e=>by cases e
  | d+1=>yr_law_item (yf_law_item d)
theorem y_law_item(line:Str)(atx:Int)(depth:Int)(h:List Ob)(r:(Option (V×Int)))(hr:t_law_item line atx depth=some r): m_law_item [D.str line,D.int atx,D.int depth] h=.ok (e_OJ2VI r,[D.str line,D.int atx,D.int depth],h):=yf_law_item 50 line atx depth h r hr
noncomputable def t_law_parse_l1(line:Str)(s:Int)(sign:Str): Option Int :=
  (lenS line).bind fun len =>
  (if decide (s<len)=true then
  (atS line s).bind fun ch =>
  (inSO ch ("abcdefghijklmnopqrstuvwxyz":Str)).bind fun inx =>
  some inx
  else
  some false).bind fun both =>
  (if both=true then
    (some (s+(1:Int))).bind fun atx1 =>
    some atx1
  else
    some s).bind fun atx =>
  some atx
noncomputable def t_law_parse_l2(line:Str)(s1:(Int×(List V)))(k:Int): Option (Ex V (Int×(List V))) :=
  (lenS line).bind fun len2 =>
  if decide (s1.1=len2)=true then
    (mkV (Dat.tup (s1.2.map fun z=>z.d))).bind fun any =>
    some (.rt any)
  else
    (atS line s1.1).bind fun ch1 =>
    if (!decide (ch1=(" ":Str)))=true then
      some (.rt (⟨Dat.non,Nat.le_of_ble_eq_true rfl⟩:V))
    else
      (t_law_item line (s1.1+(1:Int)) (0:Int)).bind fun found =>
      if found.isNone=true then
        some (.rt (⟨Dat.non,Nat.le_of_ble_eq_true rfl⟩:V))
      else
        (found).bind fun some_found =>
        (appO s1.2 some_found.1).bind fun call1 =>
        some (.go (some_found.2,call1))
noncomputable def t_law_parse(line:Str): Option V :=
  (forS (t_law_parse_l1 line) (signsS line) (0:Int)).bind fun atx2 =>
  if ((decide (atx2<(1:Int)))||(decide ((12:Int)<atx2)))=true then
    some (⟨Dat.non,Nat.le_of_ble_eq_true rfl⟩:V)
  else
    (cutSO line none (some atx2)).bind fun part =>
    (some [part]).bind fun call =>
    (lenS line).bind fun len1 =>
    (gd ((-4611686018427387904≤len1∧len1<4611686018427387904)) (some (rangeI 0 len1))).bind fun rg =>
    (forE (t_law_parse_l2 line) rg (atx2,(call.map fun z=>(⟨Dat.str z,Nat.le_of_ble_eq_true rfl⟩:V)))).bind (Rs.elim (fun s2 =>
      (lenS line).bind fun len3 =>
      if decide (s2.1=len3)=true then
        (mkV (Dat.tup (s2.2.map fun z=>z.d))).bind fun any1 =>
        some any1
      else
        some (⟨Dat.non,Nat.le_of_ble_eq_true rfl⟩:V)) (fun r=>some r))
abbrev q_law_parse(line:Str)(h:List Ob): V→Fl→Mem→Prop:=fun r=>FP (e_V r) [0] [D.str line] [D.str line] h
theorem y_law_parse (line:Str) (h:List Ob) (r:V) (hr:t_law_parse line=some r):m_law_parse [D.str line] h=.ok (e_V r,[D.str line],h):=by
  unfold t_law_parse at hr
  unfold m_law_parse
  refine run_def rfl rfl (xcP (pu_V r)) (fun m hm=>?_)
  show Run _ m (q_law_parse line h r)
  refine run_asg hm (YM.pp YT.c rfl) (YG.name (i:=1) (d:=D.int (0:Int)) rfl) (fun m hm=>?_)
  obtain⟨atx2,h_atx2,hr⟩:=bnd hr
  refine run_for (p2:=[some (D.str line),some (D.int atx2),none,some D.und,some D.und,some D.und]) (h2:=h) hm (YI.t (YM.varP rfl rfl rfl)) (fun m hm=>run_forS (P:=fun(s:Int)=>[some (D.str line),some (D.int s),none,some D.und,some D.und,some D.und]) (H:=fun(s:Int)=>h) (enc:=D.str) (fun _ _ _=>trivial) ?_ (signsS line) (0:Int) atx2 h_atx2 m (hm.wk (.keep (.keep (.drop (.keep (.keep (.keep Wk.nil)))))))) (fun m hm=>?_)
  · intro s sign rr hr m hm
    unfold t_law_parse_l1 at hr
    refine st_tg (YG.name (i:=2) (d:=D.str sign) rfl) hm (fun m hm=>?_)
    refine run_last ?_
    obtain⟨len,h_len,hr⟩:=bnd hr
    obtain⟨both,h_both,hr⟩:=bnd hr
    obtain⟨atx,h_atx,hr⟩:=bnd hr
    refine run_ifj (p1:=[some (D.str line),some (D.int atx),some (D.str sign),some D.und,some D.und,some D.und]) (h1:=h) hm (YB.and (y:=both) (p':=[some (D.str line),some (D.int s),some (D.str sign),some D.und,some D.und,some D.und]) (h':=h) (YB.bb (YM.opQ (YT.var rfl rfl) (YT.cb (YL.cons (YT.var rfl rfl) YL.nil) (len_S h_len) rfl) rfl)) (fun hb=>by rw[if_pos hb] at h_both;obtain⟨ch,h_ch,h_both⟩:=bnd h_both;obtain⟨inx,h_inx,h_both⟩:=bnd h_both;obtain rfl:=Option.some.inj h_both;exact YB.bb (YM.opQ (YT.ix (YT.var rfl rfl) (YT.var rfl rfl) (ix_S h_ch)) YT.c (in_S h_inx))) (fun hb=>by rw[if_neg (ne_t hb)] at h_both;obtain rfl:=Option.some.inj h_both;exact⟨rfl,rfl,(.keep (.keep (.keep (.keep (.keep (.keep Wk.nil))))))⟩)) (fun hc m hm=>?_) (fun hc m hm=>?_) (fun m hm=>?_)
    · clear hr
      have hr:=h_atx
      clear h_atx
      rw[if_pos hc] at hr
      obtain⟨atx1,h_atx1,hr⟩:=bnd hr
      refine run_asg hm (YM.cast (YM.opQ (YT.var rfl rfl) YT.c rfl) (congrArg D.int (Option.some.inj h_atx1))) (YG.name (i:=1) (d:=D.int atx1) rfl) (fun m hm=>?_)
      obtain rfl:=Option.some.inj hr
      exact run_end ⟨rfl,hm.wk (.keep (.keep (.keep (.keep (.keep (.keep Wk.nil))))))⟩
    · clear hr
      have hr:=h_atx
      clear h_atx
      rw[if_neg (ne_t hc)] at hr
      refine run_pass ?_
      obtain rfl:=Option.some.inj hr
      exact run_end ⟨rfl,hm.wk (.keep (.keep (.keep (.keep (.keep (.keep Wk.nil))))))⟩
    obtain rfl:=Option.some.inj hr
    exact run_end ⟨.inl rfl,hm.wk (.keep (.keep (.drop (.keep (.keep (.keep Wk.nil))))))⟩
  refine run_if hm (YB.orT (YB.bb (YM.opQ (YT.var rfl rfl) YT.c rfl)) (YB.bb (YM.opQ (YT.var rfl rfl) YT.c rfl))) (fun hc m hm=>?_) (fun hc m hm=>?_)
  · rw[if_pos hc] at hr
    obtain rfl:=Option.some.inj hr
    exact run_rt hm (YM.pp YT.c rfl) (fun m hm=>⟨rfl,(Out.pin rfl rfl (Out.nil)).eq hm.e,hm.h⟩)
  · rw[if_neg (ne_t hc)] at hr
    refine run_pass ?_
    obtain⟨part,h_part,hr⟩:=bnd hr
    obtain⟨call,h_call,hr⟩:=bnd hr
    refine run_asg hm (YM.cast (YM.cast (YM.lst (YA.v (YM.sl (YM.qb (YT.var rfl rfl)) YO.none (YO.some (YT.var rfl rfl)) (sl_S h_part)) YA.nil) rfl (by simp)) (show _=e_MS [part] from by first | rfl | simp[e_V,Dat.toD,toDs])) (congrArg e_MS (Option.some.inj h_call))) (YG.name (i:=3) (d:=e_MS call) rfl) (fun m hm=>?_)
    obtain⟨len1,h_len1,hr⟩:=bnd hr
    obtain⟨rg,h_rg,hr⟩:=bnd hr
    obtain⟨ex,h_s2,hr⟩:=bnd hr
    refine run_forX (P:=fun(s1:(Int×(List V)))=>[some (D.str line),some (D.int s1.1),none,some (e_MV s1.2),none,none]) (H:=fun(s1:(Int×(List V)))=>h) (PR:=q_law_parse line h) (e:=ex) hm (YI.cast (YI.r1 (YA.qq (YL.cons (YT.cb (YL.cons (YT.var rfl rfl) YL.nil) (len_S h_len1) rfl) YL.nil)) (.bor Ct.nil) (gd_some h_rg).1) (congrArg (List.map D.int) (Option.some.inj (gd_some h_rg).2))) (fun m hm=>run_forE (enc:=D.int) (fun _ _ _=>trivial) ?_ rg (atx2,(call.map fun z=>(⟨Dat.str z,Nat.le_of_ble_eq_true rfl⟩:V))) ex h_s2 m (hm.wk (.keep (.keep (.drop (.cast (cmap_L (e:=D.str) (f:=e_V) (g:=fun z=>(⟨Dat.str z,Nat.le_of_ble_eq_true rfl⟩:V)) (fun z=>rfl) call) (.drop (.drop Wk.nil)))))))) ?_ ?_
    · intro s1 k rr hr m hm
      unfold t_law_parse_l2 at hr
      refine st_tg (YG.name (i:=4) (d:=D.int k) rfl) hm (fun m hm=>?_)
      obtain⟨len2,h_len2,hr⟩:=bnd hr
      refine run_if hm (YB.bb (YM.opQ (YT.var rfl rfl) (YT.cb (YL.cons (YT.var rfl rfl) YL.nil) (len_S h_len2) rfl) (eq_fa Fa.int (by decide) s1.1 len2))) (fun hc m hm=>?_) (fun hc m hm=>?_)
      · rw[if_pos hc] at hr
        obtain⟨any,h_any,hr⟩:=bnd hr
        obtain rfl:=Option.some.inj hr
        exact run_rt hm (YM.cast (YM.cb (YA.n rfl rfl YA.nil) (.nam rfl rfl Ct.nil) (tuple_L pu_V)) (((show e_QV s1.2=Dat.toD (Dat.tup (s1.2.map fun z=>z.d)) from congrArg D.tup (tmap (e:=e_V) (f:=fun z=>z.d) (fun z=>rfl) s1.2))).trans (mkV_eq h_any))) (fun m hm=>⟨⟨_,rfl⟩,⟨rfl,(Out.pin rfl rfl (Out.nil)).eq hm.e,hm.h⟩⟩)
      · rw[if_neg (ne_t hc)] at hr
        refine run_pass ?_
        obtain⟨ch1,h_ch1,hr⟩:=bnd hr
        refine run_if hm (YB.bb (YM.opQ (YT.ix (YT.var rfl rfl) (YT.var rfl rfl) (ix_S h_ch1)) YT.c (ne_fa Fa.str (by decide) ch1 (" ":Str)))) (fun hc m hm=>?_) (fun hc m hm=>?_)
        · rw[if_pos hc] at hr
          obtain rfl:=Option.some.inj hr
          exact run_rt hm (YM.pp YT.c rfl) (fun m hm=>⟨⟨_,rfl⟩,⟨rfl,(Out.pin rfl rfl (Out.nil)).eq hm.e,hm.h⟩⟩)
        · rw[if_neg (ne_t hc)] at hr
          refine run_pass ?_
          obtain⟨found,h_found,hr⟩:=bnd hr
          refine run_asg hm (YM.call (YA.n rfl rfl (YA.qq (YL.cons (YT.op2 (YT.var rfl rfl) YT.c rfl rfl) (YL.cons YT.c YL.nil)))) (.namP rfl rfl rfl (.bor rfl (.bor rfl Gr.nil))) (y_law_item line (s1.1+(1:Int)) (0:Int) _ found h_found) rfl) (YG.name (i:=5) (d:=e_OJ2VI found) rfl) (fun m hm=>?_)
          refine run_if hm (YB.bb (YM.opQ (YT.var rfl (deO (e:=e_J2VI) (fun _=>rfl) found)) YT.c (is_n (isn_O (by intro a;rfl))))) (fun hc m hm=>?_) (fun hc m hm=>?_)
          · rw[if_pos hc] at hr
            obtain rfl:=Option.some.inj hr
            exact run_rt hm (YM.pp YT.c rfl) (fun m hm=>⟨⟨_,rfl⟩,⟨rfl,(Out.pin rfl rfl (Out.nil)).eq hm.e,hm.h⟩⟩)
          · rw[if_neg (ne_t hc)] at hr
            refine run_pass ?_
            obtain⟨some_found,h_some_found,hr⟩:=bnd hr
            obtain⟨call1,h_call1,hr⟩:=bnd hr
            refine run_ex hm (YM.appL (e:=e_V) (xs:=s1.2) (a:=some_found.1) rfl rfl (YM.pp (YT.ix (YT.cast (YT.var rfl (deO (e:=e_J2VI) (fun _=>rfl) found)) (congrArg e_OJ2VI h_some_found)) YT.c rfl) (pu_V some_found.1)) rfl h_call1) (fun m hm=>?_)
            refine run_last ?_
            refine run_asg hm (YM.pp (YT.ix (YT.cast (YT.var rfl (deO (e:=e_J2VI) (fun _=>rfl) found)) (congrArg e_OJ2VI h_some_found)) YT.c rfl) rfl) (YG.name (i:=1) (d:=D.int some_found.2) rfl) (fun m hm=>?_)
            obtain rfl:=Option.some.inj hr
            exact run_end ⟨.inl rfl,hm.wk (.keep (.keep (.drop (.keep (.drop (.drop Wk.nil))))))⟩
    · intro s2 he m hm
      subst he
      replace hr:=(show _=_ from hr)
      rw[rs_go] at hr
      obtain⟨len3,h_len3,hr⟩:=bnd hr
      refine run_if hm (YB.bb (YM.opQ (YT.var rfl rfl) (YT.cb (YL.cons (YT.var rfl rfl) YL.nil) (len_S h_len3) rfl) (eq_fa Fa.int (by decide) s2.1 len3))) (fun hc m hm=>?_) (fun hc m hm=>?_)
      · rw[if_pos hc] at hr
        obtain⟨any1,h_any1,hr⟩:=bnd hr
        obtain rfl:=Option.some.inj hr
        exact run_rt hm (YM.cast (YM.cb (YA.n rfl rfl YA.nil) (.nam rfl rfl Ct.nil) (tuple_L pu_V)) (((show e_QV s2.2=Dat.toD (Dat.tup (s2.2.map fun z=>z.d)) from congrArg D.tup (tmap (e:=e_V) (f:=fun z=>z.d) (fun z=>rfl) s2.2))).trans (mkV_eq h_any1))) (fun m hm=>⟨rfl,(Out.pin rfl rfl (Out.nil)).eq hm.e,hm.h⟩)
      · rw[if_neg (ne_t hc)] at hr
        refine run_pass ?_
        refine run_last ?_
        obtain rfl:=Option.some.inj hr
        exact run_rt hm (YM.pp YT.c rfl) (fun m hm=>⟨rfl,(Out.pin rfl rfl (Out.nil)).eq hm.e,hm.h⟩)
    · intro r1 he d m hq
      subst he
      obtain rfl:=Option.some.inj hr
      exact hq
noncomputable def t_is_word_c1(sign1:Str): Option (Option Bool) :=
  (inSO sign1 ("abcdefghijklmnopqrstuvwxyz":Str)).bind fun inx1 =>
  some (some inx1)
noncomputable def t_is_word(text:Str): Option Bool :=
  (lenS text).bind fun len =>
  (if (decide ((1:Int)≤len)&&decide (len≤(12:Int)))=true then
  (lcOg t_is_word_c1 (signsS text)).bind fun lc =>
  some (lc.all id)
  else
  some false).bind fun both =>
  some both
abbrev q_is_word(text:Str)(h:List Ob): Bool→Fl→Mem→Prop:=fun r=>FP (D.bl r) [0] [D.str text] [D.str text] h
theorem y_is_word(text:Str)(h:List Ob)(r:Bool)(hr:t_is_word text=some r): m_is_word [D.str text] h=.ok (D.bl r,[D.str text],h):=by
  unfold t_is_word at hr
  unfold m_is_word
  refine run_def rfl rfl (xcP (rfl)) (fun m hm=>?_)
  show Run _ m (q_is_word text h r)
  refine run_last ?_
  obtain⟨len,h_len,hr⟩:=bnd hr
  obtain⟨both,h_both,hr⟩:=bnd hr
  obtain rfl:=Option.some.inj hr
  exact run_rt hm (YM.and (d:=D.bl both) (p':=[some (D.str text),some D.und]) (h':=h) (YM.pp (YT.chainT YT.c (YT.cb (YL.cons (YT.var rfl rfl) YL.nil) (len_S h_len) rfl) rfl YT.c rfl) rfl) (fun hb=>by 
      rw[if_pos hb] at h_both;obtain⟨lc,h_lc,h_both⟩:=bnd h_both;obtain rfl:=Option.some.inj h_both;exact YM.cb (YA.v (YM.lcO (enc:=D.str) (eb:=D.bl) (pL:=[some (D.str text),some D.und]) (YI.t (YM.varP rfl rfl rfl)) rfl rfl (fun _ _=>trivial) (fun sign1 r hr m hm=>by
    unfold t_is_word_c1 at hr
    refine lc_st (YG.name (i:=1) (d:=D.str sign1) rfl) (YB.yes) hm (fun m hm=>?_)
    obtain⟨inx1,h_inx1,hr⟩:=bnd hr
    obtain rfl:=Option.some.inj hr
    exact lc_el hm rfl (YM.pp (YT.op2 (YT.var rfl rfl) YT.c (in_S h_inx1) rfl) rfl) (.keep (.keep Wk.nil)) rfl) h_lc) YA.nil) (.val Ct.nil) all_L) (fun hb=>by rw[if_neg (ne_t hb)] at h_both;obtain rfl:=Option.some.inj h_both;exact⟨rfl,rfl,(.keep (.keep Wk.nil))⟩)) (fun m hm=>⟨rfl,(Out.pin rfl rfl (Out.nil)).eq hm.e,hm.h⟩)
noncomputable def t_end_of_text_l1(line:Str)(s:Int): Option (Ex (Xr Int) Int) :=
  (atS line s).bind fun ch =>
  if (!decide (ch=("\"":Str)))=true then
    (some (s+(1:Int))).bind fun here1 =>
    some (.go here1)
  else
    (cutSO line (some (s+(1:Int))) (some (s+(2:Int)))).bind fun part =>
    if decide (part=("\"":Str))=true then
      (some (s+(2:Int))).bind fun here2 =>
      some (.go here2)
    else
      some (.rt (Xr.ok (s+(1:Int))))
noncomputable def t_end_of_text_w2(line:Str)(s:Int): Option (Bool×Int) :=
  (lenS line).bind fun len =>
  some (decide (s<len),s)
noncomputable def t_end_of_text(line:Str)(atx:Int): Option (Xr Int) :=
  (some (atx+(1:Int))).bind fun here =>
  (whE (t_end_of_text_w2 line) (t_end_of_text_l1 line) fuel here).bind (Rs.elim (fun here3 =>
    some (Xr.ex 1 (0:Int))) (fun r=>some r))
abbrev q_end_of_text(line:Str)(atx:Int)(h:List Ob): (Xr Int)→Fl→Mem→Prop:=fun r=>FP (encX D.int r) [0,1] [D.str line,D.int atx] [D.str line,D.int atx] h
theorem y_end_of_text (line:Str) (atx:Int) (h:List Ob) (r:(Xr Int)) (hr:t_end_of_text line atx=some r):m_end_of_text [D.str line,D.int atx] h=.ok (encX D.int r,[D.str line,D.int atx],h):=by
  unfold t_end_of_text at hr
  unfold m_end_of_text
  refine run_defX rfl rfl (fun m hm=>?_)
  show Run _ m (q_end_of_text line atx h r)
  obtain⟨here,h_here,hr⟩:=bnd hr
  refine run_asg hm (YM.cast (YM.opQ (YT.var rfl rfl) YT.c rfl) (congrArg D.int (Option.some.inj h_here))) (YG.name (i:=2) (d:=D.int here) rfl) (fun m hm=>?_)
  obtain⟨ex,h_here3,hr⟩:=bnd hr
  refine run_whX (P:=fun(s:Int)=>[some (D.str line),some (D.int atx),some (D.int s)]) (H:=fun(s:Int)=>h) (PR:=q_end_of_text line atx h) (e:=ex) hm (fun m hm=>run_whE ?_ ?_ fuel here ex h_here3 m (hm.wk (.keep (.keep (.keep Wk.nil))))) ?_ ?_
  · intro s rr hr m hm
    unfold t_end_of_text_w2 at hr
    obtain⟨len,h_len,hr⟩:=bnd hr
    obtain rfl:=Option.some.inj hr
    exact st_ts (YB.bb (YM.opQ (YT.var rfl rfl) (YT.cb (YL.cons (YT.var rfl rfl) YL.nil) (len_S h_len) rfl) rfl)) hm (.keep (.keep (.keep Wk.nil)))
  · intro s rr hr m hm
    unfold t_end_of_text_l1 at hr
    refine run_last ?_
    obtain⟨ch,h_ch,hr⟩:=bnd hr
    refine run_if hm (YB.bb (YM.opQ (YT.ix (YT.var rfl rfl) (YT.var rfl rfl) (ix_S h_ch)) YT.c (ne_fa Fa.str (by decide) ch ("\"":Str)))) (fun hc m hm=>?_) (fun hc m hm=>?_)
    · rw[if_pos hc] at hr
      obtain⟨here1,h_here1,hr⟩:=bnd hr
      refine run_aug (d:=D.int here1) hm rfl rfl rfl (YM.pp YT.c rfl) (by rw[← Option.some.inj h_here1];exact rfl) rfl rfl (fun m hm=>?_)
      obtain rfl:=Option.some.inj hr
      exact run_end ⟨.inl rfl,hm.wk (.keep (.keep (.keep Wk.nil)))⟩
    · rw[if_neg (ne_t hc)] at hr
      obtain⟨part,h_part,hr⟩:=bnd hr
      refine run_if hm (YB.bb (YM.op2 (YM.sl (YM.qb (YT.var rfl rfl)) (YO.some (YT.op2 (YT.var rfl rfl) YT.c rfl rfl)) (YO.some (YT.op2 (YT.var rfl rfl) YT.c rfl rfl)) (sl_S h_part)) (YM.qb YT.c) (eq_fa Fa.str (by decide) part ("\"":Str)))) (fun hc m hm=>?_) (fun hc m hm=>?_)
      · rw[if_pos hc] at hr
        obtain⟨here2,h_here2,hr⟩:=bnd hr
        refine run_aug (d:=D.int here2) hm rfl rfl rfl (YM.pp YT.c rfl) (by rw[← Option.some.inj h_here2];exact rfl) rfl rfl (fun m hm=>?_)
        obtain rfl:=Option.some.inj hr
        exact run_end ⟨.inl rfl,hm.wk (.keep (.keep (.keep Wk.nil)))⟩
      · rw[if_neg (ne_t hc)] at hr
        obtain rfl:=Option.some.inj hr
        exact run_rt hm (YM.opQ (YT.var rfl rfl) YT.c rfl) (fun m hm=>⟨⟨_,rfl⟩,⟨rfl,(Out.pin rfl rfl (Out.pin rfl rfl (Out.nil))).eq hm.e,hm.h⟩⟩)
  · intro here3 he m hm
    subst he
    replace hr:=(show _=_ from hr)
    rw[rs_go] at hr
    refine run_last ?_
    obtain rfl:=Option.some.inj hr
    exact run_raise (⟨rfl,(Out.pin rfl rfl (Out.pin rfl rfl (Out.nil))).eq hm.e,hm.h⟩)
  · intro r1 he d m hq
    subst he
    obtain rfl:=Option.some.inj hr
    exact hq
noncomputable def t_sign_of(code:Int): Option (Option Str) :=
  if (decide ((32:Int)≤code)&&decide (code≤(36:Int)))=true then
    (atS (" !\"#$":Str) (code - (32:Int))).bind fun ch =>
    some (some ch)
  else
    if (decide ((38:Int)≤code)&&decide (code≤(126:Int)))=true then
      (atS ("&'()*+,-./0123456789:;<=>?@ABCDEFGHIJKLMNOPQRSTUVWXYZ[\\]^_`abcdefghijklmnopqrstuvwxyz{|}~":Str) (code - (38:Int))).bind fun ch1 =>
      some (some ch1)
    else
      some none
abbrev q_sign_of(code:Int)(h:List Ob): (Option Str)→Fl→Mem→Prop:=fun r=>FP (e_OS r) [0] [D.int code] [D.int code] h
theorem y_sign_of(code:Int)(h:List Ob)(r:(Option Str))(hr:t_sign_of code=some r): m_sign_of [D.int code] h=.ok (e_OS r,[D.int code],h):=by
  unfold t_sign_of at hr
  unfold m_sign_of
  refine run_def rfl rfl (xcP (pu_OS r)) (fun m hm=>?_)
  show Run _ m (q_sign_of code h r)
  refine run_if hm (YB.bb (YM.pp (YT.chainT YT.c (YT.var rfl rfl) rfl YT.c rfl) rfl)) (fun hc m hm=>?_) (fun hc m hm=>?_)
  · rw[if_pos hc] at hr
    obtain⟨ch,h_ch,hr⟩:=bnd hr
    obtain rfl:=Option.some.inj hr
    exact run_rt hm (YM.pp (YT.ix YT.c (YT.op2 (YT.var rfl rfl) YT.c rfl rfl) (ix_S h_ch)) rfl) (fun m hm=>⟨rfl,(Out.pin rfl rfl (Out.nil)).eq hm.e,hm.h⟩)
  · rw[if_neg (ne_t hc)] at hr
    refine run_pass ?_
    refine run_if hm (YB.bb (YM.pp (YT.chainT YT.c (YT.var rfl rfl) rfl YT.c rfl) rfl)) (fun hc m hm=>?_) (fun hc m hm=>?_)
    · rw[if_pos hc] at hr
      obtain⟨ch1,h_ch1,hr⟩:=bnd hr
      obtain rfl:=Option.some.inj hr
      exact run_rt hm (YM.pp (YT.ix YT.c (YT.op2 (YT.var rfl rfl) YT.c rfl rfl) (ix_S h_ch1)) rfl) (fun m hm=>⟨rfl,(Out.pin rfl rfl (Out.nil)).eq hm.e,hm.h⟩)
    · rw[if_neg (ne_t hc)] at hr
      refine run_pass ?_
      refine run_last ?_
      obtain rfl:=Option.some.inj hr
      exact run_rt hm (YM.pp YT.c rfl) (fun m hm=>⟨rfl,(Out.pin rfl rfl (Out.nil)).eq hm.e,hm.h⟩)
noncomputable def t_end_of_number_l1(s:Int): Option Int :=
  (some (s+(1:Int))).bind fun atx1 =>
  some atx1
noncomputable def t_end_of_number_w2(line:Str)(s:Int): Option (Bool×Int) :=
  (lenS line).bind fun len =>
  (if decide (s<len)=true then
  (atS line s).bind fun ch =>
  (inSO ch ("0123456789":Str)).bind fun inx =>
  some inx
  else
  some false).bind fun both =>
  some (both,s)
noncomputable def t_end_of_number(line:Str)(atx:Int): Option Int :=
  (whS (t_end_of_number_w2 line) t_end_of_number_l1 fuel atx).bind fun atx2 =>
  some atx2
abbrev q_end_of_number(line:Str)(atx:Int)(h:List Ob): Int→Fl→Mem→Prop:=fun r=>FP (D.int r) [0] [D.str line,D.int atx] [D.str line,D.int atx] h
theorem y_end_of_number(line:Str)(atx:Int)(h:List Ob)(r:Int)(hr:t_end_of_number line atx=some r): m_end_of_number [D.str line,D.int atx] h=.ok (D.int r,[D.str line,D.int atx],h):=by
  unfold t_end_of_number at hr
  unfold m_end_of_number
  refine run_def rfl rfl (xcP (rfl)) (fun m hm=>?_)
  show Run _ m (q_end_of_number line atx h r)
  obtain⟨atx2,h_atx2,hr⟩:=bnd hr
  refine run_wh (p2:=[some (D.str line),some (D.int atx2)]) (h2:=h) hm (fun m hm=>run_whS (P:=fun(s:Int)=>[some (D.str line),some (D.int s)]) (H:=fun(s:Int)=>h) (P2:=fun(s:Int)=>[some (D.str line),some (D.int s)]) (H2:=fun(s:Int)=>h) ?_ ?_ fuel atx atx2 h_atx2 m (hm.wk (.keep (.keep Wk.nil)))) (fun m hm=>?_)
  · intro s rr hr m hm
    unfold t_end_of_number_w2 at hr
    obtain⟨len,h_len,hr⟩:=bnd hr
    obtain⟨both,h_both,hr⟩:=bnd hr
    obtain rfl:=Option.some.inj hr
    exact st_ts (YB.and (y:=both) (p':=[some (D.str line),some (D.int s)]) (h':=h) (YB.bb (YM.opQ (YT.var rfl rfl) (YT.cb (YL.cons (YT.var rfl rfl) YL.nil) (len_S h_len) rfl) rfl)) (fun hb=>by rw[if_pos hb] at h_both;obtain⟨ch,h_ch,h_both⟩:=bnd h_both;obtain⟨inx,h_inx,h_both⟩:=bnd h_both;obtain rfl:=Option.some.inj h_both;exact YB.bb (YM.opQ (YT.ix (YT.var rfl rfl) (YT.var rfl rfl) (ix_S h_ch)) YT.c (in_S h_inx))) (fun hb=>by rw[if_neg (ne_t hb)] at h_both;obtain rfl:=Option.some.inj h_both;exact⟨rfl,rfl,(.keep (.keep Wk.nil))⟩)) hm (.keep (.keep Wk.nil))
  · intro s rr hr m hm
    unfold t_end_of_number_l1 at hr
    refine run_last ?_
    obtain⟨atx1,h_atx1,hr⟩:=bnd hr
    refine run_aug (d:=D.int atx1) hm rfl rfl rfl (YM.pp YT.c rfl) (by rw[← Option.some.inj h_atx1];exact rfl) rfl rfl (fun m hm=>?_)
    obtain rfl:=Option.some.inj hr
    exact run_end ⟨.inl rfl,hm.wk (.keep (.keep Wk.nil))⟩
  refine run_last ?_
  obtain rfl:=Option.some.inj hr
  exact run_rt hm (YM.varP rfl rfl rfl) (fun m hm=>⟨rfl,(Out.pin rfl rfl (Out.keep rfl rfl (Out.nil))).eq hm.e,hm.h⟩)
noncomputable def t_read_plain_c1(sign1:Str): Option (Option Bool) :=
  (ordO sign1).bind fun ord1 =>
  (t_sign_of ord1).bind fun o_of1 =>
  some (some (!o_of1.isNone))
noncomputable def t_read_plain(line:Str)(atx:Int): Option (Xr (V×Int)) :=
  (atS line atx).bind fun ch =>
  if decide (ch=("\"":Str))=true then
    (t_end_of_text line atx).bind fun o_text =>
    Xr.el (fun c=>fun l =>
      some (Xr.ex c l)) (fun v =>
      (cutSO line (some (atx+(1:Int))) (some (v - (1:Int)))).bind fun part =>
      (replO ("\"\"":Str) ("\"":Str) part).bind fun text =>
      (lcOg t_read_plain_c1 (signsS text)).bind fun lc =>
      if (!(lc.all id))=true then
        some (Xr.ex 1 (0:Int))
      else
        some (Xr.ok ((⟨Dat.str text,Nat.le_of_ble_eq_true rfl⟩:V),v))) o_text
  else
    (atS line atx).bind fun ch1 =>
    (if decide (ch1=("-":Str))=true then
      (some (atx+(1:Int))).bind fun startx1 =>
      some startx1
    else
      some atx).bind fun startx =>
    (t_end_of_number line startx).bind fun endx =>
    if decide (endx=startx)=true then
      if decide (startx=atx)=true then
        some (Xr.ex 1 (0:Int))
      else
        some (Xr.ok ((⟨Dat.non,Nat.le_of_ble_eq_true rfl⟩:V),endx))
    else
      (atS line startx).bind fun ch2 =>
      if (((decide (ch2=("0":Str)))&&(decide ((1:Int)<(endx - atx))))||(decide ((19:Int)<(endx - startx))))=true then
        some (Xr.ex 1 (0:Int))
      else
        (cutSO line (some atx) (some endx)).bind fun part1 =>
        (intSO part1).bind fun number =>
        if ((decide ((1000000000000000000:Int)<number))||(decide (number<(-1000000000000000000:Int))))=true then
          some (Xr.ex 1 (0:Int))
        else
          some (Xr.ok ((⟨Dat.int number,Nat.le_of_ble_eq_true rfl⟩:V),endx))
abbrev q_read_plain(line:Str)(atx:Int)(h:List Ob): (Xr (V×Int))→Fl→Mem→Prop:=fun r=>FP (encX e_T2VI r) [0,1] [D.str line,D.int atx] [D.str line,D.int atx] h
theorem y_read_plain (line:Str) (atx:Int) (h:List Ob) (r:(Xr (V×Int))) (hr:t_read_plain line atx=some r):m_read_plain [D.str line,D.int atx] h=.ok (encX e_T2VI r,[D.str line,D.int atx],h):=by
  unfold t_read_plain at hr
  unfold m_read_plain
  refine run_defX rfl rfl (fun m hm=>?_)
  show Run _ m (q_read_plain line atx h r)
  obtain⟨ch,h_ch,hr⟩:=bnd hr
  refine run_if hm (YB.bb (YM.opQ (YT.ix (YT.var rfl rfl) (YT.var rfl rfl) (ix_S h_ch)) YT.c (eq_fa Fa.str (by decide) ch ("\"":Str)))) (fun hc m hm=>?_) (fun hc m hm=>?_)
  · rw[if_pos hc] at hr
    refine run_assoc ?_
    obtain⟨o_text,h_o_text,hr⟩:=bnd hr
    cases hx_v:o_text with
    | ex c l =>
      replace hr:=xr_ex hx_v hr
      obtain rfl:=Option.some.inj hr
      exact run_asgXe hm (YM.xex (YM.call (YA.n rfl rfl (YA.n rfl rfl YA.nil)) (.namP rfl rfl rfl (.namP rfl rfl rfl Gr.nil)) (y_end_of_text line atx _ o_text h_o_text) rfl) hx_v) (fun m hm=>⟨rfl,(Out.pin rfl rfl (Out.pin rfl rfl (Out.nil))).eq hm.e,hm.h⟩)
    | ok v =>
      replace hr:=xr_ok hx_v hr
      refine run_asgX hm (YM.xok (YM.call (YA.n rfl rfl (YA.n rfl rfl YA.nil)) (.namP rfl rfl rfl (.namP rfl rfl rfl Gr.nil)) (y_end_of_text line atx _ o_text h_o_text) rfl) hx_v) (xcP (rfl)) (YG.name (i:=2) (d:=D.int v) rfl) (fun m hm=>?_)
      refine run_assoc ?_
      obtain⟨part,h_part,hr⟩:=bnd hr
      obtain⟨text,h_text,hr⟩:=bnd hr
      refine run_asg hm (YM.op1 (YM.sl (YM.qb (YT.var rfl rfl)) (YO.some (YT.op2 (YT.var rfl rfl) YT.c rfl rfl)) (YO.some (YT.op2 (YT.var rfl rfl) YT.c rfl rfl)) (sl_S h_part)) (rep_S h_text)) (YG.name (i:=3) (d:=D.str text) rfl) (fun m hm=>?_)
      refine run_assoc ?_
      obtain⟨lc,h_lc,hr⟩:=bnd hr
      refine run_if hm (YB.not (YB.v (YM.cb (YA.v (YM.lcO (enc:=D.str) (eb:=D.bl) (pL:=[some (D.str line),some (D.int atx),some (D.int v),some (D.str text),some D.und,some D.und,some D.und]) (YI.t (YM.varP rfl rfl rfl)) rfl rfl (fun _ _=>trivial) (fun sign1 r hr m hm=>by
    unfold t_read_plain_c1 at hr
    refine lc_st (YG.name (i:=4) (d:=D.str sign1) rfl) (YB.yes) hm (fun m hm=>?_)
    obtain⟨ord1,h_ord1,hr⟩:=bnd hr
    obtain⟨o_of1,h_o_of1,hr⟩:=bnd hr
    obtain rfl:=Option.some.inj hr
    exact lc_el hm rfl (YM.op2 (YM.call (YA.qq (YL.cons (YT.cb (YL.cons (YT.var rfl rfl) YL.nil) (ord_S h_ord1) rfl) YL.nil)) (.bor rfl Gr.nil) (y_sign_of ord1 _ o_of1 h_o_of1) rfl) (YM.qb YT.c) (isnot_n (isn_O (by intro a;rfl)))) (.keep (.keep (.keep (.keep (.keep (.keep (.keep Wk.nil))))))) rfl) h_lc) YA.nil) (.val Ct.nil) all_L) rfl)) (fun hc m hm=>?_) (fun hc m hm=>?_)
      · rw[if_pos hc] at hr
        obtain rfl:=Option.some.inj hr
        exact run_raise (⟨rfl,(Out.pin rfl rfl (Out.pin rfl rfl (Out.nil))).eq hm.e,hm.h⟩)
      · rw[if_neg (ne_t hc)] at hr
        refine run_pass ?_
        obtain rfl:=Option.some.inj hr
        exact run_rt hm (YM.tup (YA.v (YM.mv rfl rfl) (YA.v (YM.mv rfl rfl) YA.nil)) rfl (by simp)) (fun m hm=>⟨rfl,(Out.pin rfl rfl (Out.pin rfl rfl (Out.nil))).eq hm.e,hm.h⟩)
  · rw[if_neg (ne_t hc)] at hr
    refine run_pass ?_
    refine run_asg hm (YM.varP rfl rfl rfl) (YG.name (i:=5) (d:=D.int atx) rfl) (fun m hm=>?_)
    obtain⟨ch1,h_ch1,hr⟩:=bnd hr
    obtain⟨startx,h_startx,hr⟩:=bnd hr
    refine run_ifj (p1:=[some (D.str line),some (D.int atx),some D.und,some D.und,some D.und,some (D.int startx),some D.und]) (h1:=h) hm (YB.bb (YM.opQ (YT.ix (YT.var rfl rfl) (YT.var rfl rfl) (ix_S h_ch1)) YT.c (eq_fa Fa.str (by decide) ch1 ("-":Str)))) (fun hc m hm=>?_) (fun hc m hm=>?_) (fun m hm=>?_)
    · clear hr
      have hr:=h_startx
      clear h_startx
      rw[if_pos hc] at hr
      obtain⟨startx1,h_startx1,hr⟩:=bnd hr
      refine run_asg hm (YM.cast (YM.opQ (YT.var rfl rfl) YT.c rfl) (congrArg D.int (Option.some.inj h_startx1))) (YG.name (i:=5) (d:=D.int startx1) rfl) (fun m hm=>?_)
      obtain rfl:=Option.some.inj hr
      exact run_end ⟨rfl,hm.wk (.keep (.keep (.keep (.keep (.keep (.keep (.keep Wk.nil)))))))⟩
    · clear hr
      have hr:=h_startx
      clear h_startx
      rw[if_neg (ne_t hc)] at hr
      refine run_pass ?_
      obtain rfl:=Option.some.inj hr
      exact run_end ⟨rfl,hm.wk (.keep (.keep (.keep (.keep (.keep (.keep (.keep Wk.nil)))))))⟩
    obtain⟨endx,h_endx,hr⟩:=bnd hr
    refine run_asg hm (YM.call (YA.n rfl rfl (YA.v (YM.varP rfl rfl rfl) YA.nil)) (.namP rfl rfl rfl (.val Gr.nil)) (y_end_of_number line startx _ endx h_endx) rfl) (YG.name (i:=2) (d:=D.int endx) rfl) (fun m hm=>?_)
    refine run_if hm (YB.bb (YM.opQ (YT.var rfl rfl) (YT.var rfl rfl) (eq_fa Fa.int (by decide) endx startx))) (fun hc m hm=>?_) (fun hc m hm=>?_)
    · rw[if_pos hc] at hr
      refine run_assoc ?_
      refine run_if hm (YB.bb (YM.opQ (YT.var rfl rfl) (YT.var rfl rfl) (eq_fa Fa.int (by decide) startx atx))) (fun hc m hm=>?_) (fun hc m hm=>?_)
      · rw[if_pos hc] at hr
        obtain rfl:=Option.some.inj hr
        exact run_raise (⟨rfl,(Out.pin rfl rfl (Out.pin rfl rfl (Out.nil))).eq hm.e,hm.h⟩)
      · rw[if_neg (ne_t hc)] at hr
        refine run_pass ?_
        obtain rfl:=Option.some.inj hr
        exact run_rt hm (YM.tup (YA.v (YM.pp YT.c rfl) (YA.v (YM.mv rfl rfl) YA.nil)) rfl (by simp)) (fun m hm=>⟨rfl,(Out.pin rfl rfl (Out.pin rfl rfl (Out.nil))).eq hm.e,hm.h⟩)
    · rw[if_neg (ne_t hc)] at hr
      refine run_pass ?_
      obtain⟨ch2,h_ch2,hr⟩:=bnd hr
      refine run_if hm (YB.orT (YB.andT (YB.bb (YM.opQ (YT.ix (YT.var rfl rfl) (YT.var rfl rfl) (ix_S h_ch2)) YT.c (eq_fa Fa.str (by decide) ch2 ("0":Str)))) (YB.bb (YM.opQ (YT.op2 (YT.var rfl rfl) (YT.var rfl rfl) rfl rfl) YT.c rfl))) (YB.bb (YM.opQ (YT.op2 (YT.var rfl rfl) (YT.var rfl rfl) rfl rfl) YT.c rfl))) (fun hc m hm=>?_) (fun hc m hm=>?_)
      · rw[if_pos hc] at hr
        obtain rfl:=Option.some.inj hr
        exact run_raise (⟨rfl,(Out.pin rfl rfl (Out.pin rfl rfl (Out.nil))).eq hm.e,hm.h⟩)
      · rw[if_neg (ne_t hc)] at hr
        refine run_pass ?_
        obtain⟨part1,h_part1,hr⟩:=bnd hr
        obtain⟨number,h_number,hr⟩:=bnd hr
        refine run_asg hm (YM.cb (YA.v (YM.sl (YM.qb (YT.var rfl rfl)) (YO.some (YT.var rfl rfl)) (YO.some (YT.var rfl rfl)) (sl_S h_part1)) YA.nil) (.val Ct.nil) (int_S h_number)) (YG.name (i:=6) (d:=D.int number) rfl) (fun m hm=>?_)
        refine run_if hm (YB.orT (YB.bb (YM.opQ (YT.var rfl rfl) YT.c rfl)) (YB.bb (YM.opQ (YT.var rfl rfl) (YT.op1 YT.c rfl rfl) rfl))) (fun hc m hm=>?_) (fun hc m hm=>?_)
        · rw[if_pos hc] at hr
          obtain rfl:=Option.some.inj hr
          exact run_raise (⟨rfl,(Out.pin rfl rfl (Out.pin rfl rfl (Out.nil))).eq hm.e,hm.h⟩)
        · rw[if_neg (ne_t hc)] at hr
          refine run_pass ?_
          refine run_last ?_
          obtain rfl:=Option.some.inj hr
          exact run_rt hm (YM.tup (YA.v (YM.mv rfl rfl) (YA.v (YM.mv rfl rfl) YA.nil)) rfl (by simp)) (fun m hm=>⟨rfl,(Out.pin rfl rfl (Out.pin rfl rfl (Out.nil))).eq hm.e,hm.h⟩)
noncomputable def t_read_call_l1(s:Int): Option Int :=
  (some (s+(1:Int))).bind fun atx =>
  some atx
noncomputable def t_read_call_w2(line:Str)(s:Int): Option (Bool×Int) :=
  (lenS line).bind fun len =>
  (if decide (s<len)=true then
  (atS line s).bind fun ch =>
  (inSO ch ("abcdefghijklmnopqrstuvwxyz":Str)).bind fun inx =>
  some inx
  else
  some false).bind fun both =>
  some (both,s)
noncomputable def t_read_call_l3 (line:Str) (s1:(Int×(List Nat)×(List Ob))):Option (Ex ((Xr V)×(List Ob)) (Int×(List Nat)×(List Ob))) :=
  (atS line s1.1).bind fun ch1 =>
  if ((decide (ch1=(")":Str)))&&(decide ((1:Int)<(s1.2.1.length:Int))))=true then
    (popO s1.2.1).bind fun pop =>
    (atI pop.2 (-1:Int)).bind fun it =>
    (boxO e_MV s1.2.2 it).bind fun rows1 =>
    (boxO e_MV s1.2.2 pop.1).bind fun rows2 =>
    (mkV (Dat.tup (rows2.map fun z=>z.d))).bind fun any =>
    (appO rows1 any).bind fun app =>
    (some (s1.1+(1:Int))).bind fun atx2 =>
    some (.go (atx2,pop.2,(setB s1.2.2 it (e_MV app))))
  else
    (if decide ((s1.2.1.length:Int)=(1:Int))=true then
    some true
    else
    (atI s1.2.1 (-1:Int)).bind fun it1 =>
    (boxO e_MV s1.2.2 it1).bind fun rows3 =>
    some (!rows3.isEmpty)).bind fun either =>
    if either = true then
      (atS line s1.1).bind fun ch2 =>
      if (!decide (ch2=(" ":Str)))=true then
        some (.rt ((Xr.ex 1 (0:Int)),s1.2.2))
      else
        (some (s1.1+(1:Int))).bind fun atx3 =>
        (cutSO line (some atx3) (some (atx3+(1:Int)))).bind fun part2 =>
        if decide (part2=("(":Str))=true then
          if decide ((40:Int)<(s1.2.1.length:Int))=true then
            some (.rt ((Xr.ex 1 (0:Int)),s1.2.2))
          else
            (appO s1.2.1 s1.2.2.length).bind fun rows4 =>
            (some (atx3+(1:Int))).bind fun atx4 =>
            some (.go (atx4,rows4,(s1.2.2++[(⟨BOXC,[("",e_MV ([]:(List V)))]⟩:Ob)])))
        else
          (lenS line).bind fun len2 =>
          if decide (atx3<len2)=true then
            (t_read_plain line atx3).bind fun o_plain =>
            Xr.el (fun c=>fun l =>
              some (.rt ((Xr.ex c l),s1.2.2))) (fun v =>
              (atI s1.2.1 (-1:Int)).bind fun it2 =>
              (boxO e_MV s1.2.2 it2).bind fun rows5 =>
              (appO rows5 v.1).bind fun app1 =>
              some (.go (v.2,s1.2.1,(setB s1.2.2 it2 (e_MV app1))))) o_plain
          else
            some (.rt ((Xr.ex 1 (0:Int)),s1.2.2))
    else
      (cutSO line (some s1.1) (some (s1.1+(1:Int)))).bind fun part3 =>
      if decide (part3=("(":Str))=true then
        if decide ((40:Int)<(s1.2.1.length:Int))=true then
          some (.rt ((Xr.ex 1 (0:Int)),s1.2.2))
        else
          (appO s1.2.1 s1.2.2.length).bind fun rows6 =>
          (some (s1.1+(1:Int))).bind fun atx5 =>
          some (.go (atx5,rows6,(s1.2.2++[(⟨BOXC,[("",e_MV ([]:(List V)))]⟩:Ob)])))
      else
        (lenS line).bind fun len3 =>
        if decide (s1.1<len3)=true then
          (t_read_plain line s1.1).bind fun o_plain1 =>
          Xr.el (fun c1=>fun l1 =>
            some (.rt ((Xr.ex c1 l1),s1.2.2))) (fun v1 =>
            (atI s1.2.1 (-1:Int)).bind fun it3 =>
            (boxO e_MV s1.2.2 it3).bind fun rows7 =>
            (appO rows7 v1.1).bind fun app2 =>
            some (.go (v1.2,s1.2.1,(setB s1.2.2 it3 (e_MV app2))))) o_plain1
        else
          some (.rt ((Xr.ex 1 (0:Int)),s1.2.2))
noncomputable def t_read_call_w4(line:Str)(s1:(Int×(List Nat)×(List Ob))): Option (Bool×(Int×(List Nat)×(List Ob))) :=
  (lenS line).bind fun len1 =>
  some (decide (s1.1<len1),(s1.1,s1.2.1,s1.2.2))
noncomputable def t_read_call(line:Str)(h:List Ob): Option ((Xr V)×(List Ob)) :=
  (whS (t_read_call_w2 line) t_read_call_l1 fuel (0:Int)).bind fun atx1 =>
  (cutSO line none (some atx1)).bind fun part =>
  (t_is_word part).bind fun o_word =>
  if (!o_word)=true then
    some ((Xr.ex 1 (0:Int)),h)
  else
    (cutSO line none (some atx1)).bind fun part1 =>
    (some [h.length]).bind fun rows =>
    (whE (t_read_call_w4 line) (t_read_call_l3 line) fuel (atx1,rows,(h++[(⟨BOXC,[("",e_MV ([part1].map fun z=>(⟨Dat.str z,Nat.le_of_ble_eq_true rfl⟩:V)))]⟩:Ob)]))).bind (Rs.elim (fun s2 =>
      if decide ((1:Int)<(s2.2.1.length:Int))=true then
        some ((Xr.ex 1 (0:Int)),s2.2.2)
      else
        (atI s2.2.1 (0:Int)).bind fun it4 =>
        (boxO e_MV s2.2.2 it4).bind fun rows8 =>
        (mkV (Dat.tup (rows8.map fun z=>z.d))).bind fun any1 =>
        some ((Xr.ok any1),s2.2.2)) (fun r=>some r))
abbrev q_read_call(line:Str)(h:List Ob): ((Xr V)×(List Ob))→Fl→Mem→Prop:=fun r=>FP (encX e_V r.1) [0] [D.str line] [D.str line] r.2
theorem y_read_call (line:Str) (h:List Ob) (r:((Xr V)×(List Ob))) (hr:t_read_call line h=some r):m_read_call [D.str line] h=.ok (encX e_V r.1,[D.str line],r.2):=by
  unfold t_read_call at hr
  unfold m_read_call
  refine run_defX rfl rfl (fun m hm=>?_)
  show Run _ m (q_read_call line h r)
  refine run_asg hm (YM.pp YT.c rfl) (YG.name (i:=1) (d:=D.int (0:Int)) rfl) (fun m hm=>?_)
  obtain⟨atx1,h_atx1,hr⟩:=bnd hr
  refine run_wh (p2:=[some (D.str line),some (D.int atx1),some D.und,some D.und,some D.und]) (h2:=h) hm (fun m hm=>run_whS (P:=fun(s:Int)=>[some (D.str line),some (D.int s),some D.und,some D.und,some D.und]) (H:=fun(s:Int)=>h) (P2:=fun(s:Int)=>[some (D.str line),some (D.int s),some D.und,some D.und,some D.und]) (H2:=fun(s:Int)=>h) ?_ ?_ fuel (0:Int) atx1 h_atx1 m (hm.wk (.keep (.keep (.keep (.keep (.keep Wk.nil))))))) (fun m hm=>?_)
  · intro s rr hr m hm
    unfold t_read_call_w2 at hr
    obtain⟨len,h_len,hr⟩:=bnd hr
    obtain⟨both,h_both,hr⟩:=bnd hr
    obtain rfl:=Option.some.inj hr
    exact st_ts (YB.and (y:=both) (p':=[some (D.str line),some (D.int s),some D.und,some D.und,some D.und]) (h':=h) (YB.bb (YM.opQ (YT.var rfl rfl) (YT.cb (YL.cons (YT.var rfl rfl) YL.nil) (len_S h_len) rfl) rfl)) (fun hb=>by rw[if_pos hb] at h_both;obtain⟨ch,h_ch,h_both⟩:=bnd h_both;obtain⟨inx,h_inx,h_both⟩:=bnd h_both;obtain rfl:=Option.some.inj h_both;exact YB.bb (YM.opQ (YT.ix (YT.var rfl rfl) (YT.var rfl rfl) (ix_S h_ch)) YT.c (in_S h_inx))) (fun hb=>by rw[if_neg (ne_t hb)] at h_both;obtain rfl:=Option.some.inj h_both;exact⟨rfl,rfl,(.keep (.keep (.keep (.keep (.keep Wk.nil)))))⟩)) hm (.keep (.keep (.keep (.keep (.keep Wk.nil)))))
  · intro s rr hr m hm
    unfold t_read_call_l1 at hr
    refine run_last ?_
    obtain⟨atx,h_atx,hr⟩:=bnd hr
    refine run_aug (d:=D.int atx) hm rfl rfl rfl (YM.pp YT.c rfl) (by rw[← Option.some.inj h_atx];exact rfl) rfl rfl (fun m hm=>?_)
    obtain rfl:=Option.some.inj hr
    exact run_end ⟨.inl rfl,hm.wk (.keep (.keep (.keep (.keep (.keep Wk.nil)))))⟩
  obtain⟨part,h_part,hr⟩:=bnd hr
  obtain⟨o_word,h_o_word,hr⟩:=bnd hr
  refine run_if hm (YB.not (YB.v (YM.call (YA.v (YM.sl (YM.qb (YT.var rfl rfl)) YO.none (YO.some (YT.var rfl rfl)) (sl_S h_part)) YA.nil) (.val Gr.nil) (y_is_word part _ o_word h_o_word) rfl) rfl)) (fun hc m hm=>?_) (fun hc m hm=>?_)
  · rw[if_pos hc] at hr
    obtain rfl:=Option.some.inj hr
    exact run_raise (⟨rfl,(Out.pin rfl rfl (Out.nil)).eq hm.e,hm.h⟩)
  · rw[if_neg (ne_t hc)] at hr
    refine run_pass ?_
    obtain⟨part1,h_part1,hr⟩:=bnd hr
    obtain⟨rows,h_rows,hr⟩:=bnd hr
    refine run_asg hm (YM.cast (YM.cast (YM.lst (YA.v (YM.box (YM.cast (YM.cast (YM.lst (YA.v (YM.sl (YM.qb (YT.var rfl rfl)) YO.none (YO.some (YT.var rfl rfl)) (sl_S h_part1)) YA.nil) rfl (by simp)) (show _=e_MS [part1] from by first | rfl | simp[e_V,Dat.toD,toDs])) (cmap_L (e:=D.str) (f:=e_V) (g:=fun z=>(⟨Dat.str z,Nat.le_of_ble_eq_true rfl⟩:V)) (fun z=>rfl) [part1])) rfl) YA.nil) rfl (by simp)) (show _=e_MKrows [h.length] from by first | rfl | simp[e_V,Dat.toD,toDs])) (congrArg e_MKrows (Option.some.inj h_rows))) (YG.name (i:=2) (d:=e_MKrows rows) rfl) (fun m hm=>?_)
    obtain⟨ex,h_s2,hr⟩:=bnd hr
    refine run_whX (P:=fun(s1:(Int×(List Nat)×(List Ob)))=>[some (D.str line),some (D.int s1.1),some (e_MKrows s1.2.1),none,none]) (H:=fun(s1:(Int×(List Nat)×(List Ob)))=>s1.2.2) (PR:=q_read_call line h) (e:=ex) hm (fun m hm=>run_whE ?_ ?_ fuel (atx1,rows,(h++[(⟨BOXC,[("",e_MV ([part1].map fun z=>(⟨Dat.str z,Nat.le_of_ble_eq_true rfl⟩:V)))]⟩:Ob)])) ex h_s2 m (hm.wk (.keep (.keep (.keep (.drop (.drop Wk.nil))))))) ?_ ?_
    · intro s1 rr hr m hm
      unfold t_read_call_w4 at hr
      obtain⟨len1,h_len1,hr⟩:=bnd hr
      obtain rfl:=Option.some.inj hr
      exact st_ts (YB.bb (YM.opQ (YT.var rfl rfl) (YT.cb (YL.cons (YT.var rfl rfl) YL.nil) (len_S h_len1) rfl) rfl)) hm (.keep (.keep (.keep (.drop (.drop Wk.nil)))))
    · intro s1 rr hr m hm
      unfold t_read_call_l3 at hr
      obtain⟨ch1,h_ch1,hr⟩:=bnd hr
      refine run_if hm (YB.andT (YB.bb (YM.opQ (YT.ix (YT.var rfl rfl) (YT.var rfl rfl) (ix_S h_ch1)) YT.c (eq_fa Fa.str (by decide) ch1 ((")":Str))))) (YB.bb (YM.opQ (YT.cb (YL.cons (YT.var rfl rfl) YL.nil) len_L rfl) YT.c rfl))) (fun hc m hm=>?_) (fun hc m hm=>?_)
      · rw[if_pos hc] at hr
        refine run_assoc ?_
        obtain⟨pop,h_pop,hr⟩:=bnd hr
        refine run_asg hm (YM.op0 (pl:=(.nm 2)) (YP.nNm rfl rfl) (YGet.nm rfl) rfl (gpop_L (e:=D.loc) h_pop) YPut.nm) (YG.name (i:=3) (d:=D.loc pop.1) rfl) (fun m hm=>?_)
        refine run_assoc ?_
        obtain⟨it,h_it,hr⟩:=bnd hr
        obtain⟨rows1,h_rows1,hr⟩:=bnd hr
        obtain⟨rows2,h_rows2,hr⟩:=bnd hr
        obtain⟨any,h_any,hr⟩:=bnd hr
        obtain⟨app,h_app,hr⟩:=bnd hr
        refine run_ex hm (YM.opL (pl:=(.bx it)) (YP.qBx (YT.ix (YT.var rfl rfl) (YT.op1 YT.c rfl rfl) (ix_L h_it))) rfl (YGet.bx h_rows1) rfl (YA.v (YM.cast (YM.fz (YM.cb (YA.qq (YL.cons (YT.un (YT.var rfl rfl) h_rows2) YL.nil)) (.bor Ct.nil) (tuple_L pu_V)) (fz_same rfl (pu_QV rows2))) (((show e_QV rows2=Dat.toD (Dat.tup (rows2.map fun z=>z.d)) from congrArg D.tup (tmap (e:=e_V) (f:=fun z=>z.d) (fun z=>rfl) rows2))).trans (mkV_eq h_any))) YA.nil) rfl (YGet.bx h_rows1) rfl (gapp_L (e:=e_V) (xs:=rows1) (a:=any) h_app) YPut.bx) (fun m hm=>?_)
        refine run_assoc ?_
        obtain⟨atx2,h_atx2,hr⟩:=bnd hr
        refine run_aug (d:=D.int atx2) hm rfl rfl rfl (YM.pp YT.c rfl) (by rw[← Option.some.inj h_atx2];exact rfl) rfl rfl (fun m hm=>?_)
        obtain rfl:=Option.some.inj hr
        exact run_ct ⟨.inr rfl,hm.wk (.keep (.keep (.keep (.drop (.drop Wk.nil)))))⟩
      · rw[if_neg (ne_t hc)] at hr
        refine run_pass ?_
        obtain⟨either,h_either,hr⟩:=bnd hr
        refine run_if hm (YB.or (y:=either) (p':=[some (D.str line),some (D.int s1.1),some (e_MKrows s1.2.1),none,none]) (h':=s1.2.2) (YB.bb (YM.opQ (YT.cb (YL.cons (YT.var rfl rfl) YL.nil) len_L rfl) YT.c (eq_fa Fa.int (by decide) (s1.2.1.length:Int) (1:Int)))) (fun hb=>by rw[if_neg (ne_t hb)] at h_either;obtain⟨it1,h_it1,h_either⟩:=bnd h_either;obtain⟨rows3,h_rows3,h_either⟩:=bnd h_either;obtain rfl:=Option.some.inj h_either;exact YB.v (YM.qb (YT.un (YT.ix (YT.var rfl rfl) (YT.op1 YT.c rfl rfl) (ix_L h_it1)) h_rows3)) tru_L) (fun hb=>by rw[if_pos hb] at h_either;obtain rfl:=Option.some.inj h_either;exact⟨rfl,rfl,(.keep (.keep (.keep (.drop (.drop Wk.nil)))))⟩)) (fun hc m hm=>?_) (fun hc m hm=>?_)
        · rw[if_pos hc] at hr
          refine run_assoc ?_
          obtain⟨ch2,h_ch2,hr⟩:=bnd hr
          refine run_if hm (YB.bb (YM.opQ (YT.ix (YT.var rfl rfl) (YT.var rfl rfl) (ix_S h_ch2)) YT.c (ne_fa Fa.str (by decide) ch2 (" ":Str)))) (fun hc m hm=>?_) (fun hc m hm=>?_)
          · rw[if_pos hc] at hr
            obtain rfl:=Option.some.inj hr
            exact run_raise (⟨⟨_,rfl⟩,⟨rfl,(Out.pin rfl rfl (Out.nil)).eq hm.e,hm.h⟩⟩)
          · rw[if_neg (ne_t hc)] at hr
            refine run_pass ?_
            obtain⟨atx3,h_atx3,hr⟩:=bnd hr
            refine run_aug (d:=D.int atx3) hm rfl rfl rfl (YM.pp YT.c rfl) (by rw[← Option.some.inj h_atx3];exact rfl) rfl rfl (fun m hm=>?_)
            refine run_last ?_
            obtain⟨part2,h_part2,hr⟩:=bnd hr
            refine run_if hm (YB.bb (YM.op2 (YM.sl (YM.qb (YT.var rfl rfl)) (YO.some (YT.var rfl rfl)) (YO.some (YT.op2 (YT.var rfl rfl) YT.c rfl rfl)) (sl_S h_part2)) (YM.qb YT.c) (eq_fa Fa.str (by decide) part2 (("(":Str))))) (fun hc m hm=>?_) (fun hc m hm=>?_)
            · rw[if_pos hc] at hr
              refine run_assoc ?_
              refine run_if hm (YB.bb (YM.opQ (YT.cb (YL.cons (YT.var rfl rfl) YL.nil) len_L rfl) YT.c rfl)) (fun hc m hm=>?_) (fun hc m hm=>?_)
              · rw[if_pos hc] at hr
                obtain rfl:=Option.some.inj hr
                exact run_raise (⟨⟨_,rfl⟩,⟨rfl,(Out.pin rfl rfl (Out.nil)).eq hm.e,hm.h⟩⟩)
              · rw[if_neg (ne_t hc)] at hr
                refine run_pass ?_
                refine run_assoc ?_
                obtain⟨rows4,h_rows4,hr⟩:=bnd hr
                refine run_ex hm (YM.appL (e:=D.loc) (xs:=s1.2.1) (a:=s1.2.2.length) rfl rfl (YM.box (YM.lst YA.nil rfl (by decide)) rfl) rfl h_rows4) (fun m hm=>?_)
                obtain⟨atx4,h_atx4,hr⟩:=bnd hr
                refine run_aug (d:=D.int atx4) hm rfl rfl rfl (YM.pp YT.c rfl) (by rw[← Option.some.inj h_atx4];exact rfl) rfl rfl (fun m hm=>?_)
                obtain rfl:=Option.some.inj hr
                exact run_end ⟨.inl rfl,hm.wk (.keep (.keep (.keep (.drop (.drop Wk.nil)))))⟩
            · rw[if_neg (ne_t hc)] at hr
              obtain⟨len2,h_len2,hr⟩:=bnd hr
              refine run_if hm (YB.bb (YM.opQ (YT.var rfl rfl) (YT.cb (YL.cons (YT.var rfl rfl) YL.nil) (len_S h_len2) rfl) rfl)) (fun hc m hm=>?_) (fun hc m hm=>?_)
              · rw[if_pos hc] at hr
                refine run_assoc ?_
                obtain⟨o_plain,h_o_plain,hr⟩:=bnd hr
                cases hx_v:o_plain with
                | ex c l =>
                  replace hr:=xr_ex hx_v hr
                  obtain rfl:=Option.some.inj hr
                  exact run_asgXe hm (YM.xex (YM.call (YA.n rfl rfl (YA.n rfl rfl YA.nil)) (.namP rfl rfl rfl (.namP rfl rfl rfl Gr.nil)) (y_read_plain line atx3 _ o_plain h_o_plain) rfl) hx_v) (fun m hm=>⟨⟨_,rfl⟩,⟨rfl,(Out.pin rfl rfl (Out.nil)).eq hm.e,hm.h⟩⟩)
                | ok v =>
                  replace hr:=xr_ok hx_v hr
                  refine run_asgX hm (YM.xok (YM.call (YA.n rfl rfl (YA.n rfl rfl YA.nil)) (.namP rfl rfl rfl (.namP rfl rfl rfl Gr.nil)) (y_read_plain line atx3 _ o_plain h_o_plain) rfl) hx_v) (xcP (pu_T2VI v)) (YG.tlT rfl (YG.cons (YG.name (i:=4) (d:=e_V v.1) rfl) (YG.cons (YG.name (i:=1) (d:=D.int v.2) rfl) YG.nil))) (fun m hm=>?_)
                  obtain⟨it2,h_it2,hr⟩:=bnd hr
                  obtain⟨rows5,h_rows5,hr⟩:=bnd hr
                  obtain⟨app1,h_app1,hr⟩:=bnd hr
                  refine run_ex hm (YM.opL (pl:=(.bx it2)) (YP.qBx (YT.ix (YT.var rfl rfl) (YT.op1 YT.c rfl rfl) (ix_L h_it2))) rfl (YGet.bx h_rows5) rfl (YA.v (YM.varP rfl (deP (pu_V v.1)) (pu_V v.1)) YA.nil) rfl (YGet.bx h_rows5) rfl (gapp_L (e:=e_V) (xs:=rows5) (a:=v.1) h_app1) YPut.bx) (fun m hm=>?_)
                  obtain rfl:=Option.some.inj hr
                  exact run_end ⟨.inl rfl,hm.wk (.keep (.keep (.keep (.drop (.drop Wk.nil)))))⟩
              · rw[if_neg (ne_t hc)] at hr
                obtain rfl:=Option.some.inj hr
                exact run_raise (⟨⟨_,rfl⟩,⟨rfl,(Out.pin rfl rfl (Out.nil)).eq hm.e,hm.h⟩⟩)
        · rw[if_neg (ne_t hc)] at hr
          refine run_pass ?_
          refine run_last ?_
          obtain⟨part3,h_part3,hr⟩:=bnd hr
          refine run_if hm (YB.bb (YM.op2 (YM.sl (YM.qb (YT.var rfl rfl)) (YO.some (YT.var rfl rfl)) (YO.some (YT.op2 (YT.var rfl rfl) YT.c rfl rfl)) (sl_S h_part3)) (YM.qb YT.c) (eq_fa Fa.str (by decide) part3 (("(":Str))))) (fun hc m hm=>?_) (fun hc m hm=>?_)
          · rw[if_pos hc] at hr
            refine run_assoc ?_
            refine run_if hm (YB.bb (YM.opQ (YT.cb (YL.cons (YT.var rfl rfl) YL.nil) len_L rfl) YT.c rfl)) (fun hc m hm=>?_) (fun hc m hm=>?_)
            · rw[if_pos hc] at hr
              obtain rfl:=Option.some.inj hr
              exact run_raise (⟨⟨_,rfl⟩,⟨rfl,(Out.pin rfl rfl (Out.nil)).eq hm.e,hm.h⟩⟩)
            · rw[if_neg (ne_t hc)] at hr
              refine run_pass ?_
              refine run_assoc ?_
              obtain⟨rows6,h_rows6,hr⟩:=bnd hr
              refine run_ex hm (YM.appL (e:=D.loc) (xs:=s1.2.1) (a:=s1.2.2.length) rfl rfl (YM.box (YM.lst YA.nil rfl (by decide)) rfl) rfl h_rows6) (fun m hm=>?_)
              obtain⟨atx5,h_atx5,hr⟩:=bnd hr
              refine run_aug (d:=D.int atx5) hm rfl rfl rfl (YM.pp YT.c rfl) (by rw[← Option.some.inj h_atx5];exact rfl) rfl rfl (fun m hm=>?_)
              obtain rfl:=Option.some.inj hr
              exact run_end ⟨.inl rfl,hm.wk (.keep (.keep (.keep (.drop (.drop Wk.nil)))))⟩
          · rw[if_neg (ne_t hc)] at hr
            obtain⟨len3,h_len3,hr⟩:=bnd hr
            refine run_if hm (YB.bb (YM.opQ (YT.var rfl rfl) (YT.cb (YL.cons (YT.var rfl rfl) YL.nil) (len_S h_len3) rfl) rfl)) (fun hc m hm=>?_) (fun hc m hm=>?_)
            · rw[if_pos hc] at hr
              refine run_assoc ?_
              obtain⟨o_plain1,h_o_plain1,hr⟩:=bnd hr
              cases hx_v1:o_plain1 with
              | ex c1 l1 =>
                replace hr:=xr_ex hx_v1 hr
                obtain rfl:=Option.some.inj hr
                exact run_asgXe hm (YM.xex (YM.call (YA.n rfl rfl (YA.n rfl rfl YA.nil)) (.namP rfl rfl rfl (.namP rfl rfl rfl Gr.nil)) (y_read_plain line s1.1 _ o_plain1 h_o_plain1) rfl) hx_v1) (fun m hm=>⟨⟨_,rfl⟩,⟨rfl,(Out.pin rfl rfl (Out.nil)).eq hm.e,hm.h⟩⟩)
              | ok v1 =>
                replace hr:=xr_ok hx_v1 hr
                refine run_asgX hm (YM.xok (YM.call (YA.n rfl rfl (YA.n rfl rfl YA.nil)) (.namP rfl rfl rfl (.namP rfl rfl rfl Gr.nil)) (y_read_plain line s1.1 _ o_plain1 h_o_plain1) rfl) hx_v1) (xcP (pu_T2VI v1)) (YG.tlT rfl (YG.cons (YG.name (i:=4) (d:=e_V v1.1) rfl) (YG.cons (YG.name (i:=1) (d:=D.int v1.2) rfl) YG.nil))) (fun m hm=>?_)
                obtain⟨it3,h_it3,hr⟩:=bnd hr
                obtain⟨rows7,h_rows7,hr⟩:=bnd hr
                obtain⟨app2,h_app2,hr⟩:=bnd hr
                refine run_ex hm (YM.opL (pl:=(.bx it3)) (YP.qBx (YT.ix (YT.var rfl rfl) (YT.op1 YT.c rfl rfl) (ix_L h_it3))) rfl (YGet.bx h_rows7) rfl (YA.v (YM.varP rfl (deP (pu_V v1.1)) (pu_V v1.1)) YA.nil) rfl (YGet.bx h_rows7) rfl (gapp_L (e:=e_V) (xs:=rows7) (a:=v1.1) h_app2) YPut.bx) (fun m hm=>?_)
                obtain rfl:=Option.some.inj hr
                exact run_end ⟨.inl rfl,hm.wk (.keep (.keep (.keep (.drop (.drop Wk.nil)))))⟩
            · rw[if_neg (ne_t hc)] at hr
              obtain rfl:=Option.some.inj hr
              exact run_raise (⟨⟨_,rfl⟩,⟨rfl,(Out.pin rfl rfl (Out.nil)).eq hm.e,hm.h⟩⟩)
    · intro s2 he m hm
      subst he
      replace hr:=(show _=_ from hr)
      rw[rs_go] at hr
      refine run_if hm (YB.bb (YM.opQ (YT.cb (YL.cons (YT.var rfl rfl) YL.nil) len_L rfl) YT.c rfl)) (fun hc m hm=>?_) (fun hc m hm=>?_)
      · rw[if_pos hc] at hr
        obtain rfl:=Option.some.inj hr
        exact run_raise (⟨rfl,(Out.pin rfl rfl (Out.nil)).eq hm.e,hm.h⟩)
      · rw[if_neg (ne_t hc)] at hr
        refine run_pass ?_
        refine run_last ?_
        obtain⟨it4,h_it4,hr⟩:=bnd hr
        obtain⟨rows8,h_rows8,hr⟩:=bnd hr
        obtain⟨any1,h_any1,hr⟩:=bnd hr
        obtain rfl:=Option.some.inj hr
        exact run_rt hm (YM.cast (YM.cb (YA.qq (YL.cons (YT.un (YT.ix (YT.var rfl rfl) YT.c (ix_L h_it4)) h_rows8) YL.nil)) (.bor Ct.nil) (tuple_L pu_V)) (((show e_QV rows8=Dat.toD (Dat.tup (rows8.map fun z=>z.d)) from congrArg D.tup (tmap (e:=e_V) (f:=fun z=>z.d) (fun z=>rfl) rows8))).trans (mkV_eq h_any1))) (fun m hm=>⟨rfl,(Out.pin rfl rfl (Out.nil)).eq hm.e,hm.h⟩)
    · intro r1 he d m hq
      subst he
      obtain rfl:=Option.some.inj hr
      exact hq
noncomputable def t_law_told(line:Str)(h:List Ob): Option ((Str×V)×(List Ob)) :=
  (t_read_call line h).bind fun o_call =>
  Xr.el (fun c=>fun l =>
    gd (c=1∧l=0) (some ((("malformed":Str),(⟨Dat.non,Nat.le_of_ble_eq_true rfl⟩:V)),o_call.2))) (fun v =>
    some ((("call":Str),v),o_call.2)) o_call.1
abbrev q_law_told(line:Str)(h:List Ob): ((Str×V)×(List Ob))→Fl→Mem→Prop:=fun r=>FP (e_T2SV r.1) [0] [D.str line] [D.str line] r.2
theorem y_law_told(line:Str)(h:List Ob)(r:((Str×V)×(List Ob)))(hr:t_law_told line h=some r): m_law_told [D.str line] h=.ok (e_T2SV r.1,[D.str line],r.2):=by
  unfold t_law_told at hr
  unfold m_law_told
  refine run_def rfl rfl (xcP (pu_T2SV r.1)) (fun m hm=>?_)
  show Run _ m (q_law_told line h r)
  refine run_last ?_
  refine run_try ?_
  obtain⟨o_call,h_o_call,hr⟩:=bnd hr
  cases hx_v:o_call.1 with
  | ex c l =>
    replace hr:=xr_ex hx_v hr
    obtain⟨hcl,hr2⟩:=gd_some hr
    clear hr
    obtain⟨rfl,rfl⟩:=hcl
    obtain rfl:=Option.some.inj hr2
    exact run_rt hm (YM.tupXe (YA.vLe (YM.pp YT.c rfl) (YA.vXe (YM.xex (YM.call (YA.n rfl rfl YA.nil) (.namP rfl rfl rfl Gr.nil) (y_read_call line _ o_call h_o_call) rfl) hx_v)))) (fun m hm=>QT.ex hm rfl (fun m hm=>⟨rfl,(Out.pin rfl rfl (Out.nil)).eq hm.e,hm.h⟩))
  | ok v =>
    replace hr:=xr_ok hx_v hr
    obtain rfl:=Option.some.inj hr
    exact run_rt hm (YM.tupX (YA.vL (YM.pp YT.c rfl) (YA.vX (YM.xok (YM.call (YA.n rfl rfl YA.nil) (.namP rfl rfl rfl Gr.nil) (y_read_call line _ o_call h_o_call) rfl) hx_v) (xcP (pu_V v)) YA.nil) (xA1 (xcP (pu_V v)))) rfl rfl (by simp)) (fun m hm=>QT.ok (xcP (pu_T2SV (("call":Str),v))) ⟨rfl,(Out.pin rfl rfl (Out.nil)).eq hm.e,hm.h⟩)
noncomputable def t_law_alike_l1(tS:V→V→Option Bool)(actual:V)(due:V)(s:Unit)(k:Int): Option (Ex Bool Unit) :=
  (atV actual k).bind fun part =>
  (atV due k).bind fun part1 =>
  (tS part part1).bind fun o_alike =>
  if (!o_alike)=true then
    some (.rt false)
  else
    some (.go ())
noncomputable def tr_law_alike(tS:V→V→Option Bool)(actual:V)(due:V): Option Bool :=
  if due.isNone=true then
    some actual.isNone
  else
    if (V.sel due false true false false)=true then
      some ((V.sel actual false true false false)&&((!(V.sel actual false false false false))&&(decide (actual=due))))
    else
      if (V.sel due false false true false)=true then
        some ((V.sel actual false false true false)&&(decide (actual=due)))
      else
        (if (!(V.sel actual false false false true))=true then
        some true
        else
        (lenV actual).bind fun len =>
        (lenV due).bind fun len1 =>
        some (!decide (len=len1))).bind fun either =>
        if either=true then
          some false
        else
          (lenV due).bind fun len2 =>
          (gd ((-4611686018427387904≤len2∧len2<4611686018427387904)) (some (rangeI 0 len2))).bind fun rg =>
          (forE (t_law_alike_l1 tS actual due) rg ()).bind (Rs.elim (fun s1 =>
            some true) (fun r=>some r))
abbrev q_law_alike(actual:V)(due:V)(h:List Ob): Bool→Fl→Mem→Prop:=fun r=>FP (D.bl r) [0,1] [e_V actual,e_V due] [e_V actual,e_V due] h
noncomputable def tf_law_alike: Nat→V→V→Option Bool
  | 0=>fun _ _=>none
  | d+1=>tr_law_alike (tf_law_alike d)
noncomputable def t_law_alike(actual:V)(due:V): Option Bool:=tf_law_alike 50 actual due
theorem yr_law_alike {mS:CallM} {tS:V→V→Option Bool} (yS:∀ (actual:V) (due:V) (h:List Ob) (r:Bool),tS actual due=some r→mS [e_V actual,e_V due] h=.ok (D.bl r,[e_V actual,e_V due],h)) (actual:V) (due:V) (h:List Ob) (r:Bool) (hr:tr_law_alike tS actual due=some r):mr_law_alike mS [e_V actual,e_V due] h=.ok (D.bl r,[e_V actual,e_V due],h):=by
  unfold tr_law_alike at hr
  unfold mr_law_alike
  refine run_def rfl rfl (xcP (rfl)) (fun m hm=>?_)
  show Run _ m (q_law_alike actual due h r)
  refine run_if hm (YB.bb (YM.opQ (YT.var rfl (deP (pu_V due))) YT.c (is_n (isn_V _)))) (fun hc m hm=>?_) (fun hc m hm=>?_)
  · rw[if_pos hc] at hr
    obtain rfl:=Option.some.inj hr
    exact run_rt hm (YM.pp (YT.op2 (YT.var rfl (deP (pu_V actual))) YT.c (is_n (isn_V _)) rfl) rfl) (fun m hm=>⟨rfl,(Out.pin rfl (deP (pu_V actual)) (Out.pin rfl (deP (pu_V due)) (Out.nil))).eq hm.e,hm.h⟩)
  · rw[if_neg (ne_t hc)] at hr
    refine run_pass ?_
    refine run_if hm (YB.v (YM.qb (YT.cb (YL.cons (YT.var rfl (deP (pu_V due))) (YL.cons YT.c YL.nil)) (isi_V (isi_k (k:="NoneType") (n:="int") (b:=false) rfl (by decide +kernel)) (fun _=>(isi_k (k:="int") (n:="int") (b:=true) rfl (by decide +kernel))) (fun _=>(isi_k (k:="str") (n:="int") (b:=false) rfl (by decide +kernel))) (fun _=>(isi_k (k:="tuple") (n:="int") (b:=false) rfl (by decide +kernel)))) rfl)) rfl) (fun hc m hm=>?_) (fun hc m hm=>?_)
    · rw[if_pos hc] at hr
      obtain rfl:=Option.some.inj hr
      exact run_rt hm (YM.andT (YM.pp (YT.cb (YL.cons (YT.var rfl (deP (pu_V actual))) (YL.cons YT.c YL.nil)) (isi_V (isi_k (k:="NoneType") (n:="int") (b:=false) rfl (by decide +kernel)) (fun _=>(isi_k (k:="int") (n:="int") (b:=true) rfl (by decide +kernel))) (fun _=>(isi_k (k:="str") (n:="int") (b:=false) rfl (by decide +kernel))) (fun _=>(isi_k (k:="tuple") (n:="int") (b:=false) rfl (by decide +kernel)))) rfl) rfl) (YM.andT (YM.not (YM.pp (YT.cb (YL.cons (YT.var rfl (deP (pu_V actual))) (YL.cons YT.c YL.nil)) (isi_V (isi_k (k:="NoneType") (n:="bool") (b:=false) rfl (by decide +kernel)) (fun _=>(isi_k (k:="int") (n:="bool") (b:=false) rfl (by decide +kernel))) (fun _=>(isi_k (k:="str") (n:="bool") (b:=false) rfl (by decide +kernel))) (fun _=>(isi_k (k:="tuple") (n:="bool") (b:=false) rfl (by decide +kernel)))) rfl) rfl)) (YM.pp (YT.op2 (YT.var rfl (deP (pu_V actual))) (YT.var rfl (deP (pu_V due))) (eq_fa Fa.V (by decide) actual due) rfl) rfl))) (fun m hm=>⟨rfl,(Out.pin rfl (deP (pu_V actual)) (Out.pin rfl (deP (pu_V due)) (Out.nil))).eq hm.e,hm.h⟩)
    · rw[if_neg (ne_t hc)] at hr
      refine run_pass ?_
      refine run_if hm (YB.v (YM.qb (YT.cb (YL.cons (YT.var rfl (deP (pu_V due))) (YL.cons YT.c YL.nil)) (isi_V (isi_k (k:="NoneType") (n:="str") (b:=false) rfl (by decide +kernel)) (fun _=>(isi_k (k:="int") (n:="str") (b:=false) rfl (by decide +kernel))) (fun _=>(isi_k (k:="str") (n:="str") (b:=true) rfl (by decide +kernel))) (fun _=>(isi_k (k:="tuple") (n:="str") (b:=false) rfl (by decide +kernel)))) rfl)) rfl) (fun hc m hm=>?_) (fun hc m hm=>?_)
      · rw[if_pos hc] at hr
        obtain rfl:=Option.some.inj hr
        exact run_rt hm (YM.andT (YM.pp (YT.cb (YL.cons (YT.var rfl (deP (pu_V actual))) (YL.cons YT.c YL.nil)) (isi_V (isi_k (k:="NoneType") (n:="str") (b:=false) rfl (by decide +kernel)) (fun _=>(isi_k (k:="int") (n:="str") (b:=false) rfl (by decide +kernel))) (fun _=>(isi_k (k:="str") (n:="str") (b:=true) rfl (by decide +kernel))) (fun _=>(isi_k (k:="tuple") (n:="str") (b:=false) rfl (by decide +kernel)))) rfl) rfl) (YM.pp (YT.op2 (YT.var rfl (deP (pu_V actual))) (YT.var rfl (deP (pu_V due))) (eq_fa Fa.V (by decide) actual due) rfl) rfl)) (fun m hm=>⟨rfl,(Out.pin rfl (deP (pu_V actual)) (Out.pin rfl (deP (pu_V due)) (Out.nil))).eq hm.e,hm.h⟩)
      · rw[if_neg (ne_t hc)] at hr
        refine run_pass ?_
        obtain⟨either,h_either,hr⟩:=bnd hr
        refine run_if hm (YB.or (y:=either) (p':=[some (e_V actual),some (e_V due),some D.und]) (h':=h) (YB.not (YB.v (YM.qb (YT.cb (YL.cons (YT.var rfl (deP (pu_V actual))) (YL.cons YT.c YL.nil)) (isi_V (isi_k (k:="NoneType") (n:="tuple") (b:=false) rfl (by decide +kernel)) (fun _=>(isi_k (k:="int") (n:="tuple") (b:=false) rfl (by decide +kernel))) (fun _=>(isi_k (k:="str") (n:="tuple") (b:=false) rfl (by decide +kernel))) (fun _=>(isi_k (k:="tuple") (n:="tuple") (b:=true) rfl (by decide +kernel)))) rfl)) rfl)) (fun hb=>by rw[if_neg (ne_t hb)] at h_either;obtain⟨len,h_len,h_either⟩:=bnd h_either;obtain⟨len1,h_len1,h_either⟩:=bnd h_either;obtain rfl:=Option.some.inj h_either;exact YB.bb (YM.opQ (YT.cb (YL.cons (YT.var rfl (deP (pu_V actual))) YL.nil) (len_V h_len) rfl) (YT.cb (YL.cons (YT.var rfl (deP (pu_V due))) YL.nil) (len_V h_len1) rfl) (ne_fa Fa.int (by decide) len len1))) (fun hb=>by rw[if_pos hb] at h_either;obtain rfl:=Option.some.inj h_either;exact⟨rfl,rfl,(.keep (.keep (.keep Wk.nil)))⟩)) (fun hc m hm=>?_) (fun hc m hm=>?_)
        · rw[if_pos hc] at hr
          obtain rfl:=Option.some.inj hr
          exact run_rt hm (YM.pp YT.c rfl) (fun m hm=>⟨rfl,(Out.pin rfl (deP (pu_V actual)) (Out.pin rfl (deP (pu_V due)) (Out.nil))).eq hm.e,hm.h⟩)
        · rw[if_neg (ne_t hc)] at hr
          refine run_pass ?_
          obtain⟨len2,h_len2,hr⟩:=bnd hr
          obtain⟨rg,h_rg,hr⟩:=bnd hr
          obtain⟨ex,h_s1,hr⟩:=bnd hr
          refine run_forX (P:=fun(s:Unit)=>[some (e_V actual),some (e_V due),none]) (H:=fun(s:Unit)=>h) (PR:=q_law_alike actual due h) (e:=ex) hm (YI.cast (YI.r1 (YA.qq (YL.cons (YT.cb (YL.cons (YT.var rfl (deP (pu_V due))) YL.nil) (len_V h_len2) rfl) YL.nil)) (.bor Ct.nil) (gd_some h_rg).1) (congrArg (List.map D.int) (Option.some.inj (gd_some h_rg).2))) (fun m hm=>run_forE (enc:=D.int) (fun _ _ _=>trivial) ?_ rg () ex h_s1 m (hm.wk (.keep (.keep (.drop Wk.nil))))) ?_ ?_
          · intro s k rr hr m hm
            unfold t_law_alike_l1 at hr
            refine st_tg (YG.name (i:=2) (d:=D.int k) rfl) hm (fun m hm=>?_)
            refine run_last ?_
            obtain⟨part,h_part,hr⟩:=bnd hr
            obtain⟨part1,h_part1,hr⟩:=bnd hr
            obtain⟨o_alike,h_o_alike,hr⟩:=bnd hr
            refine run_if hm (YB.not (YB.v (YM.call (YA.qq (YL.cons (YT.ix (YT.var rfl (deP (pu_V actual))) (YT.var rfl rfl) (ix_V h_part)) (YL.cons (YT.ix (YT.var rfl (deP (pu_V due))) (YT.var rfl rfl) (ix_V h_part1)) YL.nil))) (.bor (pu_V part) (.bor (pu_V part1) Gr.nil)) (yS part part1 _ o_alike h_o_alike) rfl) rfl)) (fun hc m hm=>?_) (fun hc m hm=>?_)
            · rw[if_pos hc] at hr
              obtain rfl:=Option.some.inj hr
              exact run_rt hm (YM.pp YT.c rfl) (fun m hm=>⟨⟨_,rfl⟩,⟨rfl,(Out.pin rfl (deP (pu_V actual)) (Out.pin rfl (deP (pu_V due)) (Out.nil))).eq hm.e,hm.h⟩⟩)
            · rw[if_neg (ne_t hc)] at hr
              refine run_pass ?_
              obtain rfl:=Option.some.inj hr
              exact run_end ⟨.inl rfl,hm.wk (.keep (.keep (.drop Wk.nil)))⟩
          · intro s1 he m hm
            subst he
            replace hr:=(show _=_ from hr)
            rw[rs_go] at hr
            refine run_last ?_
            obtain rfl:=Option.some.inj hr
            exact run_rt hm (YM.pp YT.c rfl) (fun m hm=>⟨rfl,(Out.pin rfl (deP (pu_V actual)) (Out.pin rfl (deP (pu_V due)) (Out.nil))).eq hm.e,hm.h⟩)
          · intro r1 he d m hq
            subst he
            obtain rfl:=Option.some.inj hr
            exact hq
theorem yf_law_alike: ∀ (d:Nat) (actual:V) (due:V) (h:List Ob) (r:Bool),tf_law_alike d actual due=some r→mf_law_alike d [e_V actual,e_V due] h=.ok (D.bl r,[e_V actual,e_V due],h)
  | 0=>fun actual due h r e=>by cases e
  | d+1=>yr_law_alike (yf_law_alike d)
theorem y_law_alike(actual:V)(due:V)(h:List Ob)(r:Bool)(hr:t_law_alike actual due=some r): m_law_alike [e_V actual,e_V due] h=.ok (D.bl r,[e_V actual,e_V due],h):=yf_law_alike 50 actual due h r hr
noncomputable def t_law_spoilt (line:Str) (box:(List Int)):Option (Str×(List Int)) :=
  (t_law_take box (9:Int)).bind fun o_take =>
  (lenS line).bind fun len =>
  (t_law_take o_take.2 (len+(1:Int))).bind fun o_take1 =>
  (some (("()\"- 0159azZ_\n\t((":Str))).bind fun menu =>
  (lenS menu).bind fun len1 =>
  (t_law_take o_take1.2 len1).bind fun o_take2 =>
  (atS menu o_take2.1).bind fun ch =>
  (t_law_take o_take2.2 (94:Int)).bind fun o_take3 =>
  (t_law_sign o_take3.1).bind fun o_sign =>
  (t_law_take o_take3.2 (2:Int)).bind fun o_take4 =>
  (atI [ch,o_sign] o_take4.1).bind fun sign =>
  if decide (o_take.1=(0:Int))=true then
    (cutSO line none (some o_take1.1)).bind fun part =>
    some (part,o_take4.2)
  else
    if decide (o_take.1<(3:Int))=true then
      (cutSO line none (some o_take1.1)).bind fun part1 =>
      (catSO part1 sign).bind fun cat =>
      (cutSO line (some o_take1.1) none).bind fun part2 =>
      (catSO cat part2).bind fun cat1 =>
      some (cat1,o_take4.2)
    else
      if decide (o_take.1<(5:Int))=true then
        (cutSO line none (some o_take1.1)).bind fun part3 =>
        (catSO part3 sign).bind fun cat2 =>
        (cutSO line (some (o_take1.1+(1:Int))) none).bind fun part4 =>
        (catSO cat2 part4).bind fun cat3 =>
        some (cat3,o_take4.2)
      else
        if decide (o_take.1=(5:Int))=true then
          (cutSO line none (some o_take1.1)).bind fun part5 =>
          (cutSO line (some (o_take1.1+(1:Int))) none).bind fun part6 =>
          (catSO part5 part6).bind fun cat4 =>
          some (cat4,o_take4.2)
        else
          if decide (o_take.1=(6:Int))=true then
            (atI ([(" ":Str),("  1":Str),(" )":Str),(" 01":Str),(" -0":Str),(" (1 )":Str),(" ( 1)":Str),(" (1  2)":Str),(" 1(":Str),(" \"a\"1":Str)]) (o_take1.1 % (10:Int))).bind fun it1 =>
            (catSO line it1).bind fun cat5 =>
            some (cat5,o_take4.2)
          else
            if decide (o_take.1=(7:Int))=true then
              (catSO line (" ":Str)).bind fun cat6 =>
              (atI [("":Str),("-":Str)] (o_take1.1 % (2:Int))).bind fun it2 =>
              (catSO cat6 it2).bind fun cat7 =>
              (t_law_take o_take4.2 (3:Int)).bind fun o_take5 =>
              (strIO (((1000000000000000000:Int)+o_take5.1) - (1:Int))).bind fun txt =>
              (catSO cat7 txt).bind fun cat8 =>
              (t_law_take o_take5.2 (3:Int)).bind fun o_take6 =>
              (repO ("0":Str) (o_take6.1 / (2:Int))).bind fun rep =>
              (catSO cat8 rep).bind fun cat9 =>
              some (cat9,o_take6.2)
            else
              (atI [("abcdefghijklm":Str),("abcdefghijkl":Str),("":Str),(" 1":Str),("A":Str),("tick 1":Str),("-":Str)] (o_take1.1 % (7:Int))).bind fun it3 =>
              some (it3,o_take4.2)
abbrev q_law_spoilt(line:Str)(box:(List Int))(h:List Ob): (Str×(List Int))→Fl→Mem→Prop:=fun r=>FP (D.str r.1) [0,1] [D.str line,e_MI box] [D.str line,e_MI r.2] h
theorem y_law_spoilt (line:Str) (box:(List Int)) (h:List Ob) (r:(Str×(List Int))) (hr:t_law_spoilt line box=some r):m_law_spoilt [D.str line,e_MI box] h=.ok (D.str r.1,[D.str line,e_MI r.2],h):=by
  unfold t_law_spoilt at hr
  unfold m_law_spoilt
  refine run_def rfl rfl (xcP (rfl)) (fun m hm=>?_)
  show Run _ m (q_law_spoilt line box h r)
  obtain⟨o_take,h_o_take,hr⟩:=bnd hr
  refine run_asg hm (YM.call (YA.n rfl rfl (YA.qq (YL.cons YT.c YL.nil))) (.namM rfl rfl (np_MI box) (.bor rfl Gr.nil)) (y_law_take box (9:Int) _ o_take h_o_take) rfl) (YG.name (i:=2) (d:=D.int o_take.1) rfl) (fun m hm=>?_)
  replace hm:Sx [some (D.str line),some (e_MI o_take.2),some (D.int o_take.1),some D.und,some D.und,some D.und] h m:=hm
  obtain⟨len,h_len,hr⟩:=bnd hr
  obtain⟨o_take1,h_o_take1,hr⟩:=bnd hr
  refine run_asg hm (YM.call (YA.n rfl rfl (YA.qq (YL.cons (YT.op2 (YT.cb (YL.cons (YT.var rfl rfl) YL.nil) (len_S h_len) rfl) YT.c rfl rfl) YL.nil))) (.namM rfl rfl (np_MI o_take.2) (.bor rfl Gr.nil)) (y_law_take o_take.2 (len+(1:Int)) _ o_take1 h_o_take1) rfl) (YG.name (i:=3) (d:=D.int o_take1.1) rfl) (fun m hm=>?_)
  replace hm:Sx [some (D.str line),some (e_MI o_take1.2),some (D.int o_take.1),some (D.int o_take1.1),some D.und,some D.und] h m:=hm
  obtain⟨menu,h_menu,hr⟩:=bnd hr
  refine run_asg hm (YM.cast (YM.pp YT.c rfl) (congrArg D.str (Option.some.inj h_menu))) (YG.name (i:=4) (d:=D.str menu) rfl) (fun m hm=>?_)
  obtain⟨len1,h_len1,hr⟩:=bnd hr
  obtain⟨o_take2,h_o_take2,hr⟩:=bnd hr
  obtain⟨ch,h_ch,hr⟩:=bnd hr
  obtain⟨o_take3,h_o_take3,hr⟩:=bnd hr
  obtain⟨o_sign,h_o_sign,hr⟩:=bnd hr
  obtain⟨o_take4,h_o_take4,hr⟩:=bnd hr
  obtain⟨sign,h_sign,hr⟩:=bnd hr
  refine run_asg hm (YM.ix (YM.cast (YM.lst (YA.v (YM.ixN rfl rfl (YM.call (YA.n rfl rfl (YA.qq (YL.cons (YT.cb (YL.cons (YT.var rfl rfl) YL.nil) (len_S h_len1) rfl) YL.nil))) (.namM rfl rfl (np_MI o_take1.2) (.bor rfl Gr.nil)) (y_law_take o_take1.2 len1 _ o_take2 h_o_take2) rfl) rfl rfl (ix_S h_ch) rfl) (YA.v (YM.fz (YM.call (YA.v (YM.call (YA.n rfl rfl (YA.qq (YL.cons YT.c YL.nil))) (.namM rfl rfl (np_MI o_take2.2) (.bor rfl Gr.nil)) (y_law_take o_take2.2 (94:Int) _ o_take3 h_o_take3) rfl) YA.nil) (.val Gr.nil) (y_law_sign o_take3.1 _ o_sign h_o_sign) rfl) (fz_same rfl rfl)) YA.nil)) rfl (by simp)) (show _=e_MS [ch,o_sign] from by first | rfl | simp[e_V,Dat.toD,toDs])) (YM.call (YA.n rfl rfl (YA.qq (YL.cons YT.c YL.nil))) (.namM rfl rfl (np_MI o_take3.2) (.bor rfl Gr.nil)) (y_law_take o_take3.2 (2:Int) _ o_take4 h_o_take4) rfl) (ix_L h_sign) rfl) (YG.name (i:=5) (d:=D.str sign) rfl) (fun m hm=>?_)
  replace hm:Sx [some (D.str line),some (e_MI o_take4.2),some (D.int o_take.1),some (D.int o_take1.1),some (D.str menu),some (D.str sign)] h m:=hm
  refine run_if hm (YB.bb (YM.opQ (YT.var rfl rfl) YT.c (eq_fa Fa.int (by decide) o_take.1 (0:Int)))) (fun hc m hm=>?_) (fun hc m hm=>?_)
  · rw[if_pos hc] at hr
    obtain⟨part,h_part,hr⟩:=bnd hr
    obtain rfl:=Option.some.inj hr
    exact run_rt hm (YM.sl (YM.qb (YT.var rfl rfl)) YO.none (YO.some (YT.var rfl rfl)) (sl_S h_part)) (fun m hm=>⟨rfl,(Out.pin rfl rfl (Out.pin rfl rfl (Out.nil))).eq hm.e,hm.h⟩)
  · rw[if_neg (ne_t hc)] at hr
    refine run_pass ?_
    refine run_if hm (YB.bb (YM.opQ (YT.var rfl rfl) YT.c rfl)) (fun hc m hm=>?_) (fun hc m hm=>?_)
    · rw[if_pos hc] at hr
      obtain⟨part1,h_part1,hr⟩:=bnd hr
      obtain⟨cat,h_cat,hr⟩:=bnd hr
      obtain⟨part2,h_part2,hr⟩:=bnd hr
      obtain⟨cat1,h_cat1,hr⟩:=bnd hr
      obtain rfl:=Option.some.inj hr
      exact run_rt hm (YM.op2 (YM.op2 (YM.sl (YM.qb (YT.var rfl rfl)) YO.none (YO.some (YT.var rfl rfl)) (sl_S h_part1)) (YM.qb (YT.var rfl rfl)) (cat_S h_cat)) (YM.sl (YM.qb (YT.var rfl rfl)) (YO.some (YT.var rfl rfl)) YO.none (sl_S h_part2)) (cat_S h_cat1)) (fun m hm=>⟨rfl,(Out.pin rfl rfl (Out.pin rfl rfl (Out.nil))).eq hm.e,hm.h⟩)
    · rw[if_neg (ne_t hc)] at hr
      refine run_pass ?_
      refine run_if hm (YB.bb (YM.opQ (YT.var rfl rfl) YT.c rfl)) (fun hc m hm=>?_) (fun hc m hm=>?_)
      · rw[if_pos hc] at hr
        obtain⟨part3,h_part3,hr⟩:=bnd hr
        obtain⟨cat2,h_cat2,hr⟩:=bnd hr
        obtain⟨part4,h_part4,hr⟩:=bnd hr
        obtain⟨cat3,h_cat3,hr⟩:=bnd hr
        obtain rfl:=Option.some.inj hr
        exact run_rt hm (YM.op2 (YM.op2 (YM.sl (YM.qb (YT.var rfl rfl)) YO.none (YO.some (YT.var rfl rfl)) (sl_S h_part3)) (YM.qb (YT.var rfl rfl)) (cat_S h_cat2)) (YM.sl (YM.qb (YT.var rfl rfl)) (YO.some (YT.op2 (YT.var rfl rfl) YT.c rfl rfl)) YO.none (sl_S h_part4)) (cat_S h_cat3)) (fun m hm=>⟨rfl,(Out.pin rfl rfl (Out.pin rfl rfl (Out.nil))).eq hm.e,hm.h⟩)
      · rw[if_neg (ne_t hc)] at hr
        refine run_pass ?_
        refine run_if hm (YB.bb (YM.opQ (YT.var rfl rfl) YT.c (eq_fa Fa.int (by decide) o_take.1 (5:Int)))) (fun hc m hm=>?_) (fun hc m hm=>?_)
        · rw[if_pos hc] at hr
          obtain⟨part5,h_part5,hr⟩:=bnd hr
          obtain⟨part6,h_part6,hr⟩:=bnd hr
          obtain⟨cat4,h_cat4,hr⟩:=bnd hr
          obtain rfl:=Option.some.inj hr
          exact run_rt hm (YM.op2 (YM.sl (YM.qb (YT.var rfl rfl)) YO.none (YO.some (YT.var rfl rfl)) (sl_S h_part5)) (YM.sl (YM.qb (YT.var rfl rfl)) (YO.some (YT.op2 (YT.var rfl rfl) YT.c rfl rfl)) YO.none (sl_S h_part6)) (cat_S h_cat4)) (fun m hm=>⟨rfl,(Out.pin rfl rfl (Out.pin rfl rfl (Out.nil))).eq hm.e,hm.h⟩)
        · rw[if_neg (ne_t hc)] at hr
          refine run_pass ?_
          refine run_if hm (YB.bb (YM.opQ (YT.var rfl rfl) YT.c (eq_fa Fa.int (by decide) o_take.1 (6:Int)))) (fun hc m hm=>?_) (fun hc m hm=>?_)
          · rw[if_pos hc] at hr
            obtain⟨it1,h_it1,hr⟩:=bnd hr
            obtain⟨cat5,h_cat5,hr⟩:=bnd hr
            obtain rfl:=Option.some.inj hr
            exact run_rt hm (YM.opN rfl rfl (YM.ix (YM.cast (YM.lst (YA.v (YM.pp YT.c rfl) (YA.v (YM.pp YT.c rfl) (YA.v (YM.pp YT.c rfl) (YA.v (YM.pp YT.c rfl) (YA.v (YM.pp YT.c rfl) (YA.v (YM.pp YT.c rfl) (YA.v (YM.pp YT.c rfl) (YA.v (YM.pp YT.c rfl) (YA.v (YM.pp YT.c rfl) (YA.v (YM.pp YT.c rfl) YA.nil)))))))))) rfl (by simp)) (show _=e_MS ([(" ":Str),("  1":Str),(" )":Str),(" 01":Str),(" -0":Str),(" (1 )":Str),(" ( 1)":Str),(" (1  2)":Str),(" 1(":Str),(" \"a\"1":Str)]) from by first | rfl | simp[e_V,Dat.toD,toDs])) (YM.qb (YT.op2 (YT.var rfl rfl) YT.c (mod_k (by decide)) rfl)) (ix_L h_it1) rfl) rfl rfl (cat_S h_cat5)) (fun m hm=>⟨rfl,(Out.pin rfl rfl (Out.pin rfl rfl (Out.nil))).eq hm.e,hm.h⟩)
          · rw[if_neg (ne_t hc)] at hr
            refine run_pass ?_
            refine run_if hm (YB.bb (YM.opQ (YT.var rfl rfl) YT.c (eq_fa Fa.int (by decide) o_take.1 (7:Int)))) (fun hc m hm=>?_) (fun hc m hm=>?_)
            · rw[if_pos hc] at hr
              obtain⟨cat6,h_cat6,hr⟩:=bnd hr
              obtain⟨it2,h_it2,hr⟩:=bnd hr
              obtain⟨cat7,h_cat7,hr⟩:=bnd hr
              obtain⟨o_take5,h_o_take5,hr⟩:=bnd hr
              obtain⟨txt,h_txt,hr⟩:=bnd hr
              obtain⟨cat8,h_cat8,hr⟩:=bnd hr
              obtain⟨o_take6,h_o_take6,hr⟩:=bnd hr
              obtain⟨rep,h_rep,hr⟩:=bnd hr
              obtain⟨cat9,h_cat9,hr⟩:=bnd hr
              obtain rfl:=Option.some.inj hr
              exact run_rt hm (YM.op2 (YM.op2 (YM.op2 (YM.opQ (YT.var rfl rfl) YT.c (cat_S h_cat6)) (YM.ix (YM.cast (YM.lst (YA.v (YM.pp YT.c rfl) (YA.v (YM.pp YT.c rfl) YA.nil)) rfl (by simp)) (show _=e_MS [("":Str),("-":Str)] from by first | rfl | simp[e_V,Dat.toD,toDs])) (YM.qb (YT.op2 (YT.var rfl rfl) YT.c (mod_k (by decide)) rfl)) (ix_L h_it2) rfl) (cat_S h_cat7)) (YM.cb (YA.v (YM.op2 (YM.op2 (YM.opQ YT.c YT.c (pow_k (j:=18) 1000000000000000000 (by decide) (by decide))) (YM.call (YA.n rfl rfl (YA.qq (YL.cons YT.c YL.nil))) (.namM rfl rfl (np_MI o_take4.2) (.bor rfl Gr.nil)) (y_law_take o_take4.2 (3:Int) _ o_take5 h_o_take5) rfl) rfl) (YM.qb YT.c) rfl) YA.nil) (.val Ct.nil) (str_I h_txt)) (cat_S h_cat8)) (YM.op2 (YM.pp YT.c rfl) (YM.op2 (YM.call (YA.n rfl rfl (YA.qq (YL.cons YT.c YL.nil))) (.namM rfl rfl (np_MI o_take5.2) (.bor rfl Gr.nil)) (y_law_take o_take5.2 (3:Int) _ o_take6 h_o_take6) rfl) (YM.qb YT.c) (fdiv_k (by decide))) (mulS_O h_rep)) (cat_S h_cat9)) (fun m hm=>⟨rfl,(Out.pin rfl rfl (Out.pin rfl rfl (Out.nil))).eq hm.e,hm.h⟩)
            · rw[if_neg (ne_t hc)] at hr
              refine run_pass ?_
              refine run_last ?_
              obtain⟨it3,h_it3,hr⟩:=bnd hr
              obtain rfl:=Option.some.inj hr
              exact run_rt hm (YM.ix (YM.cast (YM.lst (YA.v (YM.pp YT.c rfl) (YA.v (YM.pp YT.c rfl) (YA.v (YM.pp YT.c rfl) (YA.v (YM.pp YT.c rfl) (YA.v (YM.pp YT.c rfl) (YA.v (YM.pp YT.c rfl) (YA.v (YM.pp YT.c rfl) YA.nil))))))) rfl (by simp)) (show _=e_MS [("abcdefghijklm":Str),("abcdefghijkl":Str),("":Str),(" 1":Str),("A":Str),("tick 1":Str),("-":Str)] from by first | rfl | simp[e_V,Dat.toD,toDs])) (YM.qb (YT.op2 (YT.var rfl rfl) YT.c (mod_k (by decide)) rfl)) (ix_L h_it3) rfl) (fun m hm=>⟨rfl,(Out.pin rfl rfl (Out.pin rfl rfl (Out.nil))).eq hm.e,hm.h⟩)
noncomputable def t_law_l1(script:(List Int))(k:Int)(s1:(Str×(List Ob)))(turn:Int): Option (Ex (Bool×(List Ob)) (Str×(List Ob))) :=
  (t_law_parse s1.1).bind fun due =>
  (t_law_told s1.1 s1.2).bind fun o_told =>
  if (due.isNone&&(!decide (o_told.1.1=("malformed":Str))))=true then
    some (.rt (false,o_told.2))
  else
    (if (!due.isNone)=true then
    (if (!decide (o_told.1.1=("call":Str)))=true then
    some true
    else
    (t_law_alike o_told.1.2 due).bind fun o_alike =>
    some (!o_alike)).bind fun either =>
    some either
    else
    some false).bind fun both =>
    if both=true then
      some (.rt (false,o_told.2))
    else
      (t_law_row script (((20:Int)+((2:Int)*k))+turn)).bind fun o_row2 =>
      (t_law_spoilt s1.1 [o_row2]).bind fun o_spoilt =>
      some (.go (o_spoilt.1,o_told.2))
noncomputable def t_law_l2(script:(List Int))(s:(List Ob))(k:Int): Option (Ex (Bool×(List Ob)) (List Ob)) :=
  (t_law_row script k).bind fun o_row =>
  (t_law_row script ((10:Int)+k)).bind fun o_row1 =>
  (t_law_call ((o_row*(2147483647:Int))+o_row1)).bind fun o_call =>
  (t_law_line o_call).bind fun line =>
  (forE (t_law_l1 script k) (rangeI 0 (3:Int)) (line,s)).bind (Rs.elim (fun s2 =>
    some (.go s2.2)) (fun r=>some (.rt r)))
noncomputable def t_law(script:(List Int))(h:List Ob): Option (Bool×(List Ob)) :=
  (forE (t_law_l2 script) (rangeI 0 (10:Int)) h).bind (Rs.elim (fun hp =>
    some (true,hp)) (fun r=>some r))
abbrev q_law(script:(List Int))(h:List Ob): (Bool×(List Ob))→Fl→Mem→Prop:=fun r=>FP (D.bl r.1) [0] [e_LI script] [e_LI script] r.2
theorem y_law (script:(List Int)) (h:List Ob) (r:(Bool×(List Ob))) (hr:t_law script h=some r):m_law [e_LI script] h=.ok (D.bl r.1,[e_LI script],r.2):=by
  unfold t_law at hr
  unfold m_law
  refine run_def rfl rfl (xcP (rfl)) (fun m hm=>?_)
  show Run _ m (q_law script h r)
  obtain⟨ex1,h_hp,hr⟩:=bnd hr
  refine run_forX (P:=fun(s:(List Ob))=>[some (e_LI script),none,none,none,none,none]) (H:=fun(s:(List Ob))=>s) (PR:=q_law script h) (e:=ex1) hm (YI.r1 (YA.qq (YL.cons YT.c YL.nil)) (.bor Ct.nil) (by decide)) (fun m hm=>run_forE (enc:=D.int) (fun _ _ _=>trivial) ?_ (rangeI 0 (10:Int)) h ex1 h_hp m (hm.wk (.keep (.drop (.drop (.drop (.drop (.drop Wk.nil)))))))) ?_ ?_
  · intro s k rr hr m hm
    unfold t_law_l2 at hr
    refine st_tg (YG.name (i:=1) (d:=D.int k) rfl) hm (fun m hm=>?_)
    obtain⟨o_row,h_o_row,hr⟩:=bnd hr
    obtain⟨o_row1,h_o_row1,hr⟩:=bnd hr
    obtain⟨o_call,h_o_call,hr⟩:=bnd hr
    obtain⟨line,h_line,hr⟩:=bnd hr
    refine run_asg hm (YM.call (YA.v (YM.call (YA.v (YM.op2 (YM.op2 (YM.call (YA.n rfl rfl (YA.n rfl rfl YA.nil)) (.namP rfl rfl (pu_LI script) (.namP rfl rfl rfl Gr.nil)) (y_law_row script k _ o_row h_o_row) rfl) (YM.qb YT.c) (mul_r (by decide))) (YM.cb (YA.v (YM.call (YA.n rfl rfl (YA.qq (YL.cons (YT.op2 YT.c (YT.var rfl rfl) rfl rfl) YL.nil))) (.namP rfl rfl (pu_LI script) (.bor rfl Gr.nil)) (y_law_row script ((10:Int)+k) _ o_row1 h_o_row1) rfl) YA.nil) (.val Ct.nil) rfl) rfl) YA.nil) (.val Gr.nil) (y_law_call ((o_row*(2147483647:Int))+o_row1) _ o_call h_o_call) rfl) YA.nil) (.val Gr.nil) (y_law_line o_call _ line h_line) rfl) (YG.name (i:=2) (d:=D.str line) rfl) (fun m hm=>?_)
    refine run_last ?_
    obtain⟨ex,h_s2,hr⟩:=bnd hr
    refine run_forX (P:=fun(s1:(Str×(List Ob)))=>[some (e_LI script),some (D.int k),some (D.str s1.1),none,none,none]) (H:=fun(s1:(Str×(List Ob)))=>s1.2) (PR:=q_law script h) (e:=ex) hm (YI.r1 (YA.qq (YL.cons YT.c YL.nil)) (.bor Ct.nil) (by decide)) (fun m hm=>run_forE (enc:=D.int) (fun _ _ _=>trivial) ?_ (rangeI 0 (3:Int)) (line,s) ex h_s2 m (hm.wk (.keep (.keep (.keep (.drop (.drop (.drop Wk.nil)))))))) ?_ ?_
    · intro s1 turn rr hr m hm
      unfold t_law_l1 at hr
      refine st_tg (YG.name (i:=3) (d:=D.int turn) rfl) hm (fun m hm=>?_)
      obtain⟨due,h_due,hr⟩:=bnd hr
      refine run_asg hm (YM.call (YA.n rfl rfl YA.nil) (.namP rfl rfl rfl Gr.nil) (y_law_parse s1.1 _ due h_due) rfl) (YG.name (i:=4) (d:=e_V due) rfl) (fun m hm=>?_)
      obtain⟨o_told,h_o_told,hr⟩:=bnd hr
      refine run_asg hm (YM.call (YA.n rfl rfl YA.nil) (.namP rfl rfl rfl Gr.nil) (y_law_told s1.1 _ o_told h_o_told) rfl) (YG.name (i:=5) (d:=e_T2SV o_told.1) rfl) (fun m hm=>?_)
      refine run_if hm (YB.andT (YB.bb (YM.opQ (YT.var rfl (deP (pu_V due))) YT.c (is_n (isn_V _)))) (YB.bb (YM.opQ (YT.ix (YT.var rfl rfl) YT.c rfl) YT.c (ne_fa Fa.str (by decide) o_told.1.1 ("malformed":Str))))) (fun hc m hm=>?_) (fun hc m hm=>?_)
      · rw[if_pos hc] at hr
        obtain rfl:=Option.some.inj hr
        exact run_rt hm (YM.pp YT.c rfl) (fun m hm=>⟨⟨_,rfl⟩,⟨rfl,(Out.pin rfl rfl (Out.nil)).eq hm.e,hm.h⟩⟩)
      · rw[if_neg (ne_t hc)] at hr
        refine run_pass ?_
        obtain⟨both,h_both,hr⟩:=bnd hr
        refine run_if hm (YB.and (y:=both) (p':=[some (e_LI script),some (D.int k),some (D.str s1.1),some (D.int turn),some (e_V due),some (e_T2SV o_told.1)]) (h':=o_told.2) (YB.bb (YM.opQ (YT.var rfl (deP (pu_V due))) YT.c (isnot_n (isn_V _)))) (fun hb=>by rw[if_pos hb] at h_both;obtain⟨either,h_either,h_both⟩:=bnd h_both;obtain rfl:=Option.some.inj h_both;exact YB.or (y:=either) (p':=[some (e_LI script),some (D.int k),some (D.str s1.1),some (D.int turn),some (e_V due),some (e_T2SV o_told.1)]) (h':=o_told.2) (YB.bb (YM.opQ (YT.ix (YT.var rfl rfl) YT.c rfl) YT.c (ne_fa Fa.str (by decide) o_told.1.1 ("call":Str)))) (fun hb=>by rw[if_neg (ne_t hb)] at h_either;obtain⟨o_alike,h_o_alike,h_either⟩:=bnd h_either;obtain rfl:=Option.some.inj h_either;exact YB.not (YB.v (YM.call (YA.v (YM.pp (YT.ix (YT.var rfl rfl) YT.c rfl) (pu_V o_told.1.2)) (YA.n rfl (deP (pu_V due)) YA.nil)) (.val (.namP rfl (deP (pu_V due)) (pu_V due) Gr.nil)) (y_law_alike o_told.1.2 due _ o_alike h_o_alike) rfl) rfl)) (fun hb=>by rw[if_pos hb] at h_either;obtain rfl:=Option.some.inj h_either;exact⟨rfl,rfl,(.keep (.keep (.keep (.keep (.keep (.keep Wk.nil))))))⟩)) (fun hb=>by rw[if_neg (ne_t hb)] at h_both;obtain rfl:=Option.some.inj h_both;exact⟨rfl,rfl,(.keep (.keep (.keep (.keep (.keep (.keep Wk.nil))))))⟩)) (fun hc m hm=>?_) (fun hc m hm=>?_)
        · rw[if_pos hc] at hr
          obtain rfl:=Option.some.inj hr
          exact run_rt hm (YM.pp YT.c rfl) (fun m hm=>⟨⟨_,rfl⟩,⟨rfl,(Out.pin rfl rfl (Out.nil)).eq hm.e,hm.h⟩⟩)
        · rw[if_neg (ne_t hc)] at hr
          refine run_pass ?_
          refine run_last ?_
          obtain⟨o_row2,h_o_row2,hr⟩:=bnd hr
          obtain⟨o_spoilt,h_o_spoilt,hr⟩:=bnd hr
          refine run_asg hm (YM.call (YA.n rfl rfl (YA.v (YM.cast (YM.lst (YA.v (YM.fz (YM.call (YA.n rfl rfl (YA.qq (YL.cons (YT.op2 (YT.op2 YT.c (YT.op2 YT.c (YT.var rfl rfl) (mul_l (by decide)) rfl) rfl rfl) (YT.var rfl rfl) rfl rfl) YL.nil))) (.namP rfl rfl (pu_LI script) (.bor rfl Gr.nil)) (y_law_row script (((20:Int)+((2:Int)*k))+turn) _ o_row2 h_o_row2) rfl) (fz_same rfl rfl)) YA.nil) rfl (by simp)) (show _=e_MI [o_row2] from by first | rfl | simp[e_V,Dat.toD,toDs])) YA.nil)) (.namP rfl rfl rfl (.val Gr.nil)) (y_law_spoilt s1.1 [o_row2] _ o_spoilt h_o_spoilt) rfl) (YG.name (i:=2) (d:=D.str o_spoilt.1) rfl) (fun m hm=>?_)
          obtain rfl:=Option.some.inj hr
          exact run_end ⟨.inl rfl,hm.wk (.keep (.keep (.keep (.drop (.drop (.drop Wk.nil))))))⟩
    · intro s2 he m hm
      subst he
      replace hr:=(show _=_ from hr)
      rw[rs_go] at hr
      obtain rfl:=Option.some.inj hr
      exact run_end ⟨.inl rfl,hm.wk (.keep (.drop (.drop (.drop (.drop (.drop Wk.nil))))))⟩
    · intro r1 he d m hq
      subst he
      obtain rfl:=Option.some.inj hr
      exact⟨⟨_,rfl⟩,hq⟩
  · intro hp he m hm
    subst he
    replace hr:=(show _=_ from hr)
    rw[rs_go] at hr
    refine run_last ?_
    obtain rfl:=Option.some.inj hr
    exact run_rt hm (YM.pp YT.c rfl) (fun m hm=>⟨rfl,(Out.pin rfl rfl (Out.nil)).eq hm.e,hm.h⟩)
  · intro r1 he d m hq
    subst he
    obtain rfl:=Option.some.inj hr
    exact hq
end Gen
set_option pp.maxSteps 200
namespace Gen
open PySem E Y
open L2 (atI ixN)
mutual
def nd: Dat→Nat
  | .non=>1
  | .int _=>1
  | .str _=>1
  | .tup ds=>1+nds ds
def nds: List Dat→Nat
  | []=>0
  | d::ds=>nd d+nds ds
end
mutual
def Okd: Dat→Prop
  | .non=>True
  | .int i=>-1000000000000000000≤i∧i≤1000000000000000000
  | .str s=>s.length≤1000000∧∀ c∈s.cps.toList,32≤c∧c≤126∧c≠37
  | .tup ds=>ds.length≤1000000∧Oks ds
def Oks: List Dat→Prop
  | []=>True
  | d::ds=>Okd d∧Oks ds
end
theorem Oks.mem: ∀ {ds:List Dat},Oks ds→∀ d∈ds,Okd d
  | [],_,d,m=>by cases m
  | x::xs,h,d,m=>by
    rw[Oks] at h
    rcases List.mem_cons.mp m with rfl | m
    · exact h.1
    · exact Oks.mem h.2 d m
def its: (ds:List Dat)→deps ds≤48→List V
  | [],_=>[]
  | d::ds,h=>⟨d,by rw[deps] at h;omega⟩::its ds (by rw[deps] at h;omega)
theorem its_d: ∀ (ds:List Dat) (h:deps ds≤48),(its ds h).map (·.d)=ds
  | [],_=>rfl
  | d::ds,h=>by rw[its,List.map_cons,its_d ds]
theorem its_of{ds:List Dat}(h:(Dat.tup ds).dep≤48): ∃ vs:List V,vs.map (·.d)=ds∧(∀ v∈vs,v.d.dep<(Dat.tup ds).dep):=by
  have h2:deps ds≤48:=by rw[Dat.dep] at h;omega
  refine⟨its ds h2,its_d ds h2,fun v m=>?_⟩
  have:v.d∈ds:=by rw[← its_d ds h2];exact List.mem_map_of_mem m
  have:=deps_mem this
  rw[Dat.dep]
  omega
theorem e_V_tup{v:V}{vs:List V}{ds:List Dat}(e:v.d=.tup ds)(h:vs.map (·.d)=ds): e_V v=e_QV vs:=by
  unfold e_V
  rw[e,Dat.toD,← h,toDs_map,List.map_map]
  rfl
theorem inv_tup{v:V}{vs:List V}{ds:List Dat}(e:v.d=.tup ds)(h:vs.map (·.d)=ds): invO e_QV (e_V v)=some vs:=by
  rw[e_V_tup e h,invO_eq (inj_Q inj_V)]
theorem inv_int{v:V}{i:Int}(e:v.d=.int i): invO D.int (e_V v)=some i:=by
  have:e_V v=D.int i:=by unfold e_V;rw[e,Dat.toD]
  rw[this,invO_eq inj_int]
theorem inv_str{v:V}{s:Str}(e:v.d=.str s): invO D.str (e_V v)=some s:=by
  have:e_V v=D.str s:=by unfold e_V;rw[e,Dat.toD]
  rw[this,invO_eq inj_str]
theorem pop_snoc{α:Type}(xs:List α)(a:α): popO (xs++[a])=some (a,xs):=by
  unfold popO
  have:(xs++[a]).length - 1=xs.length:=by simp
  rw[this]
  simp[List.eraseIdx_append_of_length_le]
abbrev ch(s:Str): List Nat:=s.cps.toList
abbrev St(l:List Nat): Str:=⟨l.toArray⟩
theorem ch_len(s:Str): (ch s).length=s.length:=by unfold ch;rw[Array.length_toList];rfl
theorem ch_add(x y:Str): ch (x++y)=ch x++ch y:=by
  show(x.cps++y.cps).toList=_
  rw[Array.toList_append]
theorem len_add(x y:Str): (x++y).length=x.length+y.length:=by rw[← ch_len,ch_add,List.length_append,ch_len,ch_len]
theorem ch_St(l:List Nat): ch (St l)=l:=by simp[ch]
theorem St_ch(s:Str): St (ch s)=s:=by cases s;rfl
theorem ch_inj{x y:Str}(h:ch x=ch y): x=y:=by rw[← St_ch x,h,St_ch]
theorem St_len(l:List Nat): (St l).length=l.length:=by rw[← ch_len,ch_St]
def dgs(i:Int): List Nat:=if 0≤i then TL.numL i.toNat else 45::TL.numL (-i).toNat
theorem ch_num(i:Int): ch (toString i)=dgs i:=by
  unfold dgs
  by_cases h:0≤i
  · rw[if_pos h]
    obtain⟨n,rfl⟩:∃ n:Nat,i=(n:Int):=⟨i.toNat,by omega⟩
    exact TL.tl_num n
  · rw[if_neg h]
    obtain⟨n,rfl⟩:∃ n:Nat,i=-((n+1:Nat):Int):=⟨(-i).toNat - 1,by omega⟩
    have e:(-(-((n+1:Nat):Int))).toNat=n+1:=by omega
    rw[e,← TL.tl_num (n+1)]
    show ch (Str.ofString (toString (Int.negSucc n)))=_
    rfl
end Gen
namespace Gen
open PySem E Y
open L2 (atI ixN)
theorem num_len{n:Nat}(h:n≤1000000000000000000): 1≤(TL.numL n).length∧(TL.numL n).length≤19:=by
  refine⟨?_,TL.numL_len (by decide) (by omega)⟩
  have:=TL.numL_ne n
  cases h:TL.numL n with
  | nil=>exact absurd h this
  | cons _ _=>simp
theorem dgs_len{i:Int}(h:-1000000000000000000≤i∧i≤1000000000000000000): 1≤(dgs i).length∧(dgs i).length≤20:=by
  unfold dgs
  split
  · have:=num_len (n:=i.toNat) (by omega)
    omega
  · have:=num_len (n:=(-i).toNat) (by omega)
    rw[List.length_cons]
    omega
def und: List Nat→List Nat
  | []=>[]
  | [c]=>[c]
  | c::d::r=>if c=34∧d=34 then 34::und r else c::und (d::r)
theorem und_q(r:List Nat): und (34::34::r)=34::und r:=by rw[und,if_pos ⟨rfl,rfl⟩]
theorem und_c{c:Nat}{r:List Nat}(h:∀ d t,r=d::t→¬ (c=34∧d=34)): und (c::r)=c::und r:=by
  cases r with
  | nil=>rw[und,und]
  | cons d t=>rw[und,if_neg (h d t rfl)]
theorem und_dbl: ∀ l:List Nat,und (StrLaws.dbl 34 l)=l
  | []=>rfl
  | c::r=>by
    unfold StrLaws.dbl
    by_cases h:c=34
    · rw[if_pos h,h,und_q,und_dbl r]
    · rw[if_neg h,und_c fun d t _ z=>h z.1,und_dbl r]
theorem und_app: ∀ (p q:List Nat),(∀ k,k<p.length→¬ ((p++q)[k]?=some 34∧(p++q)[k+1]?=some 34))→und (p++q)=p++und q
  | [],q,_=>rfl
  | c :: p,q,h=>by
    rw[List.cons_append,und_c,und_app p q fun k hk=>by simpa using h (k+1) (by simpa using hk)]
    · rfl
    · intro d t e z
      refine h 0 (by simp) ⟨by simp[z.1],?_⟩
      simp only[List.cons_append,Nat.zero_add,List.getElem?_cons_succ,e]
      simp[z.2]
abbrev QQ: Str:=⟨#[34,34]⟩
abbrev Q1: Str:=⟨#[34]⟩
theorem at_qq{x:Str}{k:Nat}: StrLaws.At x QQ x.length k↔((ch x)[k]?=some 34∧(ch x)[k+1]?=some 34):=by
  unfold StrLaws.At
  rw[StrLaws.subAt_eq]
  show(k+2≤x.length∧(((ch x).drop k).take 2==[34,34])=true)↔_
  rw[beq_iff_eq]
  constructor
  · rintro⟨_,h⟩
    have h0:=congrArg (fun l=>l[0]?) h
    have h1:=congrArg (fun l=>l[1]?) h
    simp only[List.getElem?_take,List.getElem?_drop] at h0 h1
    exact⟨by simpa using h0,by simpa using h1⟩
  · rintro⟨h0,h1⟩
    obtain⟨l1,e1⟩:=List.getElem?_eq_some_iff.mp h1
    obtain⟨l0,e0⟩:=List.getElem?_eq_some_iff.mp h0
    refine⟨by rw[← ch_len];omega,?_⟩
    rw[List.drop_eq_getElem_cons l0,List.drop_eq_getElem_cons l1,e0,e1]
    rfl
theorem ch_join(z a:Str)(r:List Str)(hr:r≠[]): ch (Str.join z (a::r))=ch a++ch z++ch (Str.join z r):=by
  cases r with
  | nil=>exact absurd rfl hr
  | cons b r =>
    show ch (a++z++Str.join z (b::r))=_
    rw[ch_add,ch_add]
theorem ch_sub(x:Str)(i j:Nat): ch (Builtin.Str.strSub x i j)=((ch x).drop i).take (j - i):=StrLaws.strSub_toList x i j
theorem join_und(x:Str): ∀ (cuts:List Nat) (a f:Nat),StrLaws.ChainG x QQ x.length a cuts f→(∀ k,f≤k→¬ StrLaws.At x QQ x.length k)→a≤x.length →
    ch (Str.join Q1 (StrLaws.partsFrom x 2 a cuts))=und ((ch x).drop a)
  | [],a,f,h,hn,ha=>by
    obtain rfl:f=a:=h
    show ch (Builtin.Str.strSub x f x.length)=_
    rw[ch_sub,List.take_of_length_le (by rw[List.length_drop,ch_len];omega)]
    have:=und_app ((ch x).drop f) [] fun k hk z=>by
      rw[List.append_nil,List.getElem?_drop,List.getElem?_drop] at z
      exact hn (f+k) (by omega) (at_qq.mpr ⟨z.1,by rw[show f+k+1=f+(k+1) by omega];exact z.2⟩)
    rw[List.append_nil] at this
    rw[this,und,List.append_nil]
  | c :: r,a,f,h,hn,ha=>by
    obtain⟨h1,h2,h3,h4⟩:=h
    have hq:=at_qq.mp h2
    obtain⟨l1,e1⟩:=List.getElem?_eq_some_iff.mp hq.2
    obtain⟨l0,e0⟩:=List.getElem?_eq_some_iff.mp hq.1
    have ll:(ch x).length=x.length:=ch_len x
    have ih:=join_und x r (c+2) f h4 hn (by omega)
    obtain⟨p,q,e⟩:=StrLaws.partsFrom_ne x 2 (c+2) r
    show ch (Str.join Q1 (Builtin.Str.strSub x a c::StrLaws.partsFrom x 2 (c+2) r))=_
    rw[ch_join _ _ _ (by rw[e];simp),ih,ch_sub]
    have ed:(ch x).drop a=((ch x).drop a).take (c - a)++(34::34::(ch x).drop (c+2)):=by
      conv=>lhs;rw[← List.take_append_drop (c - a) ((ch x).drop a)]
      rw[List.drop_drop,show a+(c - a)=c by omega,List.drop_eq_getElem_cons l0,List.drop_eq_getElem_cons l1,e0,e1]
    conv=>rhs;rw[ed]
    rw[und_app,und_q,List.append_assoc]
    · rfl
    · intro k hk z
      rw[← ed,List.getElem?_drop,List.getElem?_drop] at z
      rw[List.length_take,List.length_drop] at hk
      exact h3 (a+k) (by omega) (by omega) (at_qq.mpr ⟨z.1,by rw[show a+k+1=a+(k+1) by omega];exact z.2⟩)
theorem rep_und(x:Str): ch (Txt.replace x QQ Q1)=und (ch x):=by
  obtain⟨f,hG,hn⟩:=StrLaws.occ_tight x QQ (by decide)
  have h:=join_und x _ 0 f hG hn (Nat.zero_le _)
  rw[List.drop_zero] at h
  rw[← h]
  unfold Txt.replace
  split
  · rename_i c
    rw[Bool.or_eq_true] at c
    rcases c with c | c
    · rw[List.isEmpty_iff.mp c]
      show ch x=ch (Builtin.Str.strSub x 0 x.length)
      rw[StrLaws.sub_whole]
    · cases c
  · rw[StrLaws.glued_eq_join,StrLaws.partsBetween_eq]
    rfl
theorem dbl_le: ∀ l:List Nat,l.length≤(StrLaws.dbl 34 l).length∧(StrLaws.dbl 34 l).length≤2*l.length
  | []=>⟨Nat.le_refl _,Nat.le_refl _⟩
  | c::r=>by
    have:=dbl_le r
    unfold StrLaws.dbl
    split
    · simp only[List.length_cons];omega
    · simp only[List.length_cons];omega
theorem rep_back(x:Str): Txt.replace (St (StrLaws.dbl 34 (ch x))) ("\"\"":Str) ("\"":Str)=x:=ch_inj (by
  show ch (Txt.replace (St (StrLaws.dbl 34 (ch x))) QQ Q1)=_
  rw[rep_und,ch_St,und_dbl])
end Gen
namespace Gen
open PySem E Y
open L2 (atI ixN)
mutual
def wr: Dat→List Nat
  | .non=>[45]
  | .int i=>dgs i
  | .str s=>34::(StrLaws.dbl 34 (ch s)++[34])
  | .tup ds=>40::(wrs ds++[41])
def wrs: List Dat→List Nat
  | []=>[]
  | d::ds=>wr d++wrt ds
def wrt: List Dat→List Nat
  | []=>[]
  | d::ds=>32::(wr d++wrt ds)
end
theorem wrt_len: ∀ ds:List Dat,(wrs ds).length≤(wrt ds).length∧(wrt ds).length≤(wrs ds).length+1
  | []=>by rw[wrs,wrt];simp
  | d::ds=>by rw[wrs,wrt,List.length_cons];omega
theorem catS{x y:Str}{a b:List Nat}(hx:ch x=a)(hy:ch y=b)(h:a.length+b.length≤1100000): catSO x y=some (St (a++b)):=by
  subst hx hy
  unfold catSO
  rw[gd_of (by rw[← ch_len,← ch_len];omega),← ch_add,St_ch]
theorem chq: ch ("\"":Str)=[34]:=by decide
theorem ch0: ch ("":Str)=[]:=by decide
theorem chb: ch (" ":Str)=[32]:=by decide
theorem cho: ch ("(":Str)=[40]:=by decide
theorem chc: ch (")":Str)=[41]:=by decide
theorem chm: ch ("-":Str)=[45]:=by decide
theorem St_m: ("-":Str)=St [45]:=ch_inj (by rw[chm,ch_St])
theorem strI{i:Int}(h:-1000000000000000000≤i∧i≤1000000000000000000): strIO i=some (St (dgs i)):=by
  unfold strIO
  have hl:i.natAbs.log2<1920:=by
    by_cases h0:i.natAbs=0
    · rw[h0];decide
    · refine(Nat.log2_lt h0).mpr (Nat.lt_of_lt_of_le (m:=2 ^ 64) (by omega) (Nat.pow_le_pow_right (by decide) (by omega)))
  rw[gd_of hl]
  congr 1
  exact ch_inj (by rw[ch_num,ch_St])
theorem rep_1(x:Str): repS x 1=x:=by
  unfold repS
  rw[if_neg (by decide),if_pos (by rfl)]
theorem rep_0(x:Str): repS x 0=Str.empty:=by
  unfold repS
  rw[if_pos (by decide)]
theorem lw_sign(acc:List Nat)(c:Nat)(h:acc.length≤1000000): t_law_written_l1 (St acc) ⟨#[c]⟩=some (St (acc++StrLaws.dbl 34 [c])):=by
  unfold t_law_written_l1
  rw[catS (ch_St acc) (show ch ⟨#[c]⟩=[c] from rfl) (by simp;omega),Option.bind_some]
  by_cases e:c=34
  · subst e
    rw[if_pos (by decide)]
    have:repO (⟨#[34]⟩:Str) 1=some ⟨#[34]⟩:=by
      unfold repO
      rw[gd_of (by refine⟨by decide,by decide,by decide,?_⟩;rw[rep_1];decide),rep_1]
    rw[this,Option.bind_some,catS (ch_St _) (show ch ⟨#[34]⟩=[34] from rfl) (by simp;omega),Option.bind_some]
    simp[StrLaws.dbl]
  · rw[if_neg (by
      rw[decide_eq_true_eq]
      intro z
      have:=congrArg ch z
      rw[chq] at this
      exact e (by simpa [ch] using this))]
    have:repO (⟨#[c]⟩:Str) 0=some Str.empty:=by
      unfold repO
      rw[gd_of (by refine⟨by decide,by decide,by show(1:Nat)<1000;decide,?_⟩;rw[rep_0];decide),rep_0]
    rw[this,Option.bind_some,catS (ch_St _) (show ch Str.empty=[] from rfl) (by simp;omega),Option.bind_some]
    simp[StrLaws.dbl,e]
theorem lw_text(l:List Nat): ∀ acc:List Nat,acc.length+(StrLaws.dbl 34 l).length≤1000000→forS t_law_written_l1 (l.map fun c=>(⟨#[c]⟩:Str)) (St acc)=some (St (acc++StrLaws.dbl 34 l)):=by
  induction l with
  | nil=>intro acc _;rw[List.map_nil,forS];simp[StrLaws.dbl]
  | cons c r ih =>
    intro acc h
    have e:StrLaws.dbl 34 (c::r)=StrLaws.dbl 34 [c]++StrLaws.dbl 34 r:=by
      rw[← StrLaws.dbl_append]
      rfl
    rw[e,List.length_append] at h
    rw[List.map_cons,forS,lw_sign acc c (by omega),Option.bind_some,ih _ (by rw[List.length_append];omega),e,List.append_assoc]
theorem join_b: ∀ ds:List Dat,ch (Str.join (" ":Str) (ds.map fun d=>St (wr d)))=wrs ds∧∀ d,ch (Str.join (" ":Str) (St (wr d)::ds.map fun d=>St (wr d)))=wr d++wrt ds
  | []=>by
    refine⟨by rw[wrs];rfl,fun d=>?_⟩
    show ch (St (wr d))=_
    rw[ch_St,wrt,List.append_nil]
  | d::ds=>by
    have ih:=join_b ds
    refine⟨by rw[List.map_cons,ih.2 d,wrs],fun d'=>?_⟩
    rw[List.map_cons,ch_join _ _ _ (by simp),ih.2 d,ch_St,chb,wrt]
    simp
theorem sum_wr: ∀ ds:List Dat,((ds.map fun d=>St (wr d)).map (·.length)).sum+ds.length=(wrt ds).length
  | []=>by rw[wrt];rfl
  | d::ds=>by
    have:=sum_wr ds
    rw[List.map_cons,List.map_cons,List.sum_cons,St_len,wrt]
    simp only[List.length_cons,List.length_append]
    omega
theorem joinB(ds:List Dat)(h:(wrs ds).length≤1000000): joinO (" ":Str) (ds.map fun d=>St (wr d))=some (St (wrs ds)):=by
  unfold joinO
  have h1:=sum_wr ds
  have h2:=wrt_len ds
  have h3:(" ":Str).length=1:=by decide
  rw[if_pos (by rw[List.length_map,h3];omega)]
  congr 1
  refine ch_inj ?_
  rw[TL.join_eq,(join_b ds).1,ch_St]
theorem nn_tup{v:V}{xs:List Dat}(e:v.d=.tup xs): ¬ v.isNone=true:=by unfold V.isNone;rw[e];simp[Dat.isNon]
theorem nn_int{v:V}{i:Int}(e:v.d=.int i): ¬ v.isNone=true:=by unfold V.isNone;rw[e];simp[Dat.isNon]
theorem nn_str{v:V}{i:Str}(e:v.d=.str i): ¬ v.isNone=true:=by unfold V.isNone;rw[e];simp[Dat.isNon]
theorem dep_mem{xs:List Dat}{x:Dat}(m:x∈xs): x.dep+1≤(Dat.tup xs).dep:=by
  have:=deps_mem m
  rw[Dat.dep]
  omega
theorem wr_mem {ds:List Dat}:∀ d∈ds,(wr d).length≤(wrs ds).length:=by
  have key:∀ ds:List Dat,∀ d∈ds,(wr d).length≤(wrt ds).length - 1:=by
    intro ds
    induction ds with
    | nil=>intro d m;cases m
    | cons x xs ih =>
      intro d m
      rw[wrt,List.length_cons,List.length_append]
      rcases List.mem_cons.mp m with rfl | m
      · omega
      · have:=ih d m
        omega
  intro d m
  have:=key ds d m
  have:=wrt_len ds
  omega
theorem law_written_eq:∀ (dp:Nat) (v:V),v.d.dep<dp→Okd v.d→(wr v.d).length≤1000000→tf_law_written dp v=some (St (wr v.d))
  | 0,v,h,_,_=>absurd h (Nat.not_lt_zero _)
  | dp+1,v,h,ok,hl=>by
    show tr_law_written (tf_law_written dp) v=_
    unfold tr_law_written
    have hd:∃ d,v.d=d:=⟨_,rfl⟩
    obtain⟨d,hd⟩:=hd
    rw[hd] at h ok hl ⊢
    cases d with
    | non=>rw[if_pos (by unfold V.isNone;rw[hd];rfl),wr,St_m]
    | int i =>
      rw[Okd] at ok
      rw[if_neg (nn_int hd),if_pos (by unfold V.sel;rw[hd];rfl),inv_int hd,Option.bind_some,strI ok,wr]
      rfl
    | str s =>
      rw[wr,List.length_cons,List.length_append] at hl
      rw[if_neg (nn_str hd),if_neg (by unfold V.sel;rw[hd];simp[Dat.sel]),if_pos (by unfold V.sel;rw[hd];rfl),Option.bind_some,inv_str hd,Option.bind_some]
      have e0:("":Str)=St []:=ch_inj (by rw[ch0,ch_St])
      unfold signsS
      rw[e0,lw_text (ch s) [] (by simp at hl ⊢;omega),Option.bind_some,List.nil_append,catS chq (ch_St _) (by simp at hl ⊢;omega),Option.bind_some,catS (ch_St _) chq (by simp at hl ⊢;omega),wr]
      rfl
    | tup ds =>
      rw[Okd] at ok
      rw[wr,List.length_cons,List.length_append] at hl
      obtain⟨vs,h1,h2⟩:=its_of (ds:=ds) (by rw[← hd];exact v.h)
      have lv:vs.length=ds.length:=by rw[← h1,List.length_map]
      rw[if_neg (nn_tup hd),if_neg (by unfold V.sel;rw[hd];simp[Dat.sel]),if_neg (by unfold V.sel;rw[hd];simp[Dat.sel]),inv_tup hd h1,Option.bind_some,lcOg_eq (by omega),lcO_map (f:=fun v:V=>St (wr v.d)) fun w m=>by
        have m2:w.d∈ds:=by rw[← h1];exact List.mem_map_of_mem m
        have:=wr_mem w.d m2
        unfold t_law_written_c2
        rw[law_written_eq dp w (by have:=h2 w m;omega) (Oks.mem ok.2 _ m2) (by omega)]
        rfl]
      have e:(vs.map fun v:V=>St (wr v.d))=ds.map fun d=>St (wr d):=by rw[← h1,List.map_map];rfl
      rw[Option.bind_some,e,joinB ds (by omega),Option.bind_some,catS cho (ch_St _) (by simp;omega),Option.bind_some,catS (ch_St _) chc (by simp at hl ⊢;omega),wr]
      simp
end Gen
namespace Gen
open PySem E Y
open L2 (atI ixN)
theorem atV_of'{v:V}{xs:List Dat}{k:Nat}(e:v.d=.tup xs)(h:k<xs.length): ∃ w:V,atV v (k:Int)=some w∧w.d=xs[k]:=by
  obtain⟨d,hd⟩:=v
  dsimp only at e
  subst e
  unfold atV
  dsimp only
  split
  · rename_i d' e'
    rw[atI_nat h] at e'
    cases e'
    exact⟨_,rfl,rfl⟩
  · rename_i e'
    rw[atI_nat h] at e'
    cases e'
end Gen
namespace Gen
open PySem E Y
open L2 (atI ixN)
theorem drop_cons{α:Type}{l:List α}{p:Nat}{c:α}{r:List α}(h:l.drop p=c::r): p<l.length∧l[p]?=some c∧l.drop (p+1)=r:=by
  have hp:p<l.length:=by
    by_cases c:p<l.length
    · exact c
    · rw[List.drop_of_length_le (by omega)] at h;cases h
  rw[List.drop_eq_getElem_cons hp] at h
  injection h with h1 h2
  exact⟨hp,by rw[List.getElem?_eq_getElem hp,h1],h2⟩
theorem drop_nil{α:Type}{l:List α}{p:Nat}(h:l.drop p=[]): l.length≤p:=by
  by_cases c:p<l.length
  · rw[List.drop_eq_getElem_cons c] at h;cases h
  · omega
section
variable {line:Str} (hL:line.length≤1000000)
include hL
theorem len_l: lenS line=some ((ch line).length:Int):=by
  unfold lenS
  rw[gd_of (by omega),ch_len]
theorem at_l{p:Nat}{c:Nat}{r:List Nat}(h:(ch line).drop p=c::r): atS line (p:Int)=some ⟨#[c]⟩:=by
  obtain⟨h1,h2,_⟩:=drop_cons h
  unfold atS
  rw[List.getElem?_eq_getElem h1] at h2
  rw[gd_of (by omega),atI_nat h1,Option.map_some,Option.some.inj h2]
theorem cut_l(p q:Nat)(hp:p≤(ch line).length): cutSO line (some (p:Int)) (some (q:Int))=some (St (((ch line).drop p).take (q - p))):=by
  unfold cutSO
  rw[gd_of (by omega)]
  congr 1
  unfold L2.cutS
  rw[HT.sIx_nat,HT.sIx_nat]
  have ll:line.length=(ch line).length:=(ch_len line).symm
  rw[ll,Nat.min_eq_left hp]
  show(⟨_⟩:Str)=St _
  unfold St
  congr 2
  by_cases h:q≤(ch line).length
  · rw[Nat.min_eq_left h]
  · have hd:=List.length_drop (i:=p) (l:=ch line)
    rw[Nat.min_eq_right (by omega),List.take_of_length_le (show((ch line).drop p).length≤_ by omega),List.take_of_length_le (show((ch line).drop p).length≤_ by omega)]
theorem cut_0(q:Nat): cutSO line none (some (q:Int))=some (St ((ch line).take q)):=by
  unfold cutSO
  rw[gd_of (by omega)]
  congr 1
  unfold L2.cutS
  rw[HT.sIx_nat,HT.sIx_none,List.drop_zero,Nat.sub_zero]
  show(⟨_⟩:Str)=St _
  unfold St
  congr 1
  have ll:line.length=(ch line).length:=(ch_len line).symm
  rw[ll]
  by_cases h:q≤(ch line).length
  · rw[Nat.min_eq_left h]
  · rw[Nat.min_eq_right (by omega),List.take_length,List.take_of_length_le (by omega)]
end
theorem eqS{c d:Nat}{x:Str}(hx:ch x=[d]): decide ((⟨#[c]⟩:Str)=x)=decide (c=d):=by
  congr 1
  apply propext
  constructor
  · intro h
    have:=congrArg ch h
    rw[hx] at this
    simpa [ch] using this
  · intro h
    subst h
    exact ch_inj (by rw[hx])
theorem run_w {line:Str} {tbl:Str} (hL:line.length≤1000000) {w:Int→Option (Bool×Int)} {l:Int→Option Int}
    (hw:∀ s,w s=(lenS line).bind fun len=>(if decide (s<len)=true then (atS line s).bind fun ch=>(inSO ch tbl).bind fun inx=>some inx else some false).bind fun both=>some (both,s))
    (hl:∀ s,l s=some (s+1)):∀ (ds:List Nat) (p f:Nat) (rest:List Nat),(ch line).drop p=ds++rest→(∀ c∈ds,c∈ch tbl)→(∀ c t,rest=c::t→c ∉ ch tbl)→ds.length<f →
      whS w l f (p:Int)=some ((p+ds.length:Nat):Int)
  | _,_,0,_,_,_,_,hf=>absurd hf (Nat.not_lt_zero _)
  | [], p,f+1,rest,hd,_,hr,_=>by
    rw[List.nil_append] at hd
    unfold whS
    rw[hw,len_l hL,Option.bind_some]
    cases rest with
    | nil =>
      have:=drop_nil hd
      rw[if_neg (by simp;omega)]
      simp
    | cons c t =>
      have hc:=drop_cons hd
      rw[if_pos (by simp;exact hc.1),at_l hL hd,Option.bind_some]
      have:inSO ⟨#[c]⟩ tbl=some false:=by
        show some (decide (c∈ch tbl))=_
        rw[decide_eq_false (hr c t rfl)]
      rw[this]
      simp
  | d :: ds,p,f+1,rest,hd,hi,hr,hf=>by
    rw[List.cons_append] at hd
    have hc:=drop_cons hd
    unfold whS
    rw[hw,len_l hL,Option.bind_some,if_pos (by simp;exact hc.1),at_l hL hd,Option.bind_some]
    have:inSO ⟨#[d]⟩ tbl=some true:=by
      show some (decide (d∈ch tbl))=_
      rw[decide_eq_true (hi d (List.mem_cons_self ..))]
    rw[this,Option.bind_some,Option.bind_some,Option.bind_some,if_pos rfl]
    dsimp only
    rw[hl,Option.bind_some,show(p:Int)+1=((p+1:Nat):Int) by omega,run_w hL hw hl ds (p+1) f rest hc.2.2 (fun c m=>hi c (List.mem_cons_of_mem _ m)) hr (by rw[List.length_cons] at hf;omega),List.length_cons]
    congr 2
    omega
theorem dig_tbl{c:Nat}: c∈ch ("0123456789":Str)↔48≤c∧c≤57:=by
  have e:ch ("0123456789":Str)=[48,49,50,51,52,53,54,55,56,57]:=by decide
  rw[e]
  simp only[List.mem_cons,List.not_mem_nil,or_false]
  omega
theorem let_tbl{c:Nat}: c∈ch ("abcdefghijklmnopqrstuvwxyz":Str)↔97≤c∧c≤122:=by
  have e:ch ("abcdefghijklmnopqrstuvwxyz":Str)=(List.range 26).map (97+·):=by decide
  rw[e]
  simp only[List.mem_map,List.mem_range]
  constructor
  · rintro⟨a,h,rfl⟩;omega
  · intro h;exact⟨c - 97,by omega,by omega⟩
section
variable {line:Str} (hL:line.length≤1000000)
include hL
end
theorem sign_ok{c:Nat}(h:32≤c∧c≤126∧c≠37): ∃ y,t_sign_of (c:Int)=some (some y):=by
  unfold t_sign_of
  by_cases h1:c≤36
  · rw[if_pos (by simp;omega)]
    obtain⟨k,hk⟩:∃ k:Nat,(c:Int) - 32=(k:Int)∧k<5:=⟨c - 32,by omega,by omega⟩
    rw[hk.1]
    have l:(ch (" !\"#$":Str)).length=5:=by decide
    unfold atS
    rw[gd_of (by rw[← ch_len,l];decide),atI_nat (show k<(ch (" !\"#$":Str)).length by rw[l];exact hk.2)]
    exact⟨_,rfl⟩
  · rw[if_neg (by simp;omega),if_pos (by simp;omega)]
    obtain⟨k,hk⟩:∃ k:Nat,(c:Int) - 38=(k:Int)∧k<89:=⟨c - 38,by omega,by omega⟩
    rw[hk.1]
    have l:(ch ("&'()*+,-./0123456789:;<=>?@ABCDEFGHIJKLMNOPQRSTUVWXYZ[\\]^_`abcdefghijklmnopqrstuvwxyz{|}~":Str)).length=89:=by decide
    unfold atS
    rw[gd_of (by rw[← ch_len,l];decide),atI_nat (show k<(ch ("&'()*+,-./0123456789:;<=>?@ABCDEFGHIJKLMNOPQRSTUVWXYZ[\\]^_`abcdefghijklmnopqrstuvwxyz{|}~":Str)).length by rw[l];exact hk.2)]
    exact⟨_,rfl⟩
section
variable {line:Str} (hL:line.length≤1000000)
include hL
end
end Gen
namespace Gen
open PySem E Y
open L2 (atI ixN)
theorem at_last{α:Type}(xs:List α)(a:α): atI (xs++[a]) (-1)=some a:=by
  rw[atI_ng (by omega) (by simp;omega)]
  congr 1
  rw[List.getElem_append_right (by simp;omega)]
  simp
structure Lq where
  a:Nat
  vs:List V
def vbOb(vs:List V): Ob:=⟨BOXC,[("",e_MV vs)]⟩
theorem vb_box{h:List Ob}{a:Nat}{vs:List V}(j:h[a]?=some (vbOb vs)): boxO e_MV h a=some vs:=boxO_eq (inj_L inj_V) j
abbrev Us:= Int×List Nat×List Ob
structure Rq (p:Nat) (h0:List Ob) (ls:List Lq) (s:Us):Prop where
  pos:s.1=(p:Int)
  st:s.2.1=(ls.map (·.a)).reverse
  bx:∀ l∈ls,s.2.2[l.a]?=some (vbOb l.vs)∧h0.length≤l.a
  nd:(ls.map (·.a)).Nodup
  fr:∀ k,k<h0.length→s.2.2[k]?=h0[k]?
  ln:h0.length≤s.2.2.length
section
variable {p:Nat} {h0:List Ob} {l t:Lq} {ls:List Lq} {s:Us}
theorem Rq.last(R:Rq p h0 (l::ls) s): atI s.2.1 (-1)=some l.a:=by
  rw[R.st,List.map_cons,List.reverse_cons,at_last]
theorem Rq.len(R:Rq p h0 ls s): s.2.1.length=ls.length:=by rw[R.st];simp
theorem Rq.put(R:Rq p h0 (l::ls) s)(v:V)(q:Nat): Rq q h0 ({ l with vs:=l.vs++[v] }::ls) ((q:Int),s.2.1,s.2.2.set l.a (vbOb (l.vs++[v]))):=by
  have ra:=(R.bx l (List.mem_cons_self ..)).2
  have nd:=R.nd
  rw[List.map_cons,List.nodup_cons] at nd
  refine⟨rfl,by rw[R.st];rfl,fun m mm=>?_,R.nd,fun k hk=>by rw[hp_ne (by omega)];exact R.fr k hk,by rw[List.length_set];exact R.ln⟩
  rcases List.mem_cons.mp mm with rfl | mm
  · exact⟨hp_set (R.bx l (List.mem_cons_self ..)).1,ra⟩
  · have hm:=R.bx m (List.mem_cons_of_mem _ mm)
    refine⟨?_,hm.2⟩
    rw[hp_ne (fun e=>nd.1 (by rw[e];exact List.mem_map_of_mem mm))]
    exact hm.1
theorem Rq.push(R:Rq p h0 ls s)(q:Nat): Rq q h0 (⟨s.2.2.length,[]⟩::ls) ((q:Int),s.2.1++[s.2.2.length],s.2.2++[vbOb []]):=by
  have ln:=R.ln
  refine⟨rfl,by rw[R.st,List.map_cons,List.reverse_cons],fun m mm=>?_,?_,fun k hk=>?_,by rw[List.length_append];omega⟩
  · rcases List.mem_cons.mp mm with rfl | mm
    · exact⟨hp_new _ _,ln⟩
    · exact⟨hp_old (R.bx m mm).1,(R.bx m mm).2⟩
  · rw[List.map_cons,List.nodup_cons]
    refine⟨fun z=>?_,R.nd⟩
    obtain⟨m,mm,e⟩:=List.mem_map.mp z
    have:=hp_lt (R.bx m mm).1
    dsimp only at e
    omega
  · rw[List.getElem?_append_left (by omega)]
    exact R.fr k hk
theorem Rq.pop(R:Rq p h0 (t::ls) s)(q:Nat): popO s.2.1=some (t.a,(ls.map (·.a)).reverse)∧Rq q h0 ls ((q:Int),(ls.map (·.a)).reverse,s.2.2):=by
  refine⟨by rw[R.st,List.map_cons,List.reverse_cons,pop_snoc],rfl,rfl,fun m mm=>R.bx m (List.mem_cons_of_mem _ mm),?_,R.fr,R.ln⟩
  have:=R.nd
  rw[List.map_cons,List.nodup_cons] at this
  exact this.2
end
section
variable {line:Str} (hL:line.length≤1000000) {h0:List Ob}
include hL
end
end Gen
namespace Gen
open PySem E Y
open L2 (atI ixN)
theorem t_row(ns:List Int)(k:Int)(hk:0≤k): ∃ r,t_law_row ns k=some r:=by
  unfold t_law_row
  have c1:∃ c,(if decide ((0:Int)<(ns.length:Int))=true then (modO k (ns.length:Int)).bind fun remn=>(atI ns remn).bind fun cell1=>some cell1 else some (0:Int))=some c:=by
    by_cases h0:(0:Int)<ns.length
    · rw[if_pos (decide_eq_true h0),modO_eq h0,Option.bind_some,atI_nn (Int.emod_nonneg _ (by omega)) (Int.emod_lt_of_pos _ h0)]
      exact⟨_,rfl⟩
    · rw[if_neg (by simpa using h0)]
      exact⟨_,rfl⟩
  obtain⟨c,e⟩:=c1
  rw[e,Option.bind_some]
  have c2:∃ c',(if decide (c<(0:Int))=true then (some ((1:Int) - ((2:Int)*c))).bind fun cell3=>some cell3 else some c)=some c':=by
    split <;> exact⟨_,rfl⟩
  obtain⟨c',e'⟩:=c2
  rw[e',Option.bind_some]
  split
  · exact⟨_,rfl⟩
  · rw[Option.bind_some]
    generalize hz:(((c'*48271)+((k+1)*69621))+(ns.length:Int)) % 2147483647=z
    rw[mulO_l (by omega) (by omega)]
    exact⟨_,rfl⟩
theorem t_take(n s:Int)(h:0<s)(h2:s<18446744073709551616): ∃ d n',t_law_take [n] s=some (d,[n'])∧0≤d∧d<s:=by
  refine⟨n % s,n / s,?_,Int.emod_nonneg _ (by omega),Int.emod_lt_of_pos _ h⟩
  unfold t_law_take
  rw[atI_0,Option.bind_some,modO_eq h,Option.bind_some,Option.bind_some,fdivO_eq h h2,Option.bind_some,setI_0]
  rfl
def SOk(s:Str): Prop:=∀ c∈ch s,32≤c∧c≤126∧c≠37
theorem Oks_of: ∀ {ds:List Dat},(∀ d∈ds,Okd d)→Oks ds
  | [],_=>by rw[Oks];trivial
  | d::ds,h=>by rw[Oks];exact⟨h d (List.mem_cons_self ..),Oks_of fun e m=>h e (List.mem_cons_of_mem _ m)⟩
theorem pl_int{i:Int}(h:Okd (.int i)): (wr (.int i)).length≤20:=by
  rw[Okd] at h
  rw[wr]
  exact(dgs_len h).2
theorem pl_str{s:Str}: (wr (.str s)).length≤2+2*s.length:=by
  have:=dbl_le (ch s)
  rw[ch_len] at this
  rw[wr,List.length_cons,List.length_append,List.length_singleton]
  omega
theorem pl_tup{ds:List Dat}: (wr (.tup ds)).length≤2+(wrs ds).length:=by
  rw[wr,List.length_cons,List.length_append,List.length_singleton]
  omega
theorem pls_le{B:Nat}{ds:List Dat}(h:∀ d∈ds,(wr d).length≤B): (wrs ds).length≤(B+1)*ds.length:=by
  have key:∀ ds:List Dat,(∀ d∈ds,(wr d).length≤B)→(wrt ds).length≤(B+1)*ds.length:=by
    intro ds
    induction ds with
    | nil=>intro _;rw[wrt];simp
    | cons d ds ih =>
      intro h
      have h1:=h d (List.mem_cons_self ..)
      have h2:=ih fun e m=>h e (List.mem_cons_of_mem _ m)
      rw[wrt,List.length_cons,List.length_append,List.length_cons,Nat.mul_succ]
      omega
  exact Nat.le_trans (wrt_len ds).1 (key ds h)
structure DOk (k B:Nat) (v:V):Prop where
  ok:Okd v.d
  dp:v.d.dep≤k
  l:(wr v.d).length≤B
theorem mkV_of{d:Dat}(h:d.dep≤48): mkV d=some ⟨d,h⟩:=by unfold mkV;rw[dif_pos h]
theorem deps_all{n:Nat}: ∀ {xs:List Dat},(∀ x∈xs,x.dep≤n)→deps xs≤n
  | [],_=>dnil
  | x::xs,h=>dcons (h x (List.mem_cons_self ..)) (deps_all fun y m=>h y (List.mem_cons_of_mem _ m))
theorem tup_ok{k B n:Nat}{vs:List V}(hk:k<48)(h:∀ v∈vs,DOk k B v)(hn:vs.length≤n)(hn2:n≤1000000): ∃ v,mkV (Dat.tup (vs.map fun z=>z.d))=some v∧DOk (k+1) (2+(B+1)*n) v:=by
  have hd:(Dat.tup (vs.map fun z=>z.d)).dep≤k+1:=dep_T (deps_all (xs:=vs.map fun z=>z.d) fun x m=>by
    obtain⟨v,mv,rfl⟩:=List.mem_map.mp m
    exact(h v mv).dp)
  refine⟨_,mkV_of (Nat.le_trans hd (by omega)),?_,hd,?_⟩
  · show Okd (Dat.tup (vs.map fun z=>z.d))
    rw[Okd]
    refine⟨by rw[List.length_map];omega,Oks_of fun d m=>?_⟩
    obtain⟨v,mv,rfl⟩:=List.mem_map.mp m
    exact(h v mv).ok
  · refine Nat.le_trans pl_tup ?_
    have:=pls_le (B:=B) (ds:=vs.map fun z=>z.d) fun d m=>by
      obtain⟨v,mv,rfl⟩:=List.mem_map.mp m
      exact(h v mv).l
    rw[List.length_map] at this
    have h3:(B+1)*vs.length≤(B+1)*n:=Nat.mul_le_mul_left _ hn
    omega
theorem int_ok{i:Int}(h:-1000000000000000000≤i∧i≤1000000000000000000): DOk 0 20 ⟨Dat.int i,Nat.le_of_ble_eq_true rfl⟩ :=
  ⟨by show Okd (.int i);rw[Okd];exact h,by show(Dat.int i).dep≤0;rw[Dat.dep];exact Nat.le_refl 0,pl_int (by rw[Okd];exact h)⟩
theorem str_ok{s:Str}{n:Nat}(h:SOk s)(hl:s.length≤n)(hn:n≤1000000): DOk 0 (2+2*n) ⟨Dat.str s,Nat.le_of_ble_eq_true rfl⟩ :=
  ⟨by show Okd (.str s);rw[Okd];exact⟨by omega,h⟩,by show(Dat.str s).dep≤0;rw[Dat.dep];exact Nat.le_refl 0,Nat.le_trans pl_str (by omega)⟩
theorem integer_of(n:Int): ∃ i n',t_law_integer [n]=some (i,[n'])∧-1000000000000000000≤i∧i≤1000000000000000000:=by
  unfold t_law_integer
  obtain⟨d,n1,e1,d0,d1⟩:=t_take n 6 (by omega) (by omega)
  obtain⟨a,n2,e2,a0,a1⟩:=t_take n1 3 (by omega) (by omega)
  obtain⟨b,n3,e3,b0,b1⟩:=t_take n2 20000 (by omega) (by omega)
  obtain⟨c,n4,e4,c0,c1⟩:=t_take n3 1000000000000000001 (by omega) (by omega)
  obtain⟨s,n5,e5,_,_⟩:=t_take n4 2 (by omega) (by omega)
  rw[e1,Option.bind_some,e2,Option.bind_some,e3,Option.bind_some,e4,Option.bind_some]
  dsimp only
  obtain⟨q,hq,q0,q1⟩:∃ q,atI [(0:Int),(1:Int),((127:Int)+a),b,c,(1000000000000000000:Int)] d=some q∧0≤q∧q≤1000000000000000000:=by
    have:d=0∨d=1∨d=2∨d=3∨d=4∨d=5:=by omega
    rcases this with rfl | rfl | rfl | rfl | rfl | rfl
    · exact⟨0,rfl,by omega,by omega⟩
    · exact⟨1,rfl,by omega,by omega⟩
    · exact⟨_,rfl,by omega,by omega⟩
    · exact⟨_,rfl,by omega,by omega⟩
    · exact⟨_,rfl,by omega,by omega⟩
    · exact⟨_,rfl,by omega,by omega⟩
  rw[hq,Option.bind_some,e5,Option.bind_some]
  split
  · exact⟨_,_,rfl,by omega,by omega⟩
  · exact⟨_,_,rfl,by omega,by omega⟩
def SG: Str:=" !\"#$&'()*+,-./0123456789:;<=>?@ABCDEFGHIJKLMNOPQRSTUVWXYZ[\\]^_`abcdefghijklmnopqrstuvwxyz{|}~"
theorem sg_ok: ∀ c∈ch SG,32≤c∧c≤126∧c≠37:=by decide
theorem sg_len: (ch SG).length=94:=by decide
theorem lsign_of(n:Int): ∃ y,t_law_sign n=some y∧SOk y∧y.length=1:=by
  unfold t_law_sign
  rw[Option.bind_some]
  have h0:0≤n % 94:=Int.emod_nonneg _ (by omega)
  have h1:n % 94<94:=Int.emod_lt_of_pos _ (by omega)
  obtain⟨k,hk⟩:∃ k:Nat,n % 94=(k:Int):=⟨(n % 94).toNat,by omega⟩
  have k1:k<(ch SG).length:=by rw[sg_len];omega
  rw[hk]
  have e2:atS SG (k:Int)=some ⟨#[(ch SG)[k]]⟩:=by
    unfold atS
    rw[gd_of (by rw[← ch_len,sg_len];decide),atI_nat k1]
    rfl
  change ∃ y,((atS SG (k:Int)).bind fun ch=>some ch)=some y∧_
  rw[e2,Option.bind_some]
  refine⟨_,rfl,fun c m=>?_,rfl⟩
  have:c=(ch SG)[k]:=by simpa [ch] using m
  rw[this]
  exact sg_ok _ (List.getElem_mem _)
theorem text_of(row c:Int)(h0:0≤c)(h1:c≤1000): ∃ s,t_law_text row c=some s∧SOk s∧s.length=c.toNat:=by
  unfold t_law_text
  rw[Option.bind_some,gd_of (by omega),Option.bind_some]
  obtain⟨s',e,i1,i2⟩:=forS_ipre (tb:=t_law_text_l1) (fun pre (s:Str×Int)=>SOk s.1∧s.1.length=pre.length) (rangeI 0 c) (rangeI 0 c) [] (s:=(("":Str),row)) rfl ⟨fun c m=>(by cases m),rfl⟩ (by
    rintro pre x q ⟨s,rest⟩ exs ⟨i1,i2⟩
    unfold t_law_text_l1
    obtain⟨y,ey,y1,y2⟩:=lsign_of (rest / 7)
    have hl:pre.length≤1000:=by
      have:=congrArg List.length exs
      rw[length_rangeI,List.length_append,List.length_cons] at this
      omega
    dsimp only at i1 i2 ⊢
    rw[ey,Option.bind_some,catSO_of (by omega),Option.bind_some,Option.bind_some]
    refine⟨_,rfl,fun c m=>?_,?_⟩
    · dsimp only at m
      rw[ch_add] at m
      rcases List.mem_append.mp m with m | m
      · exact i1 c m
      · exact y1 c m
    · dsimp only
      rw[len_add,i2,y2,List.length_append,List.length_singleton])
  rw[e,Option.bind_some]
  refine⟨_,rfl,i1,?_⟩
  rw[i2,length_rangeI]
  omega
theorem ch_rep(s:Str): ∀ n:Nat,((List.replicate n s.cps).foldl (·++·) (#[]:Array Nat)).toList=(List.replicate n (ch s)).flatten:=by
  have gen:∀ (n:Nat) (a:Array Nat),((List.replicate n s.cps).foldl (·++·) a).toList=a.toList++(List.replicate n (ch s)).flatten:=by
    intro n
    induction n with
    | zero=>intro a;simp
    | succ n ih =>
      intro a
      rw[List.replicate_succ,List.foldl_cons,ih,List.replicate_succ,List.flatten_cons,Array.toList_append,List.append_assoc]
  intro n
  rw[gen]
  simp
theorem rep_of {s:Str} {c:Int} (h:SOk s) (hl:s.length=20) (k0:0≤c) (k1:c<20):∃ r,repO s c=some r∧SOk r∧r.length≤400:=by
  have key:SOk (repS s c)∧(repS s c).length≤400:=by
    unfold repS
    split
    · exact⟨fun c m=>(by cases m),by decide⟩
    · split
      · exact⟨h,by omega⟩
      · refine⟨fun x m=>?_,?_⟩
        · have m:x∈((List.replicate c.toNat s.cps).foldl (·++·) (#[]:Array Nat)).toList:=m
          rw[ch_rep] at m
          simp only[List.mem_flatten,List.mem_replicate] at m
          obtain⟨l,⟨_,rfl⟩,m⟩:=m
          exact h x m
        · rw[← ch_len]
          show(((List.replicate c.toNat s.cps).foldl (·++·) (#[]:Array Nat)).toList).length≤400
          rw[ch_rep]
          have:(List.replicate c.toNat (ch s)).flatten.length=c.toNat*20:=by
            simp
            rw[show s.cps.size=20 from hl]
          rw[this]
          omega
  refine⟨_,gd_of ⟨k0,by omega,by omega,by have:=key.2;omega⟩,key⟩
def bB: Nat→Nat
  | 0=>30
  | k+1=>2+(bB k+1)*4
theorem DOk.mono{k k' B B':Nat}{v:V}(h:DOk k B v)(hk:k≤k')(hB:B≤B'): DOk k' B' v:=⟨h.ok,Nat.le_trans h.dp hk,Nat.le_trans h.l hB⟩
theorem bB_le: ∀ k,30≤bB k
  | 0=>Nat.le_refl _
  | k+1=>by rw[bB];have:=bB_le k;omega
theorem non_ok: DOk 0 20 ⟨Dat.non,Nat.le_of_ble_eq_true rfl⟩:=⟨by show Okd .non;rw[Okd];trivial,by show Dat.non.dep≤0;rw[Dat.dep];exact Nat.le_refl 0,by show(wr .non).length≤20;rw[wr];decide⟩
theorem data_of:∀ (dp k:Nat) (n:Int),k<dp→k<40→∃ v n',tf_law_data dp [n] (k:Int)=some (v,[n'])∧DOk k (bB k) v
  | 0,k,n,h,_=>absurd h (Nat.not_lt_zero _)
  | dp + 1, k,n,hk,h40=>by
    have hb:=bB_le k
    show ∃ v n',tr_law_data (tf_law_data dp) [n] (k:Int)=some (v,[n'])∧_
    unfold tr_law_data
    obtain⟨d,n1,e1,d0,d1⟩:=t_take n 7 (by omega) (by omega)
    rw[e1,Option.bind_some]
    dsimp only
    by_cases c1:d=0
    · rw[if_pos (decide_eq_true c1)]
      exact⟨_,_,rfl,non_ok.mono (Nat.zero_le _) (by omega)⟩
    · rw[if_neg (by simpa using c1)]
      by_cases c2:d<3
      · rw[if_pos (decide_eq_true c2)]
        obtain⟨i,n2,e2,i1⟩:=integer_of n1
        rw[e2,Option.bind_some]
        exact⟨_,_,rfl,(int_ok i1).mono (Nat.zero_le _) (by omega)⟩
      · rw[if_neg (by simpa using c2)]
        by_cases c3:((decide (d=(3:Int)))||(decide ((k:Int)=(0:Int))))=true
        · rw[if_pos c3]
          obtain⟨a,n2,e2,_,_⟩:=t_take n1 1000000000000 (by omega) (by omega)
          obtain⟨c,n3,e3,k0,k1⟩:=t_take n2 9 (by omega) (by omega)
          obtain⟨s,e4,s1,s2⟩:=text_of a c k0 (by omega)
          rw[e2,Option.bind_some]
          dsimp only
          rw[e3,Option.bind_some]
          dsimp only
          rw[e4,Option.bind_some]
          exact⟨_,_,rfl,(str_ok (n:=9) s1 (by omega) (by decide)).mono (Nat.zero_le _) (by omega)⟩
        · rw[if_neg c3]
          obtain⟨k,rfl⟩:∃ j,k=j+1:=by
            cases k with
            | zero=>exact absurd (by simp) c3
            | succ j=>exact⟨j,rfl⟩
          obtain⟨c,n2,e2,k0,k1⟩:=t_take n1 5 (by omega) (by omega)
          rw[e2,Option.bind_some]
          dsimp only
          rw[gd_of (by omega),Option.bind_some]
          obtain⟨s',e,⟨m,i0⟩,i1,i2⟩:=forS_ipre (tb:=t_law_data_l1 (tf_law_data dp) ((k+1:Nat):Int)) (fun pre (s:List Int×List V)=>(∃ m,s.1=[m])∧(∀ v∈s.2,DOk k (bB k) v)∧s.2.length=pre.length) (rangeI 0 c) (rangeI 0 c) [] (s:=([n2],([]:List V))) rfl ⟨⟨_,rfl⟩,fun v m=>(by cases m),rfl⟩ (by
            rintro pre x q ⟨s,items⟩ exs ⟨⟨m,i0⟩,i1,i2⟩
            dsimp only at i0 i1 i2
            subst i0
            have hl:pre.length≤4:=by
              have:=congrArg List.length exs
              rw[length_rangeI,List.length_append,List.length_cons] at this
              omega
            unfold t_law_data_l1
            obtain⟨v,m',ev,v1⟩:=data_of dp k m (by omega) (by omega)
            dsimp only
            rw[show((k+1:Nat):Int) - 1=(k:Int) by omega,ev,Option.bind_some,appO_eq (by omega),Option.bind_some]
            refine⟨_,rfl,⟨_,rfl⟩,fun w mw=>?_,?_⟩
            · rcases List.mem_append.mp mw with mw | mw
              · exact i1 w mw
              · rw[List.mem_singleton.mp mw];exact v1
            · rw[List.length_append,i2,List.length_append];rfl)
          rw[e,Option.bind_some,i0]
          obtain⟨v,ev,v1⟩:=tup_ok (n:=4) (by omega) i1 (by rw[i2,length_rangeI];omega) (by decide)
          rw[ev,Option.bind_some]
          exact⟨_,_,rfl,v1⟩
theorem drawn_of (row:Int):∃ v,t_law_drawn row=some v∧DOk 40 20000 v:=by
  unfold t_law_drawn
  obtain⟨d,n1,e1,d0,d1⟩:=t_take row 9 (by omega) (by omega)
  rw[e1,Option.bind_some]
  dsimp only
  by_cases c1:d=0
  · rw[if_pos (decide_eq_true c1)]
    obtain⟨i,n2,e2,i1⟩:=integer_of n1
    obtain⟨c,n3,e3,k0,k1⟩:=t_take n2 41 (by omega) (by omega)
    rw[e2,Option.bind_some]
    dsimp only
    rw[e3,Option.bind_some]
    dsimp only
    rw[gd_of (by omega),Option.bind_some]
    obtain⟨v,e,v1⟩:=forS_ipre (tb:=t_law_drawn_l1) (fun pre (s:V)=>DOk pre.length (20+3*pre.length) s) (rangeI 0 c) (rangeI 0 c) [] (s:=(⟨Dat.int i,Nat.le_of_ble_eq_true rfl⟩:V)) rfl (int_ok i1) (by
      rintro pre x q s exs hs
      have hl:pre.length<41:=by
        have:=congrArg List.length exs
        rw[length_rangeI,List.length_append,List.length_cons] at this
        omega
      unfold t_law_drawn_l1
      obtain⟨v,ev,v1⟩:=tup_ok (vs:=[s]) (k:=pre.length) (n:=1) (by omega) (fun v m=>by rw[List.mem_singleton.mp m];exact hs) (by simp) (by decide)
      rw[show mkV (Dat.tup [s.d])=some v from ev,Option.bind_some]
      refine⟨_,rfl,?_⟩
      rw[List.length_append,List.length_singleton]
      exact v1.mono (Nat.le_refl _) (by omega))
    rw[e,Option.bind_some]
    rw[length_rangeI] at v1
    exact⟨_,rfl,v1.mono (by omega) (by omega)⟩
  · rw[if_neg (by simpa using c1)]
    by_cases c2:d=1
    · rw[if_pos (decide_eq_true c2)]
      obtain⟨i,n2,e2,i0,i1⟩:=t_take n1 3 (by omega) (by omega)
      obtain⟨c,n3,e3,k0,k1⟩:=t_take n2 300 (by omega) (by omega)
      rw[e2,Option.bind_some]
      dsimp only
      rw[e3,Option.bind_some]
      dsimp only
      rw[repLO_eq (by simp;omega),Option.bind_some]
      have hr:∀ z∈(List.replicate c.toNat [i]).flatten,z=i:=fun z m=>by
        simp only[List.mem_flatten,List.mem_replicate] at m
        obtain⟨l,⟨_,rfl⟩,m⟩:=m
        simpa using m
      have hl:((List.replicate c.toNat [i]).flatten).length≤300:=by simp;omega
      refine⟨_,rfl,?_,?_,?_⟩
      · dsimp only
        rw[Okd]
        refine⟨by rw[List.length_map];omega,Oks_of fun e m=>?_⟩
        obtain⟨z,mz,rfl⟩:=List.mem_map.mp m
        rw[hr z mz,Okd]
        omega
      · exact Nat.le_trans (dep_T (deps_map (fun z=>Nat.le_refl 0) _)) (by decide)
      · dsimp only
        refine Nat.le_trans pl_tup ?_
        have:=pls_le (B:=20) (ds:=((List.replicate c.toNat [i]).flatten).map fun z=>Dat.int z) fun e m=>by
          obtain⟨z,mz,rfl⟩:=List.mem_map.mp m
          rw[hr z mz]
          exact pl_int (by rw[Okd];omega)
        rw[List.length_map] at this
        omega
    · rw[if_neg (by simpa using c2)]
      by_cases c3:d=2
      · rw[if_pos (decide_eq_true c3)]
        obtain⟨a,n2,e2,_,_⟩:=t_take n1 1000000000000000 (by omega) (by omega)
        obtain⟨s,e3,s1,s2⟩:=text_of a 20 (by omega) (by omega)
        obtain⟨c,n3,e4,k0,k1⟩:=t_take n2 20 (by omega) (by omega)
        rw[e2,Option.bind_some]
        dsimp only
        rw[e3,Option.bind_some,e4,Option.bind_some]
        dsimp only
        obtain⟨r,er,r1,r2⟩:=rep_of s1 (show s.length=20 by rw[s2];rfl) k0 k1
        rw[er,Option.bind_some]
        exact⟨_,rfl,(str_ok (n:=400) r1 r2 (by decide)).mono (Nat.zero_le _) (by omega)⟩
      · rw[if_neg (by simpa using c3)]
        obtain⟨v1,n2,e2,h1⟩:=data_of 50 3 n1 (by omega) (by omega)
        obtain⟨v2,n3,e3,h2⟩:=data_of 50 3 n2 (by omega) (by omega)
        obtain⟨v3,n4,e4,h3⟩:=data_of 50 2 n3 (by omega) (by omega)
        unfold t_law_data
        rw[show tf_law_data 50 [n1] 3=some (v1,[n2]) from e2,Option.bind_some]
        dsimp only
        rw[show tf_law_data 50 [n2] 3=some (v2,[n3]) from e3,Option.bind_some]
        dsimp only
        rw[show tf_law_data 50 [n3] 2=some (v3,[n4]) from e4,Option.bind_some]
        obtain⟨v,ev,hv⟩:=tup_ok (vs:=[v1,v2,v3]) (k:=3) (B:=bB 3) (n:=3) (by omega) (fun v m=>by
          simp only[List.mem_cons,List.not_mem_nil,or_false] at m
          rcases m with rfl | rfl | rfl
          · exact h1
          · exact h2
          · exact h3.mono (by omega) (by decide)) (by simp) (by decide)
        rw[show mkV (Dat.tup [v1.d,v2.d,v3.d])=some v from ev,Option.bind_some]
        exact⟨_,rfl,hv.mono (by omega) (by decide)⟩
end Gen
namespace Gen
open PySem E Y
open L2 (atI ixN)
theorem lenV_tup{v:V}{xs:List Dat}(e:v.d=.tup xs): lenV v=some (xs.length:Int):=by unfold lenV;rw[e]
theorem alike_eq:∀ (dp:Nat) (v:V),v.d.dep<dp→Okd v.d→tf_law_alike dp v v=some true
  | 0,v,h,_=>absurd h (Nat.not_lt_zero _)
  | dp+1,v,h,ok=>by
    show tr_law_alike (tf_law_alike dp) v v=_
    unfold tr_law_alike
    have hd:∃ d,v.d=d:=⟨_,rfl⟩
    obtain⟨d,hd⟩:=hd
    rw[hd] at h ok
    cases d with
    | non =>
      have:v.isNone=true:=by unfold V.isNone;rw[hd];rfl
      rw[if_pos this,this]
    | int i =>
      have e1:V.sel v false true false false=true:=by unfold V.sel;rw[hd];rfl
      have e2:V.sel v false false false false=false:=by unfold V.sel;rw[hd];rfl
      rw[if_neg (nn_int hd),if_pos e1,e1,e2,decide_eq_true rfl]
      rfl
    | str s =>
      have e1:V.sel v false false true false=true:=by unfold V.sel;rw[hd];rfl
      rw[if_neg (nn_str hd),if_neg (by unfold V.sel;rw[hd];simp[Dat.sel]),if_pos e1,e1,decide_eq_true rfl]
      rfl
    | tup ds =>
      rw[Okd] at ok
      have e1:V.sel v false false false true=true:=by unfold V.sel;rw[hd];rfl
      rw[if_neg (nn_tup hd),if_neg (by unfold V.sel;rw[hd];simp[Dat.sel]),if_neg (by unfold V.sel;rw[hd];simp[Dat.sel]),if_neg (by rw[e1];simp),lenV_tup hd,Option.bind_some,Option.bind_some,Option.bind_some,if_neg (by simp),Option.bind_some,gd_of (by omega),Option.bind_some]
      have loop:forE (t_law_alike_l1 (tf_law_alike dp) v v) (rangeI 0 (ds.length:Int)) ()=some (.go ()):=forE_all fun k mk=>by
        obtain⟨k0,k1⟩:=mem_rangeI.mp mk
        obtain⟨j,rfl⟩:∃ j:Nat,k=(j:Int):=⟨k.toNat,by omega⟩
        obtain⟨w,ew,hw⟩:=atV_of' hd (show j<ds.length by omega)
        have m:w.d∈ds:=by rw[hw];exact List.getElem_mem _
        unfold t_law_alike_l1
        rw[ew,Option.bind_some,Option.bind_some,alike_eq dp w (by have:=dep_mem m;omega) (Oks.mem ok.2 _ m),Option.bind_some,if_neg (by simp)]
      rw[loop]
      rfl
def AB: Str:="abcdefghijklmnopqrstuvwxyz"
def WOk(s:Str): Prop:=∀ c∈ch s,97≤c∧c≤122
theorem ab_len: (ch AB).length=26:=by decide
theorem letter_of(n:Int): ∃ y,atS AB (n % 26)=some y∧WOk y∧y.length=1:=by
  have h0:0≤n % 26:=Int.emod_nonneg _ (by omega)
  have h1:n % 26<26:=Int.emod_lt_of_pos _ (by omega)
  obtain⟨k,hk⟩:∃ k:Nat,n % 26=(k:Int):=⟨(n % 26).toNat,by omega⟩
  have k1:k<(ch AB).length:=by rw[ab_len];omega
  rw[hk]
  have e2:atS AB (k:Int)=some ⟨#[(ch AB)[k]]⟩:=by
    unfold atS
    rw[gd_of (by rw[← ch_len,ab_len];decide),atI_nat k1]
    rfl
  refine⟨_,e2,fun c m=>?_,rfl⟩
  have:c=(ch AB)[k]:=by simpa [ch] using m
  rw[this]
  exact let_tbl.mp (List.getElem_mem k1)
theorem word_of(row c:Int)(h0:1≤c)(h1:c≤12): ∃ s,t_law_word row c=some s∧WOk s∧s.length=c.toNat:=by
  unfold t_law_word
  rw[Option.bind_some,Option.bind_some,gd_of (by omega),Option.bind_some]
  obtain⟨s',e,i1,i2⟩:=forS_ipre (tb:=t_law_word_l1 AB) (fun pre (s:Str×Int)=>WOk s.1∧s.1.length=pre.length) (rangeI 0 c) (rangeI 0 c) [] (s:=(("":Str),row)) rfl ⟨fun c m=>(by cases m),rfl⟩ (by
    rintro pre x q ⟨s,rest⟩ exs ⟨i1,i2⟩
    unfold t_law_word_l1
    obtain⟨y,ey,y1,y2⟩:=letter_of rest
    have hl:pre.length≤12:=by
      have:=congrArg List.length exs
      rw[length_rangeI,List.length_append,List.length_cons] at this
      omega
    dsimp only at i1 i2 ⊢
    rw[ey,Option.bind_some,catSO_of (by omega),Option.bind_some,Option.bind_some]
    refine⟨_,rfl,fun c m=>?_,?_⟩
    · dsimp only at m
      rw[ch_add] at m
      rcases List.mem_append.mp m with m | m
      · exact i1 c m
      · exact y1 c m
    · dsimp only
      rw[len_add,i2,y2,List.length_append,List.length_singleton])
  change ∃ s,((forS (t_law_word_l1 AB) (rangeI 0 c) (("":Str),row)).bind fun s1=>some s1.1)=some s∧_
  rw[e,Option.bind_some]
  refine⟨_,rfl,i1,?_⟩
  rw[i2,length_rangeI]
  omega
structure CallOk (v:V) (w:Str) (ds:List Dat):Prop where
  d:v.d=.tup (.str w::ds)
  w1:WOk w
  w2:1≤w.length∧w.length≤12
  ok:Oks ds
  dp:deps ds≤40
  ln:ds.length≤4
  wl:(wrt ds).length≤80100
theorem call_of (row:Int):∃ v w ds,t_law_call row=some v∧CallOk v w ds:=by
  unfold t_law_call
  obtain⟨a,n1,e1,_,_⟩:=t_take row 1000000000000 (by omega) (by omega)
  obtain⟨c,n2,e2,c0,c1⟩:=t_take n1 12 (by omega) (by omega)
  obtain⟨w,e3,w1,w2⟩:=word_of a (1+c) (by omega) (by omega)
  obtain⟨j,n3,e4,j0,j1⟩:=t_take n2 5 (by omega) (by omega)
  rw[e1,Option.bind_some]
  dsimp only
  rw[e2,Option.bind_some]
  dsimp only
  rw[e3,Option.bind_some,Option.bind_some,e4,Option.bind_some]
  dsimp only
  obtain⟨it,ei,i0,i1⟩:∃ it,atI [(0:Int),(1:Int),(2:Int),(3:Int),(1:Int)] j=some it∧0≤it∧it≤3:=by
    have:j=0∨j=1∨j=2∨j=3∨j=4:=by omega
    rcases this with rfl | rfl | rfl | rfl | rfl
    · exact⟨0,rfl,by omega,by omega⟩
    · exact⟨1,rfl,by omega,by omega⟩
    · exact⟨2,rfl,by omega,by omega⟩
    · exact⟨3,rfl,by omega,by omega⟩
    · exact⟨1,rfl,by omega,by omega⟩
  rw[ei,Option.bind_some,gd_of (by omega),Option.bind_some]
  let vw:V:=⟨Dat.str w,Nat.le_of_ble_eq_true rfl⟩
  obtain⟨s',e,⟨m,k0⟩,vs,k1,k2,k3⟩:=forS_ipre (tb:=t_law_call_l1) (fun pre (s:List Int×List V)=>(∃ m,s.1=[m])∧∃ vs:List V,s.2=vw::vs∧(∀ v∈vs,DOk 40 20000 v)∧vs.length=pre.length) (rangeI 0 it) (rangeI 0 it) [] (s:=([n3],[vw])) rfl ⟨⟨_,rfl⟩,[],rfl,fun v m=>(by cases m),rfl⟩ (by
    rintro pre x q ⟨s,items⟩ exs ⟨⟨m,i0⟩,vs,i1,i2,i3⟩
    dsimp only at i0 i1
    subst i0 i1
    have hl:pre.length≤3:=by
      have:=congrArg List.length exs
      rw[length_rangeI,List.length_append,List.length_cons] at this
      omega
    unfold t_law_call_l1 t_law_data
    obtain⟨v,m',ev,v1⟩:=data_of 50 3 m (by omega) (by omega)
    dsimp only
    rw[show tf_law_data 50 [m] 3=some (v,[m']) from ev,Option.bind_some,appO_eq (by rw[List.length_cons];omega),Option.bind_some]
    refine⟨_,rfl,⟨_,rfl⟩,vs++[v],rfl,fun y my=>?_,by simp[i3]⟩
    rcases List.mem_append.mp my with my | my
    · exact i2 y my
    · rw[List.mem_singleton.mp my];exact v1.mono (by omega) (by decide))
  have e':forS t_law_call_l1 (rangeI 0 it) ([n3],([w].map fun z=>(⟨Dat.str z,Nat.le_of_ble_eq_true rfl⟩:V)))=some s':=e
  rw[e',Option.bind_some,k0]
  obtain⟨z,n4,e5,_,_⟩:=t_take m 6 (by omega) (by omega)
  rw[e5,Option.bind_some]
  dsimp only
  rw[length_rangeI] at k3
  obtain⟨us,eu,u1,u2⟩:∃ us:List V,(if decide (z=(0:Int))=true then (atI [n4] (0:Int)).bind fun it1=>(t_law_drawn it1).bind fun o_drawn=>(appO s'.2 o_drawn).bind fun call3=>some call3 else some s'.2)=some (vw::us)∧(∀ v∈us,DOk 40 20000 v)∧us.length≤4:=by
    by_cases cz:z=0
    · obtain⟨v,ev,v1⟩:=drawn_of n4
      rw[if_pos (decide_eq_true cz),atI_0,Option.bind_some,ev,Option.bind_some,k1,appO_eq (by rw[List.length_cons];omega),Option.bind_some]
      refine⟨vs++[v],rfl,fun y my=>?_,by rw[List.length_append,List.length_singleton];omega⟩
      rcases List.mem_append.mp my with my | my
      · exact k2 y my
      · rw[List.mem_singleton.mp my];exact v1
    · rw[if_neg (by simpa using cz),k1]
      exact⟨vs,rfl,k2,by omega⟩
  rw[eu,Option.bind_some]
  have hdep:deps (us.map (·.d))≤40:=deps_all fun x mx=>by
    obtain⟨y,my,rfl⟩:=List.mem_map.mp mx
    exact(u1 y my).dp
  have hdd:(Dat.tup ((vw::us).map fun z=>z.d)).dep≤48:=by
    rw[List.map_cons,Dat.dep,deps]
    have:vw.d.dep=0:=by show(Dat.str w).dep=0;rw[Dat.dep]
    omega
  rw[mkV_of hdd,Option.bind_some]
  refine⟨_,w,us.map (·.d),rfl,rfl,w1,by omega,Oks_of fun x mx=>?_,hdep,by rw[List.length_map];exact u2,?_⟩
  · obtain⟨y,my,rfl⟩:=List.mem_map.mp mx
    exact(u1 y my).ok
  · have key:∀ ds:List Dat,(∀ d∈ds,(wr d).length≤20000)→(wrt ds).length≤20001*ds.length:=by
      intro ds
      induction ds with
      | nil=>intro _;rw[wrt];simp
      | cons d ds ih =>
        intro h
        have h1:=h d (List.mem_cons_self ..)
        have h2:=ih fun e m=>h e (List.mem_cons_of_mem _ m)
        rw[wrt,List.length_cons,List.length_append,List.length_cons,Nat.mul_succ]
        omega
    have:=key (us.map (·.d)) fun d md=>by
      obtain⟨y,my,rfl⟩:=List.mem_map.mp md
      exact(u1 y my).l
    rw[List.length_map] at this
    omega
section
variable {v:V} {w:Str} {ds:List Dat} (C:CallOk v w ds)
include C
theorem its_call: ∃ (vw:V) (vs:List V),vw.d=.str w∧vs.map (·.d)=ds∧invO e_QV (e_V v)=some (vw::vs)∧atV v 0=some vw:=by
  obtain⟨us,h1,_⟩:=its_of (ds:=.str w::ds) (by rw[← C.d];exact v.h)
  cases us with
  | nil=>cases h1
  | cons vw vs =>
    rw[List.map_cons] at h1
    injection h1 with h1 h2
    obtain⟨x,ex,hx⟩:=atV_of' C.d (show 0<(Dat.str w::ds).length by simp)
    have:x=vw:=V.ext' (by rw[hx,h1];rfl)
    subst this
    exact⟨x,vs,h1,h2,inv_tup C.d (by rw[List.map_cons,h1,h2]),ex⟩
theorem cut_1{α:Type}(a:α)(l:List α): cutL (a::l) (some (1:Int)) none=l:=by
  have e:HT.sIx (a::l).length 0 (some (1:Int))=1:=by
    have:=HT.sIx_nat (a::l).length 0 1
    rw[List.length_cons] at this ⊢
    rw[show(some (1:Int))=some ((1:Nat):Int) from rfl,this]
    omega
  unfold cutL
  rw[e,HT.sIx_none]
  simp
theorem line_eq: t_law_line v=some (St (ch w++wrt ds)):=by
  obtain⟨vw,vs,h1,h2,h3,h4⟩:=its_call C
  have lv:vs.length=ds.length:=by rw[← h2,List.length_map]
  have lb:=C.ln
  have wl:=C.wl
  have w2:=C.w2
  have dp:=C.dp
  unfold t_law_line
  rw[h4,Option.bind_some,h3,Option.bind_some,cut_1 C,lcOg_eq (by omega),lcO_map (f:=fun x:V=>St (wr x.d)) fun x mx=>by
    have m2:x.d∈ds:=by rw[← h2];exact List.mem_map_of_mem mx
    have:=wr_mem x.d m2
    have:=wrt_len ds
    have:=deps_mem m2
    unfold t_law_line_c1
    rw[show t_law_written x=some (St (wr x.d)) from law_written_eq 50 x (by omega) (Oks.mem C.ok _ m2) (by omega)]
    rfl]
  have e1:(vs.map fun x:V=>St (wr x.d))=ds.map fun d=>St (wr d):=by rw[← h2,List.map_map];rfl
  rw[Option.bind_some,e1,catO_eq (by simp;omega),Option.bind_some]
  have e2:e_MV ([vw]++((ds.map fun d=>St (wr d)).map fun z=>(⟨Dat.str z,Nat.le_of_ble_eq_true rfl⟩:V)))=e_MS (w::ds.map fun d=>St (wr d)):=by
    show D.lst true (List.map e_V _)=D.lst true (List.map D.str _)
    congr 1
    rw[List.singleton_append,List.map_cons,List.map_cons,List.map_map]
    congr 1
    unfold e_V;rw[h1,Dat.toD]
  rw[e2,invO_eq (inj_L inj_str),Option.bind_some]
  have e3:joinO (" ":Str) (w::ds.map fun d=>St (wr d))=some (St (ch w++wrt ds)):=by
    have h1:=sum_wr ds
    have h3:(" ":Str).length=1:=by decide
    unfold joinO
    rw[if_pos (by rw[List.length_cons,List.length_map,h3,List.map_cons,List.sum_cons];omega),TL.join_eq]
    congr 1
    refine ch_inj ?_
    rw[show ch (St (ch w++wrt ds))=ch w++wrt ds from ch_St _]
    cases ds with
    | nil=>rw[wrt,List.append_nil];rfl
    | cons d r =>
      rw[List.map_cons,ch_join _ _ _ (by simp),(join_b r).2 d,chb,wrt]
      simp
  rw[e3]
  rfl
end
end Gen
set_option pp.maxSteps 200
namespace Gen
open PySem E Y
open L2 (atI ixN)
def isd(c:Nat): Bool:=decide (48≤c)&&decide (c≤57)
def isl(c:Nat): Bool:=decide (97≤c)&&decide (c≤122)
def okn(c:Nat): Bool:=(decide (32≤c)&&decide (c≤126))&&!decide (c=37)
theorem isd_iff{c:Nat}: isd c=true↔48≤c∧c≤57:=by simp[isd]
theorem isl_iff{c:Nat}: isl c=true↔97≤c∧c≤122:=by simp[isl]
theorem okn_iff{c:Nat}: okn c=true↔32≤c∧c≤126∧c≠37:=by simp[okn,and_assoc]
def txR: List Nat→Option (List Nat×List Nat)
  | []=>none
  | [c]=>if c=34 then some ([],[]) else none
  | c::d::r=>if c=34 then (if d=34 then (txR r).bind fun q=>some (34::q.1,q.2) else some ([],d::r)) else (txR (d::r)).bind fun q=>some (c::q.1,q.2)
def txtR(u:List Nat): Option (Dat×List Nat):=(txR u).bind fun q=>if q.1.all okn=true then some (.str (St q.1),q.2) else none
def val(ds:List Nat): Int:=((NumText.digitsVal ds:Nat):Int)
def nuR(u:List Nat)(neg:Bool): Option (Dat×List Nat) :=
  if u.takeWhile isd=[] then (if neg=true then some (.non,u.dropWhile isd) else none)
  else if 19<(u.takeWhile isd).length∨(u.head?=some 48∧(neg=true∨1<(u.takeWhile isd).length))∨1000000000000000000<val (u.takeWhile isd) then none
  else some (.int (if neg=true then -val (u.takeWhile isd) else val (u.takeWhile isd)),u.dropWhile isd)
def plR: List Nat→Option (Dat×List Nat)
  | []=>none
  | c::r=>if c=34 then txtR r else if c=45 then nuR r true else nuR (c::r) false
def sqR (f:List Nat→Option (Dat×List Nat)):Nat→List Nat→Option (List Dat×List Nat)
  | 0,_=>none
  | n+1,u=>(f u).bind fun a=>match a.2 with
    | []=>none
    | c::r=>if c=41 then some ([a.1],r) else if c=32 then (sqR f n r).bind fun b=>some (a.1::b.1,b.2) else none
def itX(tf:List Nat→Option (Dat×List Nat)): List Nat→Option (Dat×List Nat)
  | []=>none
  | c::r=>if c=40 then tf r else plR (c::r)
def tpR(f:List Nat→Option (Dat×List Nat))(r:List Nat): Option (Dat×List Nat):=if r.head?=some 41 then some (.tup [],r.tail) else (sqR f (r.length+1) r).bind fun q=>some (.tup q.1,q.2)
def itR: Nat→List Nat→Option (Dat×List Nat)
  | 0=>itX fun _=>none
  | d+1=>itX fun r=>tpR (itR d) r
def clR:Nat→List Nat→Option (List Dat)
  | 0,u=>if u=[] then some [] else none
  | n+1,u=>match u with
    | []=>some []
    | c::r=>if c=32 then (itR 40 r).bind fun a=>(clR n a.2).bind fun b=>some (a.1::b) else none
structure Fit (d:Nat) (x:Dat) (u q:List Nat):Prop where
  sf:q <:+ u
  lt:q.length<u.length
  dp:x.dep≤d
  ok:Okd x
theorem tx_fit:∀ {u cs q:List Nat},txR u=some (cs,q)→u=StrLaws.dbl 34 cs++34::q
  | [],_,_,h=>by cases h
  | [c],cs,q,h=>by
    rw[txR] at h
    split at h
    · rename_i e
      cases h
      subst e
      rfl
    · cases h
  | c :: d::r,cs,q,h=>by
    rw[txR] at h
    split at h
    · rename_i e
      subst e
      split at h
      · rename_i e
        subst e
        obtain⟨⟨cs1,q1⟩,e1,h⟩:=Option.bind_eq_some_iff.mp h
        cases h
        rw[tx_fit e1]
        simp[StrLaws.dbl]
      · cases h
        rfl
    · rename_i e
      obtain⟨⟨cs1,q1⟩,e1,h⟩:=Option.bind_eq_some_iff.mp h
      cases h
      rw[tx_fit e1]
      simp[StrLaws.dbl,e]
theorem dw_sf(p:Nat→Bool)(u:List Nat): u.dropWhile p <:+ u:=List.dropWhile_suffix p
theorem tw_dw(p:Nat→Bool)(u:List Nat): u.takeWhile p++u.dropWhile p=u:=List.takeWhile_append_dropWhile
theorem tw_all{p:Nat→Bool}: ∀ {u:List Nat},∀ c∈u.takeWhile p,p c=true
  | [],c,m=>by cases m
  | x :: u,c,m=>by
    rw[List.takeWhile_cons] at m
    split at m
    · rename_i hx
      rcases List.mem_cons.mp m with rfl | m
      · exact hx
      · exact tw_all c m
    · cases m
theorem dw_head{p:Nat→Bool}: ∀ {u:List Nat} {c:Nat} {t:List Nat},u.dropWhile p=c::t→p c=false
  | [],c,t,h=>by cases h
  | x :: u,c,t,h=>by
    rw[List.dropWhile_cons] at h
    split at h
    · exact dw_head h
    · rename_i hx
      cases h
      simpa using hx
theorem nu_fit{u:List Nat}{neg:Bool}{x:Dat}{q:List Nat}(h:nuR u neg=some (x,q)): q <:+ u∧(neg=false→q.length<u.length)∧x.dep≤0∧Okd x:=by
  have hl:=congrArg List.length (tw_dw isd u)
  rw[List.length_append] at hl
  unfold nuR at h
  split at h
  · split at h
    · rename_i hn
      cases h
      exact⟨dw_sf _ _,fun z=>(by rw[hn] at z;cases z),by rw[Dat.dep];omega,by rw[Okd];trivial⟩
    · cases h
  · rename_i h0
    split at h
    · cases h
    · rename_i hv
      cases h
      have hp:=List.length_pos_iff.mpr h0
      refine⟨dw_sf _ _,fun _=>by omega,by rw[Dat.dep];omega,?_⟩
      rw[Okd]
      have h1:¬ 1000000000000000000<val (u.takeWhile isd):=fun z=>hv (.inr (.inr z))
      have h2:0≤val (u.takeWhile isd):=Int.natCast_nonneg _
      split <;> omega
theorem pl_fit {u:List Nat} {x:Dat} {q:List Nat} (hl:u.length≤1000000) (h:plR u=some (x,q)):Fit 0 x u q:=by
  cases u with
  | nil=>cases h
  | cons c r =>
    rw[List.length_cons] at hl
    rw[plR] at h
    split at h
    · obtain⟨⟨cs,q1⟩,e1,h⟩:=Option.bind_eq_some_iff.mp h
      dsimp only at h
      split at h
      · rename_i ha
        cases h
        have e:=tx_fit e1
        have hd:=congrArg List.length e
        rw[List.length_append,List.length_cons] at hd
        have dl:=dbl_le cs
        refine⟨List.IsSuffix.trans (l₂:=r) ⟨StrLaws.dbl 34 cs++[34],by rw[e];simp⟩ (List.suffix_cons _ _),by rw[List.length_cons];omega,by rw[Dat.dep];omega,?_⟩
        rw[Okd,St_len]
        refine⟨by omega,fun c m=>okn_iff.mp ?_⟩
        rw[List.all_eq_true] at ha
        exact ha c (by rw[show(St cs).cps.toList=cs from ch_St cs] at m;exact m)
      · cases h
    · split at h
      · obtain⟨h1,h2,h3,h4⟩:=nu_fit h
        exact⟨h1.trans (List.suffix_cons _ _),by have:=h1.length_le;rw[List.length_cons];omega,h3,h4⟩
      · obtain⟨h1,h2,h3,h4⟩:=nu_fit h
        exact⟨h1,h2 rfl,h3,h4⟩
theorem sq_fit {d:Nat} {f:List Nat→Option (Dat×List Nat)} (hf:∀ {u x q},u.length≤1000000→f u=some (x,q)→Fit d x u q):∀ {n:Nat} {u:List Nat} {xs:List Dat} {q:List Nat},u.length≤1000000→sqR f n u=some (xs,q)→q <:+ u∧xs.length+q.length≤u.length∧q.length<u.length∧(∀ x∈xs,x.dep≤d)∧Oks xs
  | 0,u,xs,q,_,e=>by cases e
  | n + 1,u,xs,q,hl,e=>by
    rw[sqR] at e
    obtain⟨⟨x,q1⟩,e1,e⟩:=Option.bind_eq_some_iff.mp e
    have k:=hf hl e1
    have l1:=k.lt
    dsimp only at e
    cases q1 with
    | nil=>cases e
    | cons c r =>
      rw[List.length_cons] at l1
      dsimp only at e
      have sr:r <:+ u:=(List.suffix_cons c r).trans k.sf
      split at e
      · cases e
        exact⟨sr,by show 1+_≤_;omega,by omega,fun y m=>by rw[List.mem_singleton.mp m];exact k.dp,by rw[Oks,Oks];exact⟨k.ok,trivial⟩⟩
      · split at e
        · obtain⟨⟨ys,q2⟩,e2,e⟩:=Option.bind_eq_some_iff.mp e
          cases e
          obtain⟨h1,h2,h3,h4,h5⟩:=sq_fit hf (by omega) e2
          refine⟨h1.trans sr,by show(x::ys).length+q2.length≤_;rw[List.length_cons];omega,by show q2.length<_;omega,fun y m=>?_,by rw[Oks];exact⟨k.ok,h5⟩⟩
          rcases List.mem_cons.mp m with rfl | m
          · exact k.dp
          · exact h4 y m
        · cases e
theorem tp_fit{d:Nat}{f:List Nat→Option (Dat×List Nat)}(hf:∀ {u x q},u.length≤1000000→f u=some (x,q)→Fit d x u q){r:List Nat}{x:Dat}{q:List Nat}(hl:r.length≤1000000)(e:tpR f r=some (x,q)): Fit (d+1) x (40::r) q:=by
  unfold tpR at e
  split at e
  · cases e
    exact⟨(List.tail_suffix r).trans (List.suffix_cons _ _),by have:=(List.tail_suffix r).length_le;rw[List.length_cons];omega,by rw[Dat.dep,deps];omega,by rw[Okd];exact⟨by simp,by rw[Oks];trivial⟩⟩
  · obtain⟨⟨xs,q1⟩,e1,e⟩:=Option.bind_eq_some_iff.mp e
    cases e
    obtain⟨h1,h2,h3,h4,h5⟩:=sq_fit hf hl e1
    exact⟨h1.trans (List.suffix_cons _ _),by show q1.length<_;rw[List.length_cons];omega,dep_T (deps_all h4),by rw[Okd];exact⟨by show xs.length≤_;omega,h5⟩⟩
theorem it_fit: ∀ {d:Nat} {u:List Nat} {x:Dat} {q:List Nat},u.length≤1000000→itR d u=some (x,q)→Fit d x u q
  | 0,[],x,q,_,e=>by cases e
  | 0,c::r,x,q,hl,e=>by
    have e:(if c=40 then none else plR (c::r))=some (x,q):=e
    split at e
    · cases e
    · exact pl_fit hl e
  | d+1,[],x,q,_,e=>by cases e
  | d + 1,c::r,x,q,hl,e=>by
    have e:(if c=40 then tpR (itR d) r else plR (c::r))=some (x,q):=e
    rw[List.length_cons] at hl
    split at e
    · rename_i hc
      subst hc
      exact tp_fit (fun hl e=>it_fit hl e) (by omega) e
    · have k:=pl_fit (by rw[List.length_cons];omega) e
      exact⟨k.sf,k.lt,Nat.le_trans k.dp (by omega),k.ok⟩
end Gen
set_option pp.maxSteps 200
namespace Gen
open PySem E Y
open L2 (atI ixN)
abbrev PC(line:Str)(u:List Nat): Nat:=(ch line).length - u.length
theorem stail{c:Nat}{r L:List Nat}(h:c::r <:+ L): r <:+ L:=(List.suffix_cons c r).trans h
section
variable {line:Str}
theorem dP{u:List Nat}(sf:u <:+ ch line): (ch line).drop (PC line u)=u:=(List.suffix_iff_eq_drop.mp sf).symm
theorem PC_tl{c:Nat}{r:List Nat}(sf:c::r <:+ ch line): PC line r=PC line (c::r)+1:=by
  have:=sf.length_le
  rw[List.length_cons] at this
  simp only[PC,List.length_cons];omega
theorem PC_lt{c:Nat}{r:List Nat}(sf:c::r <:+ ch line): PC line (c::r)<(ch line).length:=by
  have:=sf.length_le
  rw[List.length_cons] at this
  simp only[PC,List.length_cons];omega
theorem PC_nil: PC line []=(ch line).length:=by simp[PC]
variable (hL:line.length≤1000000)
include hL
theorem at_u{c:Nat}{r:List Nat}(sf:c::r <:+ ch line): atS line ((PC line (c::r):Nat):Int)=some ⟨#[c]⟩:=at_l hL (dP sf)
theorem cut1{u:List Nat}(sf:u <:+ ch line): cutSO line (some ((PC line u:Nat):Int)) (some (((PC line u:Nat):Int)+1))=some (St (u.take 1)):=by
  rw[show((PC line u:Nat):Int)+1=((PC line u+1:Nat):Int) by omega,cut_l hL _ _ (Nat.sub_le ..),dP sf]
  congr 2
  rw[show PC line u+1 - PC line u=1 by omega]
omit hL in
theorem eqT{u:List Nat}{d:Nat}{x:Str}(hx:ch x=[d]): decide (St (u.take 1)=x)=decide (u.head?=some d):=by
  congr 1
  apply propext
  constructor
  · intro h
    have:=congrArg ch h
    rw[ch_St,hx] at this
    cases u with
    | nil=>cases this
    | cons c r =>
      injection this with h1 _
      rw[h1]
      rfl
  · intro h
    refine ch_inj ?_
    rw[ch_St,hx]
    cases u with
    | nil=>cases h
    | cons c r=>cases h;rfl
theorem eot_w{u:List Nat}(sf:u <:+ ch line): t_end_of_text_w2 line ((PC line u:Nat):Int)=some (decide (u≠[]),((PC line u:Nat):Int)):=by
  unfold t_end_of_text_w2
  rw[len_l hL,Option.bind_some]
  cases u with
  | nil=>rw[PC_nil];simp
  | cons c r =>
    have:=PC_lt sf
    rw[decide_eq_true (by omega)]
    simp
theorem eot_l{c:Nat}{r:List Nat}(sf:c::r <:+ ch line): t_end_of_text_l1 line ((PC line (c::r):Nat):Int)=if c=34 then (if r.head?=some 34 then some (.go (((PC line (c::r):Nat):Int)+2)) else some (.rt (.ok ((PC line r:Nat):Int)))) else some (.go ((PC line r:Nat):Int)):=by
  have e1:=PC_tl sf
  unfold t_end_of_text_l1
  rw[at_u hL sf,Option.bind_some,eqS chq]
  by_cases h:c=34
  · rw[if_neg (by simp[h]),if_pos h,show((PC line (c::r):Nat):Int)+2=((PC line r:Nat):Int)+1 by omega,show((PC line (c::r):Nat):Int)+1=((PC line r:Nat):Int) by omega,cut1 hL (stail sf),Option.bind_some,eqT chq]
    by_cases h2:r.head?=some 34
    · rw[if_pos (decide_eq_true h2),if_pos h2];rfl
    · rw[if_neg (by simpa using h2),if_neg h2]
  · rw[if_pos (by simp[h]),if_neg h,Option.bind_some]
    congr 2
    omega
theorem scanR:∀ (r:List Nat) (f:Nat),r <:+ ch line→r.length<f →
    (∀ cs q,txR r=some (cs,q)→whE (t_end_of_text_w2 line) (t_end_of_text_l1 line) f ((PC line r:Nat):Int)=some (.rt (.ok ((PC line q:Nat):Int)))) ∧
    (txR r=none→∃ s,whE (t_end_of_text_w2 line) (t_end_of_text_l1 line) f ((PC line r:Nat):Int)=some (.go s))
  | _,0,_,hf=>absurd hf (Nat.not_lt_zero _)
  | [],f+1,sf,_=>by
    refine⟨fun cs q e=>(by cases e),fun _=>?_⟩
    rw[whE,eot_w hL sf,Option.bind_some,if_neg (by simp)]
    exact⟨_,rfl⟩
  | [c],f+1,sf,hf=>by
    rw[whE,eot_w hL sf,Option.bind_some,if_pos (by simp)]
    dsimp only
    rw[eot_l hL sf,txR]
    by_cases h:c=34
    · rw[if_pos h,if_pos h,if_neg (by simp)]
      refine⟨fun cs q e=>?_,fun e=>(by cases e)⟩
      cases e
      rfl
    · rw[if_neg h,if_neg h,Option.bind_some]
      dsimp only
      refine⟨fun cs q e=>(by cases e),fun _=>?_⟩
      cases f with
      | zero=>simp at hf
      | succ f =>
        rw[whE,eot_w hL (stail sf),Option.bind_some,if_neg (by simp)]
        exact⟨_,rfl⟩
  | c :: d::r,f+1,sf,hf=>by
    rw[List.length_cons,List.length_cons] at hf
    rw[whE,eot_w hL sf,Option.bind_some,if_pos (by simp)]
    dsimp only
    rw[eot_l hL sf,txR]
    by_cases h:c=34
    · rw[if_pos h,if_pos h]
      by_cases h2:d=34
      · rw[if_pos h2,if_pos (by rw[h2];rfl),Option.bind_some]
        dsimp only
        have e1:=PC_tl sf
        have e2:=PC_tl (stail sf)
        have ih:=scanR r f (stail (stail sf)) (by omega)
        rw[show((PC line (c::d::r):Nat):Int)+2=((PC line r:Nat):Int) by omega]
        refine⟨fun cs q e=>?_,fun e=>ih.2 (by
          cases q:txR r with
          | none=>rfl
          | some z=>rw[q] at e;cases e)⟩
        obtain⟨⟨cs1,q1⟩,e3,e⟩:=Option.bind_eq_some_iff.mp e
        cases e
        exact ih.1 _ _ e3
      · rw[if_neg h2,if_neg (by simpa using h2)]
        refine⟨fun cs q e=>?_,fun e=>(by cases e)⟩
        cases e
        rfl
    · rw[if_neg h,if_neg h,Option.bind_some]
      dsimp only
      have ih:=scanR (d::r) f (stail sf) (by rw[List.length_cons];omega)
      refine⟨fun cs q e=>?_,fun e=>ih.2 (by
        cases q:txR (d::r) with
        | none=>rfl
        | some z=>rw[q] at e;cases e)⟩
      obtain⟨⟨cs1,q1⟩,e3,e⟩:=Option.bind_eq_some_iff.mp e
      cases e
      exact ih.1 _ _ e3
omit hL in
theorem sign_c(c:Nat): t_read_plain_c1 ⟨#[c]⟩=some (some (okn c)):=by
  unfold t_read_plain_c1
  have:ordO (⟨#[c]⟩:Str)=some (c:Int):=rfl
  rw[this,Option.bind_some]
  by_cases h:okn c=true
  · obtain⟨y,ey⟩:=sign_ok (okn_iff.mp h)
    rw[ey,h]
    rfl
  · have h':okn c=false:=by simpa using h
    have hn:¬ (32≤c∧c≤126∧c≠37):=fun z=>h (okn_iff.mpr z)
    unfold t_sign_of
    rw[if_neg (by simp;omega),if_neg (by simp;omega),h']
    rfl
omit hL in
theorem signs_c(cs:List Nat)(hl:cs.length≤1000000): lcOg t_read_plain_c1 (signsS (St cs))=some (cs.map okn):=by
  have e:signsS (St cs)=cs.map fun c=>(⟨#[c]⟩:Str):=by unfold signsS;simp
  rw[e,lcOg_eq (by rw[List.length_map];omega)]
  induction cs with
  | nil=>rfl
  | cons c cs ih =>
    rw[List.length_cons] at hl
    rw[List.map_cons,lcO,sign_c,Option.bind_some,ih (by omega) (by unfold signsS;simp)]
    rfl
theorem end_u{v:List Nat}(sf:v <:+ ch line): t_end_of_number line ((PC line v:Nat):Int)=some ((PC line (v.dropWhile isd):Nat):Int):=by
  have hd:=dP sf
  have e:=tw_dw isd v
  have h:=sf.length_le
  have hv:=congrArg List.length e
  rw[List.length_append] at hv
  unfold t_end_of_number
  rw[run_w (tbl:="0123456789") hL (w:=t_end_of_number_w2 line) (l:=t_end_of_number_l1) (fun s=>rfl) (fun s=>rfl) (v.takeWhile isd) (PC line v) fuel (v.dropWhile isd) (by rw[hd,e]) (fun c m=>dig_tbl.mpr (isd_iff.mp (tw_all c m))) (fun c t e z=>by
    have:=dw_head e
    rw[isd_iff.mpr (dig_tbl.mp z)] at this
    cases this) (by rw[ch_len] at h;unfold fuel;omega),Option.bind_some]
  congr 2
  simp only[PC];omega
noncomputable def numPart(line:Str)(atx startx:Int): Option (Xr (V×Int)) :=
  (t_end_of_number line startx).bind fun endx =>
    if decide (endx=startx)=true then
      if decide (startx=atx)=true then
        some (Xr.ex 1 (0:Int))
      else
        some (Xr.ok ((⟨Dat.non,Nat.le_of_ble_eq_true rfl⟩:V),endx))
    else
      (atS line startx).bind fun ch2 =>
      if (((decide (ch2=("0":Str)))&&(decide ((1:Int)<(endx - atx))))||(decide ((19:Int)<(endx - startx))))=true then
        some (Xr.ex 1 (0:Int))
      else
        (cutSO line (some atx) (some endx)).bind fun part1 =>
        (intSO part1).bind fun number =>
        if ((decide ((1000000000000000000:Int)<number))||(decide (number<(-1000000000000000000:Int))))=true then
          some (Xr.ex 1 (0:Int))
        else
          some (Xr.ok ((⟨Dat.int number,Nat.le_of_ble_eq_true rfl⟩:V),endx))
omit hL in
theorem int_ds{ds:List Nat}(h:∀ c∈ds,48≤c∧c≤57)(h0:ds≠[])(hl:ds.length≤20): intSO (St ds)=some (val ds)∧intSO (St (45::ds))=some (-val ds):=by
  constructor
  · unfold intSO
    rw[gd_of (by rw[St_len];omega)]
    have:=PySem.intText_digits (x:=St ds) (by show NumText.AllDigits (ch (St ds));rw[ch_St];exact h) (by show ch (St ds)≠[];rw[ch_St];exact h0) (by rw[St_len];omega)
    rw[this,show(St ds).cps.toList=ds from ch_St ds]
    rfl
  · unfold intSO
    rw[gd_of (by rw[St_len,List.length_cons];omega)]
    rw[PySem.intText_neg (x:=St (45::ds)) (cs:=ds) (ch_St _) h h0 (by rw[St_len,List.length_cons];omega)]
    rfl
theorem num_prog {v u:List Nat} {neg:Bool} (hu:u=if neg=true then 45::v else v) (sf:u <:+ ch line) :
    (∀ x q,nuR v neg=some (x,q)→∃ w:V,w.d=x∧numPart line ((PC line u:Nat):Int) ((PC line v:Nat):Int)=some (.ok (w,((PC line q:Nat):Int)))) ∧
    (nuR v neg=none→numPart line ((PC line u:Nat):Int) ((PC line v:Nat):Int)=some (.ex 1 0)):=by
  have sv:v <:+ ch line:=by
    cases neg with
    | false=>rw[hu] at sf;exact sf
    | true=>rw[hu] at sf;exact stail sf
  have e:=tw_dw isd v
  have hv:=congrArg List.length e
  rw[List.length_append] at hv
  have hsl:=sv.length_le
  have hul:=sf.length_le
  have pv:PC line (v.dropWhile isd)=PC line v+(v.takeWhile isd).length:=by simp only[PC];omega
  have pu:PC line v=PC line u+(if neg=true then 1 else 0):=by
    cases neg with
    | false=>rw[hu];rfl
    | true =>
      rw[hu] at sf ⊢
      exact PC_tl sf
  have su:u.length=v.length+(if neg=true then 1 else 0):=by
    rw[hu]
    cases neg <;> simp
  unfold numPart nuR
  rw[end_u hL sv,Option.bind_some]
  by_cases h0:v.takeWhile isd=[]
  · rw[h0,List.length_nil] at pv
    rw[if_pos (show decide (((PC line (v.dropWhile isd):Nat):Int)=((PC line v:Nat):Int))=true by rw[decide_eq_true_eq];omega),if_pos h0]
    cases neg with
    | false =>
      rw[if_pos (show decide (((PC line v:Nat):Int)=((PC line u:Nat):Int))=true by rw[decide_eq_true_eq];simp at pu;omega),if_neg (by decide)]
      exact⟨fun x q e=>(by cases e),fun _=>rfl⟩
    | true =>
      rw[if_neg (show ¬ decide (((PC line v:Nat):Int)=((PC line u:Nat):Int))=true by rw[decide_eq_true_eq];simp at pu;omega),if_pos rfl]
      refine⟨fun x q e=>?_,fun e=>(by cases e)⟩
      cases e
      exact⟨_,rfl,rfl⟩
  · have hp:=List.length_pos_iff.mpr h0
    obtain⟨a,t,ea⟩:∃ a t,v.takeWhile isd=a::t:=by
      cases h:v.takeWhile isd with
      | nil=>exact absurd h h0
      | cons a t=>exact⟨a,t,rfl⟩
    have ev:v=a::(t++v.dropWhile isd):=by
      rw[ea] at e
      exact e.symm
    have hat:atS line ((PC line v:Nat):Int)=some ⟨#[a]⟩:=by
      have:=at_u hL (c:=a) (r:=t++v.dropWhile isd) (by rw[← ev];exact sv)
      rw[← ev] at this
      exact this
    have hh:v.head?=some a:=by rw[ev];rfl
    have hdg:∀ c∈v.takeWhile isd,48≤c∧c≤57:=fun c m=>isd_iff.mp (tw_all c m)
    rw[if_neg (show ¬ decide (((PC line (v.dropWhile isd):Nat):Int)=((PC line v:Nat):Int))=true by rw[decide_eq_true_eq];omega),if_neg h0,hat,Option.bind_some,eqS (show ch ("0":Str)=[48] by decide),hh]
    have c1:(1:Int)<(((PC line (v.dropWhile isd):Nat):Int) - ((PC line u:Nat):Int))↔(neg=true∨1<(v.takeWhile isd).length):=by
      cases neg with
      | false=>simp at pu ⊢;omega
      | true=>simp at pu ⊢;omega
    have c2:(19:Int)<(((PC line (v.dropWhile isd):Nat):Int) - ((PC line v:Nat):Int))↔19<(v.takeWhile isd).length:=by omega
    have k1:((decide (a=48)&&decide ((1:Int)<(((PC line (v.dropWhile isd):Nat):Int) - ((PC line u:Nat):Int))))||decide ((19:Int)<(((PC line (v.dropWhile isd):Nat):Int) - ((PC line v:Nat):Int))))=decide ((a=48∧(neg=true∨1<(v.takeWhile isd).length))∨19<(v.takeWhile isd).length):=by
      rw[Bool.eq_iff_iff]
      simp only[Bool.or_eq_true,Bool.and_eq_true,decide_eq_true_eq,c1,c2]
    rw[k1]
    by_cases cc:(a=48∧(neg=true∨1<(v.takeWhile isd).length))∨19<(v.takeWhile isd).length
    · rw[if_pos (decide_eq_true cc),if_pos (by
        rcases cc with ⟨rfl,h⟩ | h
        · exact .inr (.inl ⟨rfl,h⟩)
        · exact .inl h)]
      exact⟨fun x q e=>(by cases e),fun _=>rfl⟩
    · rw[if_neg (show ¬ decide ((a=48∧(neg=true∨1<(v.takeWhile isd).length))∨19<(v.takeWhile isd).length)=true by rw[decide_eq_true_eq];exact cc)]
      have l19:(v.takeWhile isd).length≤19:=by
        have:¬ 19<(v.takeWhile isd).length:=fun z=>cc (.inr z)
        omega
      obtain⟨i1,i2⟩:=int_ds hdg h0 (by omega)
      have htk:v.take (v.takeWhile isd).length=v.takeWhile isd:=(List.prefix_iff_eq_take.mp (List.takeWhile_prefix isd)).symm
      have hcut:cutSO line (some ((PC line u:Nat):Int)) (some ((PC line (v.dropWhile isd):Nat):Int))=some (St (if neg=true then 45::v.takeWhile isd else v.takeWhile isd)):=by
        rw[cut_l hL _ _ (Nat.sub_le ..),dP sf]
        congr 2
        cases neg with
        | false =>
          simp at pu
          rw[if_neg (by decide),show PC line (v.dropWhile isd) - PC line u=(v.takeWhile isd).length by omega,hu,if_neg (by decide),htk]
        | true =>
          simp at pu
          rw[if_pos rfl,show PC line (v.dropWhile isd) - PC line u=(v.takeWhile isd).length+1 by omega,hu,if_pos rfl,List.take_succ_cons,htk]
      have h2:0≤val (v.takeWhile isd):=Int.natCast_nonneg _
      have hn:intSO (St (if neg=true then 45::v.takeWhile isd else v.takeWhile isd))=some (if neg=true then -val (v.takeWhile isd) else val (v.takeWhile isd)):=by
        cases neg with
        | false=>rw[if_neg (by decide),if_neg (by decide)];exact i1
        | true=>rw[if_pos rfl,if_pos rfl];exact i2
      rw[hcut,Option.bind_some,hn,Option.bind_some]
      have hc1:¬ (some a=some 48∧(neg=true∨1<(v.takeWhile isd).length)):=fun z=>cc (.inl ⟨Option.some.inj z.1,z.2⟩)
      have k2:(decide ((1000000000000000000:Int)<(if neg=true then -val (v.takeWhile isd) else val (v.takeWhile isd)))||decide ((if neg=true then -val (v.takeWhile isd) else val (v.takeWhile isd))<(-1000000000000000000:Int)))=decide (1000000000000000000<val (v.takeWhile isd)):=by
        rw[Bool.eq_iff_iff]
        simp only[Bool.or_eq_true,decide_eq_true_eq]
        cases neg with
        | false=>rw[if_neg (by decide)];omega
        | true=>rw[if_pos rfl];omega
      rw[k2]
      by_cases hv:1000000000000000000<val (v.takeWhile isd)
      · rw[if_pos (decide_eq_true hv),if_pos (.inr (.inr hv))]
        exact⟨fun x q e=>(by cases e),fun _=>rfl⟩
      · rw[if_neg (show ¬ decide (1000000000000000000<val (v.takeWhile isd))=true by rw[decide_eq_true_eq];exact hv),if_neg (by
          rintro(z | z | z)
          · omega
          · exact hc1 z
          · exact hv z)]
        refine⟨fun x q e=>?_,fun e=>(by cases e)⟩
        cases e
        exact⟨_,rfl,rfl⟩
theorem plain_of {c:Nat} {r:List Nat} (sf:c::r <:+ ch line) :
    (∀ x q,plR (c::r)=some (x,q)→∃ w:V,w.d=x∧t_read_plain line ((PC line (c::r):Nat):Int)=some (.ok (w,((PC line q:Nat):Int)))) ∧
    (plR (c::r)=none→t_read_plain line ((PC line (c::r):Nat):Int)=some (.ex 1 0)):=by
  have hp:=PC_tl sf
  have hll:=sf.length_le
  rw[List.length_cons,ch_len] at hll
  rw[plR]
  unfold t_read_plain
  rw[at_u hL sf,Option.bind_some,eqS chq]
  by_cases h:c=34
  · rw[if_pos (decide_eq_true h),if_pos h]
    have en:((PC line (c::r):Nat):Int)+1=((PC line r:Nat):Int):=by omega
    obtain⟨S1,S2⟩:=scanR hL r fuel (stail sf) (by unfold fuel;omega)
    unfold t_end_of_text txtR
    rw[Option.bind_some,en]
    cases e1:txR r with
    | none =>
      obtain⟨s,es⟩:=S2 e1
      rw[es]
      exact⟨fun x q e=>(by cases e),fun _=>rfl⟩
    | some z =>
      obtain⟨cs,q⟩:=z
      rw[S1 cs q e1,Option.bind_some,Option.bind_some]
      have er:=tx_fit e1
      have hd:=congrArg List.length er
      rw[List.length_append,List.length_cons] at hd
      have dl:=dbl_le cs
      have sq:q <:+ ch line:=by
        refine List.IsSuffix.trans ?_ (stail sf)
        exact⟨StrLaws.dbl 34 cs++[34],by rw[er];simp⟩
      have pq:PC line q=PC line r+(StrLaws.dbl 34 cs).length+1:=by
        have:=(stail sf).length_le
        simp only[PC];omega
      have hcut:cutSO line (some ((PC line r:Nat):Int)) (some (((PC line q:Nat):Int) - 1))=some (St (StrLaws.dbl 34 (ch (St cs)))):=by
        rw[show((PC line q:Nat):Int) - 1=((PC line r+(StrLaws.dbl 34 cs).length:Nat):Int) by omega,cut_l hL _ _ (Nat.sub_le ..),dP (stail sf),ch_St]
        congr 2
        rw[show PC line r+(StrLaws.dbl 34 cs).length - PC line r=(StrLaws.dbl 34 cs).length by omega]
        conv=>lhs;rw[er]
        exact List.take_left
      have hrep:replO ("\"\"":Str) ("\"":Str) (St (StrLaws.dbl 34 (ch (St cs))))=some (St cs):=by
        have h1:("\"":Str).length=1:=by decide
        unfold replO
        rw[gd_of (by rw[St_len,h1,ch_St];omega),rep_back]
      dsimp only[Rs.elim,Option.bind_some,Xr.el]
      rw[hcut,Option.bind_some,hrep,Option.bind_some,signs_c cs (by omega),Option.bind_some]
      have ha:(cs.map okn).all id=cs.all okn:=by rw[List.all_map];rfl
      rw[ha]
      by_cases hk:cs.all okn=true
      · rw[if_pos hk,if_neg (show ¬ (!cs.all okn)=true by rw[hk];decide)]
        refine⟨fun x r e=>?_,fun e=>(by cases e)⟩
        cases e
        exact⟨_,rfl,rfl⟩
      · rw[if_neg hk,if_pos (show(!cs.all okn)=true by rw[Bool.eq_false_iff.mpr hk];rfl)]
        exact⟨fun x q e=>(by cases e),fun _=>rfl⟩
  · rw[if_neg (show ¬ decide (c=34)=true by simpa using h),if_neg h,Option.bind_some,eqS chm]
    by_cases h2:c=45
    · rw[if_pos (decide_eq_true h2),if_pos h2,Option.bind_some,Option.bind_some]
      have en:((PC line (c::r):Nat):Int)+1=((PC line r:Nat):Int):=by omega
      rw[en]
      exact num_prog hL (v:=r) (u:=c::r) (neg:=true) (by rw[if_pos rfl,h2]) sf
    · rw[if_neg (show ¬ decide (c=45)=true by simpa using h2),if_neg h2,Option.bind_some]
      exact num_prog hL (v:=c::r) (u:=c::r) (neg:=false) rfl sf
end
end Gen
set_option pp.maxSteps 200
namespace Gen
open PySem E Y
open L2 (atI ixN)
abbrev RU:= Rs (Xr V×List Ob) Us
section
variable {line:Str} (hL:line.length≤1000000) {h0:List Ob}
include hL
noncomputable abbrev outer(line:Str)(f:Nat)(s:Us): Option RU:=whE (t_read_call_w4 line) (t_read_call_l3 line) f s
theorem out_turn{ls:List Lq}{s:Us}{f:Nat}{u:List Nat}(R:Rq (PC line u) h0 ls s)(sf:u <:+ ch line)(hu:u≠[]): outer line (f+1) s=(t_read_call_l3 line s).bind fun e=>match e with
    | .go s=>outer line f s
    | .bk s=>some (.go s)
    | .rt r=>some (.rt r):=by
  have ew:t_read_call_w4 line s=some (true,s):=by
    unfold t_read_call_w4
    cases u with
    | nil=>exact absurd rfl hu
    | cons c r =>
      have:=PC_lt sf
      rw[len_l hL,Option.bind_some,R.pos,decide_eq_true (by omega),← R.pos]
  rw[outer,whE,ew,Option.bind_some,if_pos rfl]
  show(t_read_call_l3 line s).bind _=_
  congr 1
  funext e
  cases e <;> rfl
theorem out_end{ls:List Lq}{s:Us}{f:Nat}(R:Rq (PC line []) h0 ls s): outer line (f+1) s=some (.go s):=by
  have ew:t_read_call_w4 line s=some (false,s):=by
    unfold t_read_call_w4
    rw[len_l hL,Option.bind_some,R.pos,PC_nil,decide_eq_false (by omega),← PC_nil (line:=line),← R.pos]
  rw[outer,whE,ew,Option.bind_some,if_neg (by simp)]
def pre(l:Lq)(ls:List Lq): List Nat:=if ls=[]∨l.vs≠[] then [32] else []
theorem close_step{t l:Lq}{ls:List Lq}{s:Us}{rest:List Nat}(R:Rq (PC line (41::rest)) h0 (t::l::ls) s)(sf:41::rest <:+ ch line)(lv:l.vs.length<1000000)(hdep:(Dat.tup (t.vs.map (·.d))).dep≤48):
    ∃ s',t_read_call_l3 line s=some (.go s')∧Rq (PC line rest) h0 ({ l with vs:=l.vs++[(⟨Dat.tup (t.vs.map (·.d)),hdep⟩:V)] }::ls) s':=by
  obtain⟨e1,R1⟩:=R.pop (PC line rest)
  have hp:=PC_tl sf
  refine⟨_,?_,R1.put ⟨Dat.tup (t.vs.map (·.d)),hdep⟩ (PC line rest)⟩
  have ln:=R.len
  unfold t_read_call_l3
  rw[R.pos,at_u hL sf,Option.bind_some,eqS chc,if_pos (by rw[ln];simp;omega),e1,Option.bind_some]
  dsimp only
  have e2:atI ((l::ls).map (·.a)).reverse (-1)=some l.a:=R1.last
  rw[e2,Option.bind_some]
  show((boxO e_MV s.2.2 l.a).bind _)=_
  rw[vb_box (R.bx l (by simp)).1,Option.bind_some]
  show((boxO e_MV s.2.2 t.a).bind _)=_
  rw[vb_box (R.bx t (List.mem_cons_self ..)).1,Option.bind_some]
  have e3:mkV (Dat.tup (t.vs.map fun z=>z.d))=some ⟨Dat.tup (t.vs.map (·.d)),hdep⟩:=by
    unfold mkV
    rw[dif_pos hdep]
  rw[e3,Option.bind_some,appO_eq (by omega),Option.bind_some,Option.bind_some,show((PC line (41::rest):Nat):Int)+1=((PC line rest:Nat):Int) by omega]
  rfl
noncomputable def bodyC(line:Str)(q:Int)(s:Us): Option (Ex (Xr V×List Ob) Us) :=
  (cutSO line (some q) (some (q+(1:Int)))).bind fun part2 =>
    if decide (part2=("(":Str))=true then
      if decide ((40:Int)<(s.2.1.length:Int))=true then
        some (.rt ((Xr.ex 1 (0:Int)),s.2.2))
      else
        (appO s.2.1 s.2.2.length).bind fun rows4 =>
        (some (q+(1:Int))).bind fun atx4 =>
        some (.go (atx4,rows4,(s.2.2++[(⟨BOXC,[("",e_MV ([]:(List V)))]⟩:Ob)])))
    else
      (lenS line).bind fun len2 =>
      if decide (q<len2)=true then
        (t_read_plain line q).bind fun o_plain =>
        Xr.el (fun c=>fun l =>
          some (.rt ((Xr.ex c l),s.2.2))) (fun v =>
          (atI s.2.1 (-1:Int)).bind fun it2 =>
          (boxO e_MV s.2.2 it2).bind fun rows5 =>
          (appO rows5 v.1).bind fun app1 =>
          some (.go (v.2,s.2.1,(setB s.2.2 it2 (e_MV app1))))) o_plain
      else
        some (.rt ((Xr.ex 1 (0:Int)),s.2.2))
theorem asks{p:Nat}{l:Lq}{ls:List Lq}{s:Us}(R:Rq p h0 (l::ls) s): (if decide ((s.2.1.length:Int)=(1:Int))=true then some true else (atI s.2.1 (-1:Int)).bind fun it1=>(boxO e_MV s.2.2 it1).bind fun rows3=>some (!rows3.isEmpty))=some (decide (pre l ls=[32])):=by
  have ln:=R.len
  have b0:=R.bx l (List.mem_cons_self ..)
  unfold pre
  by_cases c1:ls=[]
  · rw[if_pos (by rw[ln,c1];rfl),if_pos (.inl c1)]
    rfl
  · rw[if_neg (by rw[ln];have:=List.length_pos_iff.mpr c1;simp;omega),R.last,Option.bind_some,vb_box b0.1,Option.bind_some]
    cases hv:l.vs with
    | nil=>rw[if_neg (by rintro(z | z);exact c1 z;exact z rfl)];rfl
    | cons a b=>rw[if_pos (.inr (by simp))];rfl
theorem blank{l:Lq}{ls:List Lq}{s:Us}{u:List Nat}(R:Rq (PC line (pre l ls++u)) h0 (l::ls) s)(sf:pre l ls++u <:+ ch line)(hu:pre l ls=[]→∃ c r,u=c::r∧c≠41): t_read_call_l3 line s=bodyC line ((PC line u:Nat):Int) s:=by
  have ln:=R.len
  have as:=asks hL R
  by_cases h:pre l ls=[32]
  · rw[h] at R sf
    have sf:32::u <:+ ch line:=sf
    have R:Rq (PC line (32::u)) h0 (l::ls) s:=R
    have hp:=PC_tl sf
    rw[h] at as
    unfold t_read_call_l3
    rw[R.pos,at_u hL sf,Option.bind_some,eqS chc,if_neg (by simp),as,Option.bind_some,if_pos (by decide),Option.bind_some,eqS chb,if_neg (by simp),Option.bind_some,show((PC line (32::u):Nat):Int)+1=((PC line u:Nat):Int) by omega]
    rfl
  · have hn:pre l ls=[]:=by
      unfold pre at h ⊢
      split
      · rename_i z;rw[if_pos z] at h;exact absurd rfl h
      · rfl
    obtain⟨c,r,rfl,hc⟩:=hu hn
    rw[hn] at R sf
    have sf:c::r <:+ ch line:=sf
    have R:Rq (PC line (c::r)) h0 (l::ls) s:=R
    rw[hn] at as
    unfold t_read_call_l3
    rw[R.pos,at_u hL sf,Option.bind_some,eqS chc,if_neg (by simp[hc]),as,Option.bind_some,if_neg (by decide)]
    rfl
theorem no_blank{l:Lq}{ls:List Lq}{s:Us}{c:Nat}{r:List Nat}(R:Rq (PC line (c::r)) h0 (l::ls) s)(sf:c::r <:+ ch line)(hp:pre l ls=[32])(h1:c≠32)(h2:c≠41∨ls=[]): t_read_call_l3 line s=some (.rt (.ex 1 0,s.2.2)):=by
  have ln:=R.len
  have as:=asks hL R
  rw[hp] at as
  unfold t_read_call_l3
  rw[R.pos,at_u hL sf,Option.bind_some,eqS chc,if_neg (by
    rcases h2 with h2 | h2
    · simp[h2]
    · rw[ln,h2];simp),as,Option.bind_some,if_pos (by decide),Option.bind_some,eqS chb,if_pos (by simp[h1])]
theorem body_open{l:Lq}{ls:List Lq}{s:Us}{r:List Nat}{p:Nat}(R:Rq p h0 (l::ls) s)(sf:40::r <:+ ch line): bodyC line ((PC line (40::r):Nat):Int) s=if 40<ls.length+1 then some (.rt (.ex 1 0,s.2.2)) else some (.go (((PC line r:Nat):Int),s.2.1++[s.2.2.length],s.2.2++[vbOb []])):=by
  have ln:=R.len
  have hp:=PC_tl sf
  unfold bodyC
  rw[cut1 hL sf,Option.bind_some,eqT cho,if_pos (by simp),ln,List.length_cons]
  by_cases h:40<ls.length+1
  · rw[if_pos (by rw[decide_eq_true_eq];omega),if_pos h]
  · rw[if_neg (by rw[decide_eq_true_eq];omega),if_neg h,appO_eq (by rw[ln,List.length_cons];omega),Option.bind_some,Option.bind_some,show((PC line (40::r):Nat):Int)+1=((PC line r:Nat):Int) by omega]
    rfl
theorem body_plain{l:Lq}{ls:List Lq}{s:Us}{c:Nat}{r:List Nat}{p:Nat}(R:Rq p h0 (l::ls) s)(sf:c::r <:+ ch line)(hc:c≠40)(lv:l.vs.length<1000000):
    (∀ x q,plR (c::r)=some (x,q)→∃ (w:V) (s':Us),w.d=x∧bodyC line ((PC line (c::r):Nat):Int) s=some (.go s')∧Rq (PC line q) h0 ({ l with vs:=l.vs++[w] }::ls) s') ∧
    (plR (c::r)=none→bodyC line ((PC line (c::r):Nat):Int) s=some (.rt (.ex 1 0,s.2.2))):=by
  obtain⟨P1,P2⟩:=plain_of hL sf
  have hlt:=PC_lt sf
  have b0:=R.bx l (List.mem_cons_self ..)
  unfold bodyC
  rw[cut1 hL sf,Option.bind_some,eqT cho,if_neg (by simpa using hc),len_l hL,Option.bind_some,if_pos (by rw[decide_eq_true_eq];omega)]
  refine⟨fun x q e=>?_,fun e=>?_⟩
  · obtain⟨w,hw,e1⟩:=P1 x q e
    refine⟨w,_,hw,?_,R.put w (PC line q)⟩
    rw[e1,Option.bind_some]
    dsimp only[Xr.el]
    rw[R.last,Option.bind_some,vb_box b0.1,Option.bind_some,appO_eq (by omega),Option.bind_some]
    rfl
  · rw[P2 e]
    rfl
theorem body_nil(s:Us): bodyC line ((PC line []:Nat):Int) s=some (.rt (.ex 1 0,s.2.2)):=by
  unfold bodyC
  rw[cut1 hL (List.nil_suffix ..),Option.bind_some,eqT cho,if_neg (by simp),len_l hL,Option.bind_some,PC_nil,if_neg (by simp)]
def Bad(B:RU): Prop:=(∃ h',B=.rt (.ex 1 0,h'))∨∃ s2:Us,B=.go s2∧1<s2.2.1.length
def OkA(line:Str)(h0:List Ob)(d:Nat): Prop:=∀ (u:List Nat) (l:Lq) (ls:List Lq) (s:Us),pre l ls++u <:+ ch line→Rq (PC line (pre l ls++u)) h0 (l::ls) s→(pre l ls=[]→u.head?≠some 41)→ls.length+d=40→l.vs.length+u.length<1000000 →
  (∀ x q,itR d u=some (x,q)→∃ (v:V) (s':Us) (c:Nat),v.d=x∧c+q.length≤(pre l ls++u).length∧Rq (PC line q) h0 ({ l with vs:=l.vs++[v] }::ls) s'∧∀ f,outer line (f+c) s=outer line f s') ∧
  (itR d u=none→∃ B,Bad B∧∀ f,(pre l ls++u).length<f→outer line f s=some B)
omit hL in
theorem itR_eq: ∀ (d c:Nat) (r:List Nat),c≠40→itR d (c::r)=plR (c::r)
  | 0,c,r,h=>if_neg h
  | d+1,c,r,h=>if_neg h
theorem okA_of (d:Nat) (T:∀ (r:List Nat) (l:Lq) (ls:List Lq) (s:Us),pre l ls++40::r <:+ ch line→Rq (PC line (pre l ls++40::r)) h0 (l::ls) s→ls.length+d=40→l.vs.length+(40::r).length<1000000 →
  (∀ x q,itR d (40::r)=some (x,q)→∃ (v:V) (s':Us) (c:Nat),v.d=x∧c+q.length≤(pre l ls++40::r).length∧Rq (PC line q) h0 ({ l with vs:=l.vs++[v] }::ls) s'∧∀ f,outer line (f+c) s=outer line f s') ∧
  (itR d (40::r)=none→∃ B,Bad B∧∀ f,(pre l ls++40::r).length<f→outer line f s=some B)):OkA line h0 d:=by
  intro u l ls s sf R hp hd hl
  cases u with
  | nil =>
    refine⟨fun x q e=>(by cases d <;> cases e),fun _=>?_⟩
    by_cases h:pre l ls=[]
    · have h1:ls≠[]:=fun z=>by unfold pre at h;rw[if_pos (.inl z)] at h;cases h
      have R':Rq (PC line []) h0 (l::ls) s:=by rw[h] at R;exact R
      refine⟨.go s,.inr ⟨s,rfl,?_⟩,fun f hf=>?_⟩
      · rw[R.len,List.length_cons]
        have:=List.length_pos_iff.mpr h1
        omega
      · rw[show f=(f - 1)+1 by omega]
        exact out_end hL R'
    · refine⟨_,.inl ⟨s.2.2,rfl⟩,fun f hf=>?_⟩
      rw[show f=(f - 1)+1 by omega,out_turn hL R sf (by simpa using h),blank hL R sf (fun z=>absurd z h),body_nil hL]
      rfl
  | cons c r =>
    by_cases hc:c=40
    · subst hc
      exact T r l ls s sf R hd hl
    · rw[List.length_cons] at hl
      have sc:c::r <:+ ch line:=(List.suffix_append _ _).trans sf
      have hne:pre l ls++c::r≠[]:=by simp
      have hb:=blank hL R sf (fun z=>⟨c,r,rfl,fun z2=>hp z (by rw[z2];rfl)⟩)
      obtain⟨B1,B2⟩:=body_plain hL R sc hc (by omega)
      rw[itR_eq d c r hc]
      refine⟨fun x q e=>?_,fun e=>⟨_,.inl ⟨s.2.2,rfl⟩,fun f hf=>?_⟩⟩
      · obtain⟨w,s',hw,e1,R'⟩:=B1 x q e
        have F:=pl_fit (by rw[List.length_cons];omega) e
        have lt:=F.lt
        refine⟨w,s',1,hw,by rw[List.length_append];omega,R',fun f=>?_⟩
        rw[out_turn hL R sf hne,hb,e1]
        rfl
      · rw[show f=(f - 1)+1 by omega,out_turn hL R sf hne,hb,B2 e]
        rfl
theorem okB {d:Nat} (A:OkA line h0 d) (hd40:d≤40):∀ (n:Nat) (u:List Nat) (t l:Lq) (ls:List Lq) (s:Us),u.length<n→pre t (l::ls)++u <:+ ch line→Rq (PC line (pre t (l::ls)++u)) h0 (t::l::ls) s→(pre t (l::ls)=[]→u.head?≠some 41)→(ls.length+1)+d=40→t.vs.length+u.length<1000000→l.vs.length<1000000→(∀ w∈t.vs,w.d.dep≤d) →
    (∀ xs q,sqR (itR d) n u=some (xs,q)→∃ (v:V) (s':Us) (c:Nat),v.d=.tup (t.vs.map (·.d)++xs)∧c+q.length≤(pre t (l::ls)++u).length∧Rq (PC line q) h0 ({ l with vs:=l.vs++[v] }::ls) s'∧∀ f,outer line (f+c) s=outer line f s') ∧
    (sqR (itR d) n u=none→∃ B,Bad B∧∀ f,(pre t (l::ls)++u).length<f→outer line f s=some B)
  | 0,_,_,_,_,_,h,_,_,_,_,_,_,_=>absurd h (Nat.not_lt_zero _)
  | n + 1, u, t,l,ls,s,hn,sf,R,hp,hd,hl,lv,hw=>by
    obtain⟨a1,a2⟩:=A u t (l::ls) s sf R hp (by rw[List.length_cons];exact hd) hl
    rw[sqR]
    cases e1:itR d u with
    | none=>exact⟨fun xs q e=>(by cases e),fun _=>a2 e1⟩
    | some z =>
      obtain⟨x,q1⟩:=z
      obtain⟨v,s1,c1,hv,hc1,R1,k1⟩:=a1 x q1 e1
      have F:=it_fit (by omega) e1
      have lt:=F.lt
      have su:u <:+ ch line:=(List.suffix_append _ _).trans sf
      have s1f:=F.sf.trans su
      rw[Option.bind_some]
      dsimp only
      cases q1 with
      | nil =>
        refine⟨fun xs q e=>(by cases e),fun _=>⟨.go s1,.inr ⟨s1,rfl,by rw[R1.len];simp⟩,fun f hf=>?_⟩⟩
        have:=k1 (f - c1)
        rw[List.length_nil] at hc1
        rw[show f - c1+c1=f by omega] at this
        rw[this,show f - c1=(f - c1 - 1)+1 by omega]
        exact out_end hL R1
      | cons c r =>
        dsimp only
        rw[List.length_cons] at lt hc1
        by_cases h41:c=41
        · subst h41
          rw[if_pos rfl]
          have hdep:(Dat.tup ((t.vs++[v]).map (·.d))).dep≤48:=by
            refine Nat.le_trans (dep_T (n:=d) (deps_all fun y m=>?_)) (by omega)
            rw[List.map_append,List.mem_append] at m
            rcases m with m | m
            · obtain⟨w,mw,rfl⟩:=List.mem_map.mp m
              exact hw w mw
            · rw[List.map_cons,List.map_nil,List.mem_singleton] at m
              rw[m,hv]
              exact F.dp
          obtain⟨s',e2,R2⟩:=close_step hL (t:={ t with vs:=t.vs++[v] }) R1 s1f lv hdep
          refine⟨fun xs q e=>?_,fun e=>(by cases e)⟩
          cases e
          refine⟨_,s',1+c1,?_,by omega,R2,fun f=>?_⟩
          · show Dat.tup ((t.vs++[v]).map (·.d))=_
            rw[List.map_append,List.map_cons,List.map_nil,hv]
          · rw[← Nat.add_assoc,k1,out_turn hL R1 s1f (by simp),e2]
            rfl
        · rw[if_neg h41]
          have hp1:pre { t with vs:=t.vs++[v] } (l::ls)=[32]:=by unfold pre;rw[if_pos (.inr (by simp))]
          by_cases h32:c=32
          · subst h32
            rw[if_pos rfl]
            obtain⟨b1,b2⟩:=okB A hd40 n r { t with vs:=t.vs++[v] } l ls s1 (by omega) (by rw[hp1];exact s1f) (by rw[hp1];exact R1) (by rw[hp1];intro z;cases z) hd (by rw[List.length_append,List.length_singleton];omega) lv (fun w m=>by
              rcases List.mem_append.mp m with m | m
              · exact hw w m
              · rw[List.mem_singleton.mp m,hv]
                exact F.dp)
            rw[hp1] at b1 b2
            have lr:([32]++r).length=r.length+1:=by simp
            rw[lr] at b1 b2
            refine⟨fun xs q e=>?_,fun e=>?_⟩
            · obtain⟨⟨ys,q2⟩,e2,e⟩:=Option.bind_eq_some_iff.mp e
              cases e
              obtain⟨w,s',c2,hw2,hc2,R2,k2⟩:=b1 ys q2 e2
              refine⟨w,s',c2+c1,?_,by dsimp only at hc2 ⊢;omega,R2,fun f=>?_⟩
              · rw[hw2,List.map_append,List.map_cons,List.map_nil,hv,List.append_assoc]
                rfl
              · rw[← Nat.add_assoc,k1,k2]
            · obtain⟨B,hB,k⟩:=b2 (by
                cases q:sqR (itR d) n r with
                | none=>rfl
                | some z=>rw[q] at e;cases e)
              refine⟨B,hB,fun f hf=>?_⟩
              have:=k1 (f - c1)
              rw[show f - c1+c1=f by omega] at this
              rw[this]
              exact k _ (by omega)
          · rw[if_neg h32]
            refine⟨fun xs q e=>(by cases e),fun _=>⟨_,.inl ⟨s1.2.2,rfl⟩,fun f hf=>?_⟩⟩
            have:=k1 (f - c1)
            rw[show f - c1+c1=f by omega] at this
            rw[this,show f - c1=(f - c1 - 1)+1 by omega,out_turn hL R1 s1f (by simp),no_blank hL R1 s1f hp1 h32 (.inl h41)]
            rfl
theorem okA:∀ d,d≤40→OkA line h0 d:=fun d=>by
  induction d with
  | zero =>
    intro _
    refine okA_of hL 0 fun r l ls s sf R hd hl=>⟨fun x q e=>(by cases e),fun _=>⟨_,.inl ⟨s.2.2,rfl⟩,fun f hf=>?_⟩⟩
    rw[show f=(f - 1)+1 by omega,out_turn hL R sf (by simp),blank hL R sf (fun _=>⟨40,r,rfl,by decide⟩),body_open hL R ((List.suffix_append _ _).trans sf),if_pos (by omega)]
    rfl
  | succ d ih =>
    intro hd40
    refine okA_of hL (d+1) fun r l ls s sf R hd hl=>?_
    rw[List.length_cons] at hl
    have sc:40::r <:+ ch line:=(List.suffix_append _ _).trans sf
    have o1:∀ f,outer line (f+1) s=outer line f (((PC line r:Nat):Int),s.2.1++[s.2.2.length],s.2.2++[vbOb []]):=fun f=>by
      rw[out_turn hL R sf (by simp),blank hL R sf (fun _=>⟨40,r,rfl,by decide⟩),body_open hL R sc,if_neg (by omega)]
      rfl
    have R1:=R.push (PC line r)
    have hp0:pre ⟨s.2.2.length,[]⟩ (l::ls)=[]:=by unfold pre;rw[if_neg (by simp)]
    have e0:itR (d+1) (40::r)=tpR (itR d) r:=by
      show(if (40:Nat)=40 then tpR (itR d) r else plR (40::r))=_
      rw[if_pos rfl]
    have lp:(pre l ls++40::r).length=(pre l ls).length+r.length+1:=by rw[List.length_append,List.length_cons];omega
    rw[e0,lp]
    unfold tpR
    by_cases h41:r.head?=some 41
    · rw[if_pos h41]
      obtain⟨r',rfl⟩:∃ r',r=41::r':=by
        cases r with
        | nil=>cases h41
        | cons a r'=>cases h41;exact⟨r',rfl⟩
      have hdep:(Dat.tup (([]:List V).map (·.d))).dep≤48:=by rw[List.map_nil,Dat.dep,deps];omega
      obtain⟨s',e2,R2⟩:=close_step hL (t:=⟨s.2.2.length,[]⟩) R1 (stail sc) (by omega) hdep
      refine⟨fun x q e=>?_,fun e=>(by cases e)⟩
      cases e
      refine⟨_,s',2,rfl,by rw[List.length_cons,List.tail_cons];omega,R2,fun f=>?_⟩
      rw[show f+2=(f+1)+1 from rfl,o1,out_turn hL R1 (stail sc) (by simp),e2]
      rfl
    · rw[if_neg h41]
      obtain⟨b1,b2⟩:=okB hL (ih (by omega)) (by omega) (r.length+1) r ⟨s.2.2.length,[]⟩ l ls _ (by omega) (by rw[hp0];exact stail sc) (by rw[hp0];exact R1) (fun _=>h41) (by omega) (by simp;omega) (by omega) (fun w m=>by cases m)
      rw[hp0,List.nil_append] at b1 b2
      refine⟨fun x q e=>?_,fun e=>?_⟩
      · obtain⟨⟨xs,q2⟩,e2,e⟩:=Option.bind_eq_some_iff.mp e
        cases e
        obtain⟨v,s',c,hv,hc,R2,k⟩:=b1 xs q2 e2
        refine⟨v,s',c+1,by rw[hv];rfl,by dsimp only at hc ⊢;omega,R2,fun f=>?_⟩
        rw[← Nat.add_assoc,o1,k]
      · obtain⟨B,hB,k⟩:=b2 (by
          cases q:sqR (itR d) (r.length+1) r with
          | none=>rfl
          | some z=>rw[q] at e;cases e)
        refine⟨B,hB,fun f hf=>?_⟩
        rw[show f=(f - 1)+1 by omega,o1]
        exact k _ (by omega)
theorem okC : ∀ (n:Nat) (u:List Nat) (l:Lq) (s:Us),u <:+ ch line→u.length≤n→Rq (PC line u) h0 [l] s→l.vs.length+u.length<1000000 →
    (∀ xs,clR n u=some xs→∃ (vs:List V) (s':Us) (c:Nat),vs.map (·.d)=xs∧c≤u.length∧Rq (PC line []) h0 [{ l with vs:=l.vs++vs }] s'∧∀ f,outer line (f+c) s=outer line f s') ∧
    (clR n u=none→∃ B,Bad B∧∀ f,u.length<f→outer line f s=some B)
  | 0,u,l,s,sf,hn,R,hl=>by
    obtain rfl:=List.length_eq_zero_iff.mp (Nat.le_zero.mp hn)
    refine⟨fun xs e=>?_,fun e=>(by cases e)⟩
    cases e
    exact⟨[],s,0,rfl,Nat.le_refl _,by rw[List.append_nil];exact R,fun f=>rfl⟩
  | n+1,[],l,s,sf,hn,R,hl=>by
    refine⟨fun xs e=>?_,fun e=>(by cases e)⟩
    cases e
    exact⟨[],s,0,rfl,Nat.le_refl _,by rw[List.append_nil];exact R,fun f=>rfl⟩
  | n + 1,c::r,l,s,sf,hn,R,hl=>by
    rw[List.length_cons] at hn hl ⊢
    have hp:pre l []=[32]:=if_pos (.inl rfl)
    rw[clR]
    by_cases h:c=32
    · subst h
      rw[if_pos rfl]
      obtain⟨a1,a2⟩:=okA hL (h0:=h0) 40 (Nat.le_refl _) r l [] s (by rw[hp];exact sf) (by rw[hp];exact R) (by rw[hp];intro z;cases z) rfl (by omega)
      have lr:([32]++r).length=r.length+1:=by simp
      rw[hp,lr] at a1 a2
      cases e1:itR 40 r with
      | none =>
        refine⟨fun xs e=>(by cases e),fun _=>?_⟩
        exact a2 e1
      | some z =>
        obtain⟨x,q⟩:=z
        obtain⟨v,s1,c1,hv,hc1,R1,k1⟩:=a1 x q e1
        have F:=it_fit (by omega) e1
        have lt:=F.lt
        rw[Option.bind_some]
        obtain⟨b1,b2⟩:=okC n q { l with vs:=l.vs++[v] } s1 (F.sf.trans (stail sf)) (by omega) R1 (by rw[List.length_append,List.length_singleton];omega)
        refine⟨fun xs e=>?_,fun e=>?_⟩
        · obtain⟨ys,e2,e⟩:=Option.bind_eq_some_iff.mp e
          cases e
          obtain⟨vs,s',c2,hvs,hc2,R2,k2⟩:=b1 ys e2
          refine⟨v::vs,s',c2+c1,by rw[List.map_cons,hv,hvs],by omega,?_,fun f=>by rw[← Nat.add_assoc,k1,k2]⟩
          have:l.vs++v::vs=l.vs++[v]++vs:=by simp
          rw[this]
          exact R2
        · obtain⟨B,hB,k⟩:=b2 (by
            cases z:clR n q with
            | none=>rfl
            | some z2=>rw[z] at e;cases e)
          refine⟨B,hB,fun f hf=>?_⟩
          have:=k1 (f - c1)
          rw[show f - c1+c1=f by omega] at this
          rw[this]
          exact k _ (by omega)
    · rw[if_neg h]
      refine⟨fun xs e=>(by cases e),fun _=>⟨_,.inl ⟨s.2.2,rfl⟩,fun f hf=>?_⟩⟩
      rw[show f=(f - 1)+1 by omega,out_turn hL R sf (by simp),no_blank hL R sf hp h (.inr rfl)]
      rfl
end
end Gen
set_option pp.maxSteps 200
namespace Gen
open PySem E Y
open L2 (atI ixN)
section
variable {line:Str} (hL:line.length≤1000000)
include hL
def tcR(u:List Nat): Option (List Nat×List Nat):=(txR u).bind fun q=>if q.1.all okn=true then some q else none
omit hL in
theorem tcR_q(r:List Nat): tcR (34::34::r)=(tcR r).bind fun q=>some (34::q.1,q.2):=by
  unfold tcR
  rw[txR,if_pos rfl,if_pos rfl]
  cases txR r with
  | none=>rfl
  | some z =>
    rw[Option.bind_some,Option.bind_some,Option.bind_some]
    dsimp only
    rw[List.all_cons,show okn 34=true from by decide,Bool.true_and]
    split <;> rfl
omit hL in
theorem tcR_c {c:Nat} (h:c≠34) (r:List Nat):tcR (c::r)=if okn c=true then (tcR r).bind fun q=>some (c::q.1,q.2) else none:=by
  unfold tcR
  cases r with
  | nil =>
    have e1:txR [c]=none:=by rw[txR,if_neg h]
    have e2:txR []=none:=by rw[txR]
    rw[e1,e2]
    split <;> rfl
  | cons d r =>
    rw[txR,if_neg h]
    cases txR (d::r) with
    | none=>split <;> rfl
    | some z =>
      rw[Option.bind_some,Option.bind_some,Option.bind_some]
      dsimp only
      rw[List.all_cons]
      by_cases hc:okn c=true
      · rw[hc,Bool.true_and,if_pos rfl]
        split <;> rfl
      · rw[if_neg hc,if_neg (by simp[hc])]
theorem ti_l (c:Nat) (r acc:List Nat) (sf:c::r <:+ ch line) (hl:acc.length≤1000000) (k:Int):t_law_text_item_l1 line (((PC line (c::r):Nat):Int),St acc) k =
    if c=34 then (if r.head?=some 34 then some (.go (((PC line (c::r):Nat):Int)+2,St (acc++[34]))) else some (.rt (some (St acc,((PC line r:Nat):Int)))))
    else if okn c=true then some (.go (((PC line r:Nat):Int),St (acc++[c]))) else some (.rt none):=by
  have hp:=PC_tl sf
  have hlt:=PC_lt sf
  have hok:∀ c:Nat,((decide ((c:Int)<(32:Int)))||((decide ((126:Int)<(c:Int)))||(decide ((c:Int)=(37:Int)))))=!okn c:=fun c=>by
    have:=okn_iff (c:=c)
    cases h:okn c with
    | true =>
      have:=this.mp h
      simp only[Bool.not_true,Bool.or_eq_false_iff,decide_eq_false_iff_not]
      omega
    | false =>
      have hn:¬ (32≤c∧c≤126∧c≠37):=fun z=>by rw[this.mpr z] at h;cases h
      simp only[Bool.not_false,Bool.or_eq_true,decide_eq_true_eq]
      omega
  unfold t_law_text_item_l1
  rw[len_l hL,Option.bind_some]
  dsimp only
  rw[if_neg (show ¬ decide (((ch line).length:Int)≤((PC line (c::r):Nat):Int))=true by rw[decide_eq_true_eq];omega),at_u hL sf,Option.bind_some,eqS chq,show((PC line (c::r):Nat):Int)+2=((PC line r:Nat):Int)+1 by omega,show((PC line (c::r):Nat):Int)+1=((PC line r:Nat):Int) by omega,cut1 hL (stail sf),Option.bind_some,eqT chq,Option.bind_some]
  by_cases h:c=34
  · rw[if_pos (decide_eq_true h),if_pos h]
    by_cases h2:r.head?=some 34
    · obtain⟨r',rfl⟩:∃ r',r=34::r':=by
        cases r with
        | nil=>cases h2
        | cons a r'=>cases h2;exact⟨r',rfl⟩
      have:ordO (⟨#[34]⟩:Str)=some ((34:Nat):Int):=rfl
      rw[if_neg (by simp),if_pos h2,at_u hL (stail sf),Option.bind_some,this,Option.bind_some,hok,show(!okn 34)=false from by decide,if_neg (by decide),Option.bind_some,catS (ch_St acc) (show ch (⟨#[34]⟩:Str)=[34] from rfl) (by simp;omega),Option.bind_some,Option.bind_some]
    · rw[if_pos (by simpa using h2),if_neg h2]
  · have:ordO (⟨#[c]⟩:Str)=some (c:Int):=rfl
    rw[if_neg (show ¬ decide (c=34)=true by simpa using h),if_neg h,Option.bind_some,this,Option.bind_some,hok,Option.bind_some]
    by_cases hc:okn c=true
    · rw[if_neg (by simp[hc]),if_pos hc,catS (ch_St acc) (show ch (⟨#[c]⟩:Str)=[c] from rfl) (by simp;omega),Option.bind_some,Option.bind_some]
    · rw[if_pos (by simp[hc]),if_neg hc]
theorem ti_end(acc:List Nat)(k:Int): t_law_text_item_l1 line (((PC line []:Nat):Int),St acc) k=some (.rt none):=by
  unfold t_law_text_item_l1
  rw[len_l hL,Option.bind_some,PC_nil]
  dsimp only
  rw[if_pos (by simp)]
theorem ti_loop:∀ (ks:List Int) (u acc:List Nat),u <:+ ch line→u.length<ks.length→acc.length+u.length≤1000000 →
    forE (t_law_text_item_l1 line) ks (((PC line u:Nat):Int),St acc)=some (.rt ((tcR u).map fun q=>(St (acc++q.1),((PC line q.2:Nat):Int))))
  | [],u,acc,sf,hk,hl=>by simp at hk
  | k::ks,[],acc,sf,hk,hl=>by
    rw[forE,ti_end hL]
    rfl
  | k :: ks,c::r,acc,sf,hk,hl=>by
    rw[List.length_cons,List.length_cons] at hk
    rw[List.length_cons] at hl
    rw[forE,ti_l hL c r acc sf (by omega)]
    by_cases h:c=34
    · subst h
      rw[if_pos rfl]
      by_cases h2:r.head?=some 34
      · obtain⟨r',rfl⟩:∃ r',r=34::r':=by
          cases r with
          | nil=>cases h2
          | cons a r'=>cases h2;exact⟨r',rfl⟩
        rw[List.length_cons] at hk hl
        have e1:=PC_tl sf
        have e2:=PC_tl (stail sf)
        rw[if_pos h2,Option.bind_some]
        dsimp only
        rw[show((PC line (34::34::r'):Nat):Int)+2=((PC line r':Nat):Int) by omega,ti_loop ks r' (acc++[34]) (stail (stail sf)) (by omega) (by rw[List.length_append,List.length_singleton];omega),tcR_q]
        cases tcR r' with
        | none=>rfl
        | some q=>simp
      · rw[if_neg h2]
        have:tcR (34::r)=some ([],r):=by
          unfold tcR
          cases r with
          | nil=>rfl
          | cons d r=>rw[txR,if_pos rfl,if_neg (fun z=>h2 (by rw[z];rfl))];rfl
        rw[this]
        simp
    · rw[if_neg h,tcR_c h]
      by_cases hc:okn c=true
      · rw[if_pos hc,if_pos hc,Option.bind_some]
        dsimp only
        rw[ti_loop ks r (acc++[c]) (stail sf) (by omega) (by rw[List.length_append,List.length_singleton];omega)]
        cases tcR r with
        | none=>rfl
        | some q=>simp
      · rw[if_neg hc,if_neg hc]
        rfl
theorem ti_of{u:List Nat}(sf:u <:+ ch line)(hu:u.length<(ch line).length): t_law_text_item line ((PC line u:Nat):Int)=some ((tcR u).map fun q=>(St q.1,((PC line q.2:Nat):Int))):=by
  have hcl:(ch line).length≤1000000:=by rw[ch_len];exact hL
  unfold t_law_text_item
  have e0:("":Str)=St []:=ch_inj (by rw[ch0,ch_St])
  rw[Option.bind_some,len_l hL,Option.bind_some,gd_of (by omega),Option.bind_some,e0,ti_loop hL (rangeI 0 ((ch line).length:Int)) u [] sf (by rw[length_rangeI];omega) (by simp;omega)]
  simp
theorem run_for {β:Type} {tbl:Str} {p:Nat→Bool} (hp:∀ c,p c=true↔c∈ch tbl) {l1:Int→β→Option Int}
    (h1:∀ s k,l1 s k=(lenS line).bind fun len1=>(if decide (s<len1)=true then (atS line s).bind fun ch1=>(inSO ch1 tbl).bind fun inx=>some inx else some false).bind fun both=>(if both=true then (some (s+(1:Int))).bind fun a=>some a else some s).bind fun b=>some b) :
    ∀ (ks:List β) (v:List Nat),v <:+ ch line→(v.takeWhile p).length≤ks.length→forS l1 ks ((PC line v:Nat):Int)=some ((PC line (v.dropWhile p):Nat):Int)
  | [],v,sf,hk=>by
    have h0:v.takeWhile p=[]:=List.length_eq_zero_iff.mp (Nat.le_zero.mp hk)
    have e:=tw_dw p v
    rw[h0,List.nil_append] at e
    rw[e]
    rfl
  | k :: ks,[],sf,hk=>by
    have hs:l1 ((PC line []:Nat):Int) k=some ((PC line []:Nat):Int):=by
      rw[h1,len_l hL,Option.bind_some,PC_nil,if_neg (by simp)]
      rfl
    rw[forS,hs,Option.bind_some]
    exact run_for hp h1 ks [] sf (by simp)
  | k :: ks,c::r,sf,hk=>by
    have hlt:=PC_lt sf
    have hpc:=PC_tl sf
    have hin:inSO (⟨#[c]⟩:Str) tbl=some (p c):=by
      show some (decide (c∈ch tbl))=_
      congr 1
      rw[Bool.eq_iff_iff,decide_eq_true_eq]
      exact(hp c).symm
    have hs:l1 ((PC line (c::r):Nat):Int) k=some (if p c=true then ((PC line r:Nat):Int) else ((PC line (c::r):Nat):Int)):=by
      rw[h1,len_l hL,Option.bind_some,if_pos (by rw[decide_eq_true_eq];omega),at_u hL sf,Option.bind_some,hin,Option.bind_some,Option.bind_some]
      by_cases h:p c=true
      · rw[if_pos h,if_pos h,Option.bind_some,Option.bind_some]
        congr 1
        omega
      · rw[if_neg h,if_neg h,Option.bind_some]
    rw[forS,hs,Option.bind_some]
    by_cases h:p c=true
    · rw[if_pos h,List.dropWhile_cons_of_pos h]
      rw[List.takeWhile_cons_of_pos h,List.length_cons,List.length_cons] at hk
      exact run_for hp h1 ks r (stail sf) (by omega)
    · rw[if_neg h]
      refine run_for hp h1 ks (c::r) sf ?_
      rw[List.takeWhile_cons_of_neg h]
      simp
end
end Gen
set_option pp.maxSteps 200
namespace Gen
open PySem E Y
open L2 (atI ixN)
section
variable {line:Str} (hL:line.length≤1000000)
include hL
noncomputable def numLaw(line:Str)(j:Int×Int): Option (Option ((Option Int)×Int)) :=
  (lenS line).bind fun len =>
  (gd ((-4611686018427387904≤len∧len<4611686018427387904)) (some (rangeI 0 len))).bind fun rg =>
  (forS (t_law_number_item_l1 line) rg j.1).bind fun atx4 =>
  if decide (atx4=j.1)=true then
    if decide (j.2=(1:Int))=true then
      some none
    else
      some (some (none,atx4))
  else
    (if decide ((19:Int)<(atx4 - j.1))=true then
    some true
    else
    (atS line j.1).bind fun ch2 =>
    (if ((decide (ch2=("0":Str)))&&((decide (j.2=(-1:Int)))||(decide ((1:Int)<(atx4 - j.1)))))=true then
    some true
    else
    (cutSO line (some j.1) (some atx4)).bind fun part =>
    (intSO part).bind fun num =>
    some (decide ((1000000000000000000:Int)<num))).bind fun either =>
    some either).bind fun either1 =>
    if either1=true then
      some none
    else
      (cutSO line (some j.1) (some atx4)).bind fun part1 =>
      (intSO part1).bind fun num1 =>
      (mulO j.2 num1).bind fun prod =>
      some (some ((some prod),atx4))
def datO(o:Option Int): Dat:=Option.elim o Dat.non (fun i=>Dat.int i)
theorem num_law {v:List Nat} {neg:Bool} (sv:v <:+ ch line) :
    (∀ x q,nuR v neg=some (x,q)→∃ y:Option Int,datO y=x∧numLaw line (((PC line v:Nat):Int),if neg=true then -1 else 1)=some (some (y,((PC line q:Nat):Int)))) ∧
    (nuR v neg=none→numLaw line (((PC line v:Nat):Int),if neg=true then -1 else 1)=some none):=by
  have hcl:(ch line).length≤1000000:=by rw[ch_len];exact hL
  have e:=tw_dw isd v
  have hv:=congrArg List.length e
  rw[List.length_append] at hv
  have hsl:=sv.length_le
  have pv:PC line (v.dropWhile isd)=PC line v+(v.takeWhile isd).length:=by simp only[PC];omega
  have hrun:forS (t_law_number_item_l1 line) (rangeI 0 ((ch line).length:Int)) ((PC line v:Nat):Int)=some ((PC line (v.dropWhile isd):Nat):Int):=run_for hL (tbl:="0123456789") (p:=isd) (fun c=>isd_iff.trans dig_tbl.symm) (l1:=t_law_number_item_l1 line) (fun s k=>rfl) _ v sv (by rw[length_rangeI];omega)
  unfold numLaw nuR
  dsimp only
  rw[len_l hL,Option.bind_some,gd_of (by omega),Option.bind_some,hrun,Option.bind_some]
  have hsg:decide ((if neg=true then (-1:Int) else 1)=1)=!neg:=by cases neg <;> rfl
  have hsg2:decide ((if neg=true then (-1:Int) else 1)=-1)=neg:=by cases neg <;> rfl
  by_cases h0:v.takeWhile isd=[]
  · rw[h0,List.length_nil] at pv
    rw[if_pos h0,if_pos (show decide (((PC line (v.dropWhile isd):Nat):Int)=((PC line v:Nat):Int))=true by rw[decide_eq_true_eq];omega),hsg]
    cases neg with
    | false =>
      rw[if_neg (by decide),if_pos (by decide)]
      exact⟨fun x q e=>(by cases e),fun _=>rfl⟩
    | true =>
      rw[if_pos rfl,if_neg (by decide)]
      refine⟨fun x q e=>?_,fun e=>(by cases e)⟩
      cases e
      exact⟨none,rfl,rfl⟩
  · have hp := List.length_pos_iff.mpr h0
    obtain⟨a,t,ea⟩:∃ a t,v.takeWhile isd=a::t:=by
      cases h:v.takeWhile isd with
      | nil=>exact absurd h h0
      | cons a t=>exact⟨a,t,rfl⟩
    have ev:v=a::(t++v.dropWhile isd):=by
      rw[ea] at e
      exact e.symm
    have hat:atS line ((PC line v:Nat):Int)=some ⟨#[a]⟩:=by
      have:=at_u hL (c:=a) (r:=t++v.dropWhile isd) (by rw[← ev];exact sv)
      rw[← ev] at this
      exact this
    have hh:v.head?=some a:=by rw[ev];rfl
    have hdg:∀ c∈v.takeWhile isd,48≤c∧c≤57:=fun c m=>isd_iff.mp (tw_all c m)
    have c2:(19:Int)<(((PC line (v.dropWhile isd):Nat):Int) - ((PC line v:Nat):Int))↔19<(v.takeWhile isd).length:=by omega
    have c1:(1:Int)<(((PC line (v.dropWhile isd):Nat):Int) - ((PC line v:Nat):Int))↔1<(v.takeWhile isd).length:=by omega
    rw[if_neg h0,if_neg (show ¬ decide (((PC line (v.dropWhile isd):Nat):Int)=((PC line v:Nat):Int))=true by rw[decide_eq_true_eq];omega)]
    by_cases d19:19<(v.takeWhile isd).length
    · rw[if_pos (show decide ((19:Int)<(((PC line (v.dropWhile isd):Nat):Int) - ((PC line v:Nat):Int)))=true by rw[decide_eq_true_eq];exact c2.mpr d19),if_pos (.inl d19),Option.bind_some,if_pos rfl]
      exact⟨fun x q e=>(by cases e),fun _=>rfl⟩
    · rw[if_neg (show ¬ decide ((19:Int)<(((PC line (v.dropWhile isd):Nat):Int) - ((PC line v:Nat):Int)))=true by rw[decide_eq_true_eq];exact fun z=>d19 (c2.mp z)),hat,Option.bind_some,eqS (show ch ("0":Str)=[48] by decide),hh,hsg2]
      obtain⟨i1,i2⟩:=int_ds hdg h0 (by omega)
      have htk:v.take (v.takeWhile isd).length=v.takeWhile isd:=(List.prefix_iff_eq_take.mp (List.takeWhile_prefix isd)).symm
      have hcut:cutSO line (some ((PC line v:Nat):Int)) (some ((PC line (v.dropWhile isd):Nat):Int))=some (St (v.takeWhile isd)):=by
        rw[cut_l hL _ _ (Nat.sub_le ..),dP sv,show PC line (v.dropWhile isd) - PC line v=(v.takeWhile isd).length by omega,htk]
      have k1:(decide (a=48)&&(neg||decide ((1:Int)<(((PC line (v.dropWhile isd):Nat):Int) - ((PC line v:Nat):Int)))))=decide (a=48∧(neg=true∨1<(v.takeWhile isd).length)):=by
        rw[Bool.eq_iff_iff]
        simp only[Bool.or_eq_true,Bool.and_eq_true,decide_eq_true_eq,c1]
      rw[k1]
      by_cases cc:a=48∧(neg=true∨1<(v.takeWhile isd).length)
      · rw[if_pos (decide_eq_true cc),Option.bind_some,Option.bind_some,if_pos rfl,if_pos (.inr (.inl ⟨by rw[cc.1],cc.2⟩))]
        exact⟨fun x q e=>(by cases e),fun _=>rfl⟩
      · rw[if_neg (show ¬ decide (a=48∧(neg=true∨1<(v.takeWhile isd).length))=true by rw[decide_eq_true_eq];exact cc),hcut,Option.bind_some,i1,Option.bind_some,Option.bind_some,Option.bind_some]
        by_cases hv:1000000000000000000<val (v.takeWhile isd)
        · rw[if_pos (decide_eq_true hv),if_pos (.inr (.inr hv))]
          exact⟨fun x q e=>(by cases e),fun _=>rfl⟩
        · rw[if_neg (show ¬ decide ((1000000000000000000:Int)<val (v.takeWhile isd))=true by rw[decide_eq_true_eq];exact hv),if_neg (by
            rintro(z | z | z)
            · exact d19 z
            · exact cc ⟨Option.some.inj z.1,z.2⟩
            · exact hv z),Option.bind_some,i1,Option.bind_some]
          refine⟨fun x q e=>?_,fun e=>(by cases e)⟩
          cases e
          cases neg with
          | false =>
            rw[if_neg (by decide),mulO_l (by omega) (by omega),Option.bind_some]
            exact⟨_,by rw[if_neg (by decide),Int.one_mul];rfl,rfl⟩
          | true =>
            rw[if_pos rfl,mulO_l (by omega) (by omega),Option.bind_some]
            exact⟨_,by rw[if_pos rfl,Int.neg_mul,Int.one_mul];rfl,rfl⟩
theorem number_of{c:Nat}{r:List Nat}(sf:c::r <:+ ch line):
    (∀ x q,(if c=45 then nuR r true else nuR (c::r) false)=some (x,q)→∃ y:Option Int,datO y=x∧t_law_number_item line ((PC line (c::r):Nat):Int)=some (some (y,((PC line q:Nat):Int)))) ∧
    ((if c=45 then nuR r true else nuR (c::r) false)=none→t_law_number_item line ((PC line (c::r):Nat):Int)=some none):=by
  have hp:=PC_tl sf
  have e0:t_law_number_item line ((PC line (c::r):Nat):Int)=numLaw line (if c=45 then (((PC line r:Nat):Int),-1) else (((PC line (c::r):Nat):Int),1)):=by
    unfold t_law_number_item
    rw[at_u hL sf,Option.bind_some,eqS chm]
    by_cases h:c=45
    · rw[if_pos (decide_eq_true h),if_pos h,Option.bind_some,Option.bind_some,show((PC line (c::r):Nat):Int)+1=((PC line r:Nat):Int) by omega]
      rfl
    · rw[if_neg (show ¬ decide (c=45)=true by simpa using h),if_neg h,Option.bind_some]
      rfl
  rw[e0]
  by_cases h:c=45
  · rw[if_pos h,if_pos h]
    exact num_law hL (neg:=true) (stail sf)
  · rw[if_neg h,if_neg h]
    exact num_law hL (neg:=false) sf
omit hL in
theorem txt_tc(r:List Nat): txtR r=(tcR r).bind fun q=>some (.str (St q.1),q.2):=by
  unfold txtR tcR
  cases txR r with
  | none=>rfl
  | some q =>
    rw[Option.bind_some,Option.bind_some]
    split <;> rfl
theorem item_loop {d:Nat} (hd:d≤39) {tS:Str→Int→Int→Option (Option (V×Int))} {dp:Int} (T:∀ u,u <:+ ch line→u.length<(ch line).length→(∀ x q,itR d u=some (x,q)→∃ v:V,v.d=x∧tS line ((PC line u:Nat):Int) (dp+1)=some (some (v,((PC line q:Nat):Int))))∧(itR d u=none→tS line ((PC line u:Nat):Int) (dp+1)=some none)) :
    ∀ (ks:List Int) (n c0:Nat) (u:List Nat) (acc:List V),c0::u <:+ ch line→u.length<n→u.length<ks.length→acc.length+u.length<1000000→(∀ w∈acc,w.d.dep≤d) →
    (∀ xs q,sqR (itR d) n u=some (xs,q)→∃ w:V,w.d=.tup (acc.map (·.d)++xs)∧forE (t_law_item_l1 tS line dp) ks (((PC line (c0::u):Nat):Int),acc)=some (.rt (some (w,((PC line q:Nat):Int))))) ∧
    (sqR (itR d) n u=none→forE (t_law_item_l1 tS line dp) ks (((PC line (c0::u):Nat):Int),acc)=some (.rt none))
  | [],n,c0,u,acc,sf,hn,hk,hl,hw=>by simp at hk
  | k::ks,0,c0,u,acc,sf,hn,hk,hl,hw=>absurd hn (Nat.not_lt_zero _)
  | k :: ks,n+1,c0,u,acc,sf,hn,hk,hl,hw=>by
    have hp:=PC_tl sf
    have hul:=sf.length_le
    rw[List.length_cons] at hul hk
    obtain⟨t1,t2⟩:=T u (stail sf) (by omega)
    have en:((PC line (c0::u):Nat):Int)+1=((PC line u:Nat):Int):=by omega
    rw[sqR,forE]
    cases e1:itR d u with
    | none =>
      have hm:t_law_item_l1 tS line dp (((PC line (c0::u):Nat):Int),acc) k=some (.rt none):=by
        unfold t_law_item_l1
        dsimp only
        rw[en,t2 e1,Option.bind_some,if_pos (show(none:Option (V×Int)).isNone=true from rfl)]
      rw[hm]
      exact⟨fun xs q e=>(by cases e),fun _=>rfl⟩
    | some z =>
      obtain⟨x,q1⟩:=z
      obtain⟨v,hv,e2⟩:=t1 x q1 e1
      have F:=it_fit (by omega) e1
      have lt:=F.lt
      have sq:=F.sf.trans (stail sf)
      have hdep:(Dat.tup ((acc++[v]).map fun z=>z.d)).dep≤48:=by
        refine Nat.le_trans (dep_T (n:=d) (deps_all fun y m=>?_)) (by omega)
        rw[List.map_append,List.mem_append] at m
        rcases m with m | m
        · obtain⟨w,mw,rfl⟩:=List.mem_map.mp m
          exact hw w mw
        · rw[List.map_cons,List.map_nil,List.mem_singleton] at m
          rw[m,hv]
          exact F.dp
      have hm:t_law_item_l1 tS line dp (((PC line (c0::u):Nat):Int),acc) k=if q1.head?=some 41 then some (.rt (some ((⟨Dat.tup ((acc++[v]).map fun z=>z.d),hdep⟩:V),((PC line q1:Nat):Int)+1))) else if q1.head?=some 32 then some (.go (((PC line q1:Nat):Int),acc++[v])) else some (.rt none):=by
        unfold t_law_item_l1
        dsimp only
        rw[en,e2,Option.bind_some,if_neg (by simp),Option.bind_some,appO_eq (by omega),Option.bind_some]
        dsimp only
        rw[cut1 hL sq,Option.bind_some,eqT chc,mkV_of hdep,Option.bind_some,Option.bind_some,eqT chb]
        by_cases h41:q1.head?=some 41
        · rw[if_pos (decide_eq_true h41),if_pos h41]
        · rw[if_neg (show ¬ decide (q1.head?=some 41)=true by simpa using h41),if_neg h41]
          by_cases h32:q1.head?=some 32
          · rw[if_neg (by simp[h32]),if_pos h32]
          · rw[if_pos (by simpa using h32),if_neg h32]
      rw[hm,Option.bind_some]
      dsimp only
      cases q1 with
      | nil =>
        rw[if_neg (by simp),if_neg (by simp)]
        exact⟨fun xs q e=>(by cases e),fun _=>rfl⟩
      | cons c r =>
        dsimp only
        rw[List.length_cons] at lt
        by_cases h41:c=41
        · rw[if_pos h41,if_pos (show(c::r).head?=some 41 by rw[h41];rfl)]
          refine⟨fun xs q e=>?_,fun e=>(by cases e)⟩
          cases e
          have hpq:=PC_tl sq
          refine⟨⟨_,hdep⟩,?_,?_⟩
          · show Dat.tup ((acc++[v]).map fun z=>z.d)=_
            rw[List.map_append,List.map_cons,List.map_nil,hv]
          · rw[show((PC line (c::r):Nat):Int)+1=((PC line r:Nat):Int) by omega]
            rfl
        · rw[if_neg h41,if_neg (show ¬ (c::r).head?=some 41 by simpa using h41)]
          by_cases h32:c=32
          · rw[if_pos h32,if_pos (show(c::r).head?=some 32 by rw[h32];rfl)]
            obtain⟨b1,b2⟩:=item_loop hd T ks n c r (acc++[v]) sq (by omega) (by omega) (by rw[List.length_append,List.length_singleton];omega) (fun w m=>by
              rcases List.mem_append.mp m with m | m
              · exact hw w m
              · rw[List.mem_singleton.mp m,hv]
                exact F.dp)
            rw[Option.bind_some]
            refine⟨fun xs q e=>?_,fun e=>b2 (by
              cases z:sqR (itR d) n r with
              | none=>rfl
              | some z2=>rw[z] at e;cases e)⟩
            obtain⟨⟨ys,q2⟩,e3,e⟩:=Option.bind_eq_some_iff.mp e
            cases e
            obtain⟨w,hw2,e4⟩:=b1 ys q2 e3
            exact⟨w,by rw[hw2,List.map_append,List.map_cons,List.map_nil,hv,List.append_assoc];rfl,e4⟩
          · rw[if_neg h32,if_neg (show ¬ (c::r).head?=some 32 by simpa using h32)]
            exact⟨fun xs q e=>(by cases e),fun _=>rfl⟩
theorem item_of : ∀ (D d:Nat) (u:List Nat),d<D→d≤40→u <:+ ch line→u.length<(ch line).length →
    (∀ x q,itR d u=some (x,q)→∃ v:V,v.d=x∧tf_law_item D line ((PC line u:Nat):Int) (40 - (d:Int))=some (some (v,((PC line q:Nat):Int)))) ∧
    (itR d u=none→tf_law_item D line ((PC line u:Nat):Int) (40 - (d:Int))=some none)
  | 0,d,u,h,_,_,_=>absurd h (Nat.not_lt_zero _)
  | D + 1, d, u,hd,h40,sf,hul=>by
    have hcl:(ch line).length≤1000000:=by rw[ch_len];exact hL
    show(∀ x q,itR d u=some (x,q)→∃ v:V,v.d=x∧tr_law_item (tf_law_item D) line ((PC line u:Nat):Int) (40 - (d:Int))=some (some (v,((PC line q:Nat):Int)))) ∧
      (itR d u=none→tr_law_item (tf_law_item D) line ((PC line u:Nat):Int) (40 - (d:Int))=some none)
    unfold tr_law_item
    rw[len_l hL,Option.bind_some]
    cases u with
    | nil =>
      rw[if_pos (show decide (((ch line).length:Int)≤((PC line []:Nat):Int))=true by rw[PC_nil];simp)]
      exact⟨fun x q e=>(by cases d <;> cases e),fun _=>rfl⟩
    | cons c r =>
      have hlt:=PC_lt sf
      have hp:=PC_tl sf
      rw[List.length_cons] at hul
      rw[if_neg (show ¬ decide (((ch line).length:Int)≤((PC line (c::r):Nat):Int))=true by rw[decide_eq_true_eq];omega),at_u hL sf,Option.bind_some,eqS chq,Option.bind_some,eqS cho,show((PC line (c::r):Nat):Int)+2=((PC line r:Nat):Int)+1 by omega,show((PC line (c::r):Nat):Int)+1=((PC line r:Nat):Int) by omega,Option.bind_some,gd_of (by omega),Option.bind_some]
      by_cases c34:c=34
      · rw[if_pos (decide_eq_true c34),itR_eq d c r (by omega),plR,if_pos c34,ti_of hL (stail sf) (by omega),Option.bind_some,txt_tc]
        cases tcR r with
        | none=>exact⟨fun x q e=>(by cases e),fun _=>rfl⟩
        | some z =>
          refine⟨fun x q e=>?_,fun e=>(by cases e)⟩
          cases e
          exact⟨⟨Dat.str (St z.1),Nat.le_of_ble_eq_true rfl⟩,rfl,rfl⟩
      · rw[if_neg (show ¬ decide (c=34)=true by simpa using c34)]
        by_cases c40:c=40
        · subst c40
          rw[if_neg (show ¬ (!decide ((40:Nat)=40))=true by decide)]
          cases d with
          | zero =>
            rw[if_pos (show decide ((40:Int) - ((0:Nat):Int)=40)=true by decide)]
            exact⟨fun x q e=>(by cases e),fun _=>rfl⟩
          | succ d =>
            have e0:itR (d+1) (40::r)=tpR (itR d) r:=by
              show(if (40:Nat)=40 then tpR (itR d) r else plR (40::r))=_
              rw[if_pos rfl]
            rw[if_neg (show ¬ decide ((40:Int) - ((d+1:Nat):Int)=40)=true by rw[decide_eq_true_eq];omega),cut1 hL (stail sf),Option.bind_some,eqT chc,e0]
            unfold tpR
            by_cases h41:r.head?=some 41
            · rw[if_pos (decide_eq_true h41),if_pos h41]
              obtain⟨r',rfl⟩:∃ r',r=41::r':=by
                cases r with
                | nil=>cases h41
                | cons a r'=>cases h41;exact⟨r',rfl⟩
              have hp2:=PC_tl (stail sf)
              refine⟨fun x q e=>?_,fun e=>(by cases e)⟩
              cases e
              refine⟨⟨Dat.tup [],Nat.le_trans (Nat.le_refl 1) (by decide)⟩,rfl,?_⟩
              rw[List.tail_cons,show((PC line (41::r'):Nat):Int)+1=((PC line r':Nat):Int) by omega]
            · rw[if_neg (show ¬ decide (r.head?=some 41)=true by simpa using h41),if_neg h41]
              obtain⟨b1,b2⟩:=item_loop hL (d:=d) (by omega) (tS:=tf_law_item D) (dp:=40 - ((d+1:Nat):Int)) (fun u sf hu=>by
                have:=item_of D d u (by omega) (by omega) sf hu
                rw[show(40:Int) - ((d+1:Nat):Int)+1=40 - (d:Int) by omega]
                exact this) (rangeI 0 ((ch line).length:Int)) (r.length+1) 40 r [] sf (by omega) (by rw[length_rangeI];omega) (by simp;omega) (fun w m=>by cases m)
              refine⟨fun x q e=>?_,fun e=>?_⟩
              · obtain⟨⟨xs,q2⟩,e2,e⟩:=Option.bind_eq_some_iff.mp e
                cases e
                obtain⟨w,hw,e3⟩:=b1 xs q2 e2
                exact⟨w,hw,by rw[e3];rfl⟩
              · rw[b2 (by
                  cases q:sqR (itR d) (r.length+1) r with
                  | none=>rfl
                  | some z=>rw[q] at e;cases e)]
                rfl
        · obtain⟨N1,N2⟩:=number_of hL sf
          rw[if_pos (by simpa using c40),itR_eq d c r c40,plR,if_neg c34]
          refine⟨fun x q e=>?_,fun e=>?_⟩
          · obtain⟨y,hy,e1⟩:=N1 x q e
            rw[e1,Option.bind_some]
            refine⟨_,?_,rfl⟩
            exact hy
          · rw[N2 e,Option.bind_some]
            rfl
end
end Gen
set_option pp.maxSteps 200
namespace Gen
open PySem E Y
open L2 (atI ixN)
section
variable {line:Str} (hL:line.length≤1000000)
include hL
abbrev wd(line:Str): List Nat:=(ch line).takeWhile isl
abbrev rst(line:Str): List Nat:=(ch line).dropWhile isl
def prR(line:Str): Option Dat:=if (wd line).length<1∨12<(wd line).length then none else (clR (ch line).length (rst line)).bind fun xs=>some (.tup (.str (St (wd line))::xs))
omit hL in
theorem cl_fit: ∀ {n:Nat} {u:List Nat} {xs:List Dat},u.length≤1000000→clR n u=some xs→xs.length≤u.length∧(∀ x∈xs,x.dep≤40)∧Oks xs
  | 0,u,xs,_,e=>by
    rw[clR] at e
    split at e
    · cases e;exact⟨Nat.zero_le _,fun x m=>(by cases m),by rw[Oks];trivial⟩
    · cases e
  | n+1,[],xs,_,e=>by cases e;exact⟨Nat.zero_le _,fun x m=>(by cases m),by rw[Oks];trivial⟩
  | n + 1,c::r,xs,hl,e=>by
    rw[List.length_cons] at hl
    rw[clR] at e
    split at e
    · obtain⟨⟨x,q⟩,e1,e⟩:=Option.bind_eq_some_iff.mp e
      obtain⟨ys,e2,e⟩:=Option.bind_eq_some_iff.mp e
      cases e
      have F:=it_fit (by omega) e1
      have lt:=F.lt
      dsimp only at e2
      obtain⟨h1,h2,h3⟩:=cl_fit (by omega) e2
      refine⟨by rw[List.length_cons,List.length_cons];omega,fun y m=>?_,by rw[Oks];exact⟨F.ok,h3⟩⟩
      rcases List.mem_cons.mp m with rfl | m
      · exact F.dp
      · exact h2 y m
    · cases e
theorem parse_loop:∀ (ks:List Int) (u:List Nat) (acc:List V),u <:+ ch line→u.length<(ch line).length→acc.length+u.length<1000000→(∀ w∈acc,w.d.dep≤40) →
    (∀ xs,clR ks.length u=some xs→(∃ w:V,w.d=.tup (acc.map (·.d)++xs)∧forE (t_law_parse_l2 line) ks (((PC line u:Nat):Int),acc)=some (.rt w))∨∃ acc':List V,acc'.map (·.d)=acc.map (·.d)++xs∧(∀ w∈acc',w.d.dep≤40)∧forE (t_law_parse_l2 line) ks (((PC line u:Nat):Int),acc)=some (.go (((ch line).length:Int),acc'))) ∧
    (clR ks.length u=none→forE (t_law_parse_l2 line) ks (((PC line u:Nat):Int),acc)=some (.rt (⟨Dat.non,Nat.le_of_ble_eq_true rfl⟩:V))∨∃ s,forE (t_law_parse_l2 line) ks (((PC line u:Nat):Int),acc)=some (.go s)∧s.1≠((ch line).length:Int))
  | [], u,acc,sf,hu,hl,hw=>by
    refine⟨fun xs e=>?_,fun e=>?_⟩
    · have e:(if u=[] then some [] else none)=some xs:=e
      split at e
      · rename_i h
        cases e
        subst h
        exact .inr ⟨acc,by rw[List.append_nil],hw,by rw[PC_nil];rfl⟩
      · cases e
    · have e:(if u=[] then some [] else none)=(none:Option (List Dat)):=e
      split at e
      · cases e
      · rename_i h
        refine .inr ⟨_,rfl,?_⟩
        have:=List.length_pos_iff.mpr h
        have:=sf.length_le
        show((PC line u:Nat):Int)≠_
        simp only[PC];omega
  | k :: ks,[],acc,sf,hu,hl,hw=>by
    have hdep:(Dat.tup (acc.map fun z=>z.d)).dep≤48:=Nat.le_trans (dep_T (n:=40) (deps_all fun y m=>by
      obtain⟨w,mw,rfl⟩:=List.mem_map.mp m
      exact hw w mw)) (by decide)
    have hm:t_law_parse_l2 line (((PC line []:Nat):Int),acc) k=some (.rt (⟨_,hdep⟩:V)):=by
      unfold t_law_parse_l2
      rw[len_l hL,Option.bind_some]
      dsimp only
      rw[if_pos (by rw[PC_nil,decide_eq_true_eq]),mkV_of hdep,Option.bind_some]
    rw[forE,hm]
    refine⟨fun xs e=>?_,fun e=>(by cases e)⟩
    cases e
    exact .inl ⟨⟨_,hdep⟩,by rw[List.append_nil],rfl⟩
  | k :: ks,c::r,acc,sf,hu,hl,hw=>by
    have hp:=PC_tl sf
    have hlt:=PC_lt sf
    rw[List.length_cons] at hu hl
    obtain⟨I1,I2⟩:=item_of hL 50 40 r (by omega) (by omega) (stail sf) (by omega)
    rw[show(40:Int) - ((40:Nat):Int)=0 from rfl] at I1 I2
    rw[List.length_cons,clR,forE]
    have en:((PC line (c::r):Nat):Int)+1=((PC line r:Nat):Int):=by omega
    have h0:∀ X,((lenS line).bind fun len2=>if decide (((PC line (c::r):Nat):Int)=len2)=true then X else (atS line ((PC line (c::r):Nat):Int)).bind fun ch1=>if (!decide (ch1=(" ":Str)))=true then some (Ex.rt (⟨Dat.non,Nat.le_of_ble_eq_true rfl⟩:V)) else (t_law_item line (((PC line (c::r):Nat):Int)+(1:Int)) (0:Int)).bind fun found=>if found.isNone=true then some (.rt (⟨Dat.non,Nat.le_of_ble_eq_true rfl⟩:V)) else (found).bind fun some_found=>(appO acc some_found.1).bind fun call1=>some (.go (some_found.2,call1)))=if c=32 then (t_law_item line ((PC line r:Nat):Int) (0:Int)).bind fun found=>if found.isNone=true then some (.rt (⟨Dat.non,Nat.le_of_ble_eq_true rfl⟩:V)) else (found).bind fun some_found=>(appO acc some_found.1).bind fun call1=>some (.go (some_found.2,call1)) else some (Ex.rt (⟨Dat.non,Nat.le_of_ble_eq_true rfl⟩:V)):=fun X=>by
      rw[len_l hL,Option.bind_some,if_neg (show ¬ decide (((PC line (c::r):Nat):Int)=((ch line).length:Int))=true by rw[decide_eq_true_eq];omega),at_u hL sf,Option.bind_some,eqS chb,en]
      by_cases h:c=32
      · rw[if_neg (by simp[h]),if_pos h]
      · rw[if_pos (by simp[h]),if_neg h]
    have hm:t_law_parse_l2 line (((PC line (c::r):Nat):Int),acc) k=if c=32 then (t_law_item line ((PC line r:Nat):Int) (0:Int)).bind fun found=>if found.isNone=true then some (.rt (⟨Dat.non,Nat.le_of_ble_eq_true rfl⟩:V)) else (found).bind fun some_found=>(appO acc some_found.1).bind fun call1=>some (.go (some_found.2,call1)) else some (Ex.rt (⟨Dat.non,Nat.le_of_ble_eq_true rfl⟩:V)):=h0 _
    rw[hm]
    by_cases h:c=32
    · rw[if_pos h,if_pos h]
      cases e1:itR 40 r with
      | none =>
        have:=I2 e1
        rw[show t_law_item line ((PC line r:Nat):Int) 0=some none from this,Option.bind_some,if_pos (show(none:Option (V×Int)).isNone=true from rfl)]
        exact⟨fun xs e=>(by cases e),fun _=>.inl rfl⟩
      | some z =>
        obtain⟨x,q⟩:=z
        obtain⟨v,hv,e2⟩:=I1 x q e1
        have F:=it_fit (by omega) e1
        have lt:=F.lt
        rw[show t_law_item line ((PC line r:Nat):Int) 0=some (some (v,((PC line q:Nat):Int))) from e2,Option.bind_some,Option.bind_some,if_neg (show ¬ (some (v,((PC line q:Nat):Int))).isNone=true by simp),Option.bind_some,appO_eq (by omega),Option.bind_some,Option.bind_some]
        obtain⟨b1,b2⟩:=parse_loop ks q (acc++[v]) (F.sf.trans (stail sf)) (by omega) (by rw[List.length_append,List.length_singleton];omega) (fun w m=>by
          rcases List.mem_append.mp m with m | m
          · exact hw w m
          · rw[List.mem_singleton.mp m,hv]
            exact F.dp)
        dsimp only
        refine⟨fun xs e=>?_,fun e=>b2 (by
          cases z:clR ks.length q with
          | none=>rfl
          | some z2=>rw[z] at e;cases e)⟩
        obtain⟨ys,e3,e⟩:=Option.bind_eq_some_iff.mp e
        cases e
        rcases b1 ys e3 with ⟨w,hw2,e4⟩ | ⟨acc',ha,hd,e4⟩
        · exact .inl ⟨w,by rw[hw2,List.map_append,List.map_cons,List.map_nil,hv,List.append_assoc];rfl,e4⟩
        · exact .inr ⟨acc',by rw[ha,List.map_append,List.map_cons,List.map_nil,hv,List.append_assoc];rfl,hd,e4⟩
    · rw[if_neg h,if_neg h]
      exact⟨fun xs e=>(by cases e),fun _=>.inl rfl⟩
theorem wd_rst: wd line++rst line=ch line:=tw_dw isl (ch line)
theorem rst_P: ((PC line (rst line):Nat):Int)=((wd line).length:Int):=by
  have:=congrArg List.length (wd_rst hL)
  rw[List.length_append] at this
  simp only[PC];omega
theorem cut_wd: cutSO line none (some ((wd line).length:Int))=some (St (wd line)):=by
  rw[cut_0 hL]
  congr 2
  exact(List.prefix_iff_eq_take.mp (List.takeWhile_prefix isl)).symm
theorem parse_of (hS:line.length≤900000):∃ v:V,t_law_parse line=some v∧v.d=(prR line).getD .non:=by
  have hcl:(ch line).length≤900000:=by rw[ch_len];exact hS
  have hwr:=congrArg List.length (wd_rst hL)
  rw[List.length_append] at hwr
  have hrun:forS (t_law_parse_l1 line) (signsS line) ((PC line (ch line):Nat):Int)=some ((PC line (rst line):Nat):Int):=run_for hL (tbl:="abcdefghijklmnopqrstuvwxyz") (p:=isl) (fun c=>isl_iff.trans let_tbl.symm) (l1:=t_law_parse_l1 line) (fun s k=>rfl) _ (ch line) (List.suffix_refl _) (by
    unfold signsS
    rw[List.length_map]
    show(wd line).length≤(ch line).length
    omega)
  rw[show((PC line (ch line):Nat):Int)=0 by simp[PC],rst_P hL] at hrun
  unfold t_law_parse prR
  rw[hrun,Option.bind_some]
  by_cases hb:(wd line).length<1∨12<(wd line).length
  · rw[if_pos (by
      simp only[Bool.or_eq_true,decide_eq_true_eq]
      omega),if_pos hb]
    exact⟨_,rfl,rfl⟩
  · rw[if_neg (by
      simp only[Bool.or_eq_true,decide_eq_true_eq]
      omega),if_neg hb,cut_wd hL,Option.bind_some,Option.bind_some,len_l hL,Option.bind_some,gd_of (by omega),Option.bind_some]
    let vw:V:=⟨Dat.str (St (wd line)),Nat.le_of_ble_eq_true rfl⟩
    obtain⟨b1,b2⟩:=parse_loop hL (rangeI 0 ((ch line).length:Int)) (rst line) [vw] (dw_sf isl (ch line)) (by omega) (by show 1+_<_;omega) (fun w m=>by rw[List.mem_singleton.mp m];show(Dat.str _).dep≤40;rw[Dat.dep];omega)
    rw[length_rangeI,show(((ch line).length:Int) - 0).toNat=(ch line).length by omega,rst_P hL] at b1 b2
    have e0:([St (wd line)].map fun z=>(⟨Dat.str z,Nat.le_of_ble_eq_true rfl⟩:V))=[vw]:=rfl
    rw[e0]
    cases ec:clR (ch line).length (rst line) with
    | none =>
      rcases b2 ec with e | ⟨s,e,hs⟩
      · rw[e]
        exact⟨_,rfl,rfl⟩
      · rw[e,Option.bind_some,rs_go,Option.bind_some,if_neg (by rw[decide_eq_true_eq];exact hs)]
        exact⟨_,rfl,rfl⟩
    | some xs =>
      rcases b1 xs ec with ⟨w,hw,e⟩ | ⟨acc',ha,hd,e⟩
      · rw[e]
        exact⟨w,rfl,hw⟩
      · have hdep:(Dat.tup (acc'.map fun z=>z.d)).dep≤48:=Nat.le_trans (dep_T (n:=40) (deps_all fun y m=>by
          obtain⟨w,mw,rfl⟩:=List.mem_map.mp m
          exact hd w mw)) (by decide)
        rw[e,Option.bind_some,rs_go,Option.bind_some]
        dsimp only
        rw[if_pos (decide_eq_true rfl),mkV_of hdep,Option.bind_some]
        exact⟨_,rfl,congrArg Dat.tup ha⟩
theorem is_word_of (w:List Nat) (hw:∀ c∈w,isl c=true) (hl:w.length≤1000000):t_is_word (St w)=some (decide (1≤w.length∧w.length≤12)):=by
  have l1:lenS (St w)=some ((ch (St w)).length:Int):=len_l (by rw[St_len];exact hl)
  unfold t_is_word
  rw[l1,Option.bind_some,ch_St]
  have hs:signsS (St w)=w.map fun c=>(⟨#[c]⟩:Str):=by unfold signsS;simp
  by_cases h:1≤w.length∧w.length≤12
  · rw[if_pos (by simp only[Bool.and_eq_true,decide_eq_true_eq];omega),lcOg_eq (by rw[hs,List.length_map];omega),lcO_map (f:=fun _=>true) fun x mx=>by
      rw[hs] at mx
      obtain⟨c,mc,rfl⟩:=List.mem_map.mp mx
      unfold t_is_word_c1
      have:inSO ⟨#[c]⟩ ("abcdefghijklmnopqrstuvwxyz":Str)=some true:=by
        show some (decide (c∈ch ("abcdefghijklmnopqrstuvwxyz":Str)))=_
        rw[decide_eq_true (let_tbl.mpr (isl_iff.mp (hw c mc)))]
      rw[this]
      rfl,Option.bind_some,Option.bind_some,decide_eq_true h]
    simp
  · rw[if_neg (by simp only[Bool.and_eq_true,decide_eq_true_eq];omega),Option.bind_some,decide_eq_false h]
theorem read_of (hS:line.length≤900000) (h0:List Ob):∃ h',(∀ x,prR line=some x→∃ v:V,v.d=x∧t_read_call line h0=some (.ok v,h'))∧(prR line=none→t_read_call line h0=some (.ex 1 0,h')):=by
  have hcl:(ch line).length≤900000:=by rw[ch_len];exact hS
  have hwr:=congrArg List.length (wd_rst hL)
  rw[List.length_append] at hwr
  have ez:whS (t_read_call_w2 line) t_read_call_l1 fuel (0:Int)=some ((wd line).length:Int):=by
    have:=run_w (tbl:="abcdefghijklmnopqrstuvwxyz") hL (w:=t_read_call_w2 line) (l:=t_read_call_l1) (fun s=>rfl) (fun s=>rfl) (wd line) 0 fuel (rst line) (by rw[List.drop_zero,wd_rst hL]) (fun c m=>let_tbl.mpr (isl_iff.mp (tw_all c m))) (fun c t e z=>by
      have:=dw_head e
      rw[isl_iff.mpr (let_tbl.mp z)] at this
      cases this) (by unfold fuel;omega)
    rw[Nat.zero_add] at this
    exact this
  unfold t_read_call prR
  rw[ez,Option.bind_some,cut_wd hL,Option.bind_some,is_word_of hL (wd line) (fun c m=>tw_all c m) (by omega),Option.bind_some,Option.bind_some,Option.bind_some]
  by_cases hb:(wd line).length<1∨12<(wd line).length
  · rw[if_pos hb,if_pos (show(!decide (1≤(wd line).length∧(wd line).length≤12))=true by rw[decide_eq_false (by omega)];rfl)]
    exact⟨h0,fun x e=>(by cases e),fun _=>rfl⟩
  · rw[if_neg hb,if_neg (show ¬ (!decide (1≤(wd line).length∧(wd line).length≤12))=true by rw[decide_eq_true (show 1≤(wd line).length∧(wd line).length≤12 by omega)];decide)]
    let vw:V:=⟨Dat.str (St (wd line)),Nat.le_of_ble_eq_true rfl⟩
    have e0:([St (wd line)].map fun z=>(⟨Dat.str z,Nat.le_of_ble_eq_true rfl⟩:V))=[vw]:=rfl
    have hrp:PC line (rst line)=(wd line).length:=by have:=rst_P hL;omega
    have R0:Rq (PC line (rst line)) h0 [⟨h0.length,[vw]⟩] (((wd line).length:Int),[h0.length],h0++[vbOb [vw]]):=by
      refine⟨by rw[hrp],rfl,fun m mm=>?_,by simp,fun k hk=>?_,by simp⟩
      · rw[List.mem_singleton.mp mm]
        exact⟨hp_new _ _,Nat.le_refl _⟩
      · show(h0++[vbOb [vw]])[k]?=_
        rw[List.getElem?_append_left hk]
    obtain⟨c1,c2⟩:=okC hL (h0:=h0) (ch line).length (rst line) ⟨h0.length,[vw]⟩ _ (dw_sf isl (ch line)) (by omega) R0 (by show 1+_<_;omega)
    rw[e0,show(⟨BOXC,[("",e_MV [vw])]⟩:Ob)=vbOb [vw] from rfl]
    cases ec:clR (ch line).length (rst line) with
    | none =>
      obtain⟨B,hB,k⟩:=c2 ec
      have:=k fuel (by unfold fuel;omega)
      unfold outer at this
      rw[this,Option.bind_some]
      rcases hB with ⟨h',rfl⟩ | ⟨s2,rfl,h2⟩
      · exact⟨h',fun x e=>(by cases e),fun _=>rfl⟩
      · rw[rs_go,if_pos (by rw[decide_eq_true_eq];omega)]
        exact⟨_,fun x e=>(by cases e),fun _=>rfl⟩
    | some xs =>
      obtain⟨vs,s',c,hvs,hc,R1,k⟩:=c1 xs ec
      obtain⟨f1,f2,f3⟩:=cl_fit (by omega) ec
      have st:s'.2.1=[h0.length]:=by rw[R1.st];rfl
      have bx:=(R1.bx _ (List.mem_cons_self ..)).1
      have e1:=k (fuel - c)
      rw[show fuel - c+c=fuel by unfold fuel;omega,show fuel - c=(fuel - c - 1)+1 by unfold fuel;omega,out_end hL R1] at e1
      unfold outer at e1
      have hdep:(Dat.tup (([vw]++vs).map fun z=>z.d)).dep≤48:=Nat.le_trans (dep_T (n:=40) (deps_all fun y m=>by
        rw[List.map_append,List.mem_append] at m
        rcases m with m | m
        · rw[List.map_cons,List.map_nil,List.mem_singleton] at m
          rw[m]
          show(Dat.str _).dep≤40
          rw[Dat.dep];omega
        · rw[show vs.map (fun z:V=>z.d)=xs from hvs] at m
          exact f2 y m)) (by decide)
      rw[e1,Option.bind_some,Option.bind_some,rs_go,st,if_neg (by simp),atI_0,Option.bind_some,vb_box bx,Option.bind_some,mkV_of hdep,Option.bind_some]
      refine⟨s'.2.2,fun x e=>?_,fun e=>(by cases e)⟩
      cases e
      refine⟨_,?_,rfl⟩
      show Dat.tup (([vw]++vs).map fun z=>z.d)=_
      rw[List.singleton_append,List.map_cons,show vs.map (fun z:V=>z.d)=xs from hvs]
end
end Gen
set_option pp.maxSteps 200
namespace Gen
open PySem E Y
open L2 (atI ixN)
theorem cut_any(z:Str)(lo hi:Option Int)(h:z.length≤16777216): ∃ y,cutSO z lo hi=some y∧y.length≤z.length:=by
  refine⟨_,gd_of h,?_⟩
  unfold L2.cutS
  show((z.cps.toList.drop _).take _).toArray.size≤z.cps.size
  rw[List.size_toArray,List.length_take,List.length_drop,Array.length_toList]
  omega
theorem cat_any(x y:Str)(h:x.length+y.length≤16777216): ∃ z,catSO x y=some z∧z.length=x.length+y.length:=⟨_,gd_of h,len_add x y⟩
theorem str_any(i:Int)(h0:0≤i)(h1:i≤2000000000000000000): ∃ y,strIO i=some y∧y.length≤19:=by
  refine⟨toString i,gd_of ?_,?_⟩
  · have:i.natAbs<2 ^ 62:=by omega
    by_cases h:i.natAbs=0
    · rw[h];decide
    · have:=(Nat.log2_lt h).mpr this
      omega
  · rw[← ch_len,ch_num]
    unfold dgs
    rw[if_pos h0]
    exact TL.numL_len (by decide) (by omega)
theorem menu_of(i:Int)(h0:0≤i)(h1:i<17): ∃ y,atS "()\"- 0159azZ_\n\t((" i=some y∧y.length=1:=by
  have l:(ch ("()\"- 0159azZ_\n\t((":Str)).length=17:=by decide
  obtain⟨k,rfl⟩:∃ k:Nat,i=(k:Int):=⟨i.toNat,by omega⟩
  unfold atS
  rw[gd_of (by rw[← ch_len,l];decide),atI_nat (show k<(ch ("()\"- 0159azZ_\n\t((":Str)).length by rw[l];omega)]
  exact⟨_,rfl,rfl⟩
theorem menu_len: lenS "()\"- 0159azZ_\n\t(("=some (17:Int):=by
  have l:(ch ("()\"- 0159azZ_\n\t((":Str)).length=17:=by decide
  have:=len_l (line:=("()\"- 0159azZ_\n\t((":Str)) (by rw[← ch_len,l];decide)
  rw[this,l]
  rfl
theorem rep0_of(k:Int)(h:k=0∨k=1): ∃ y,repO ("0":Str) k=some y∧y.length≤1:=by
  have l0:("0":Str).length=1:=by decide
  rcases h with rfl | rfl
  · refine⟨Str.empty,?_,by decide⟩
    unfold repO
    rw[gd_of (by refine⟨by decide,by decide,by decide,?_⟩;rw[rep_0];decide),rep_0]
  · refine⟨"0",?_,by decide⟩
    unfold repO
    rw[gd_of (by refine⟨by decide,by decide,by decide,?_⟩;rw[rep_1];decide),rep_1]
theorem pick{xs:List Str}{i:Int}{n:Nat}(h0:0≤i)(h1:i<xs.length)(h:∀ x∈xs,x.length≤n): ∃ y,atI xs i=some y∧y.length≤n:=by
  rw[atI_nn h0 h1]
  exact⟨_,rfl,h _ (List.getElem_mem _)⟩
theorem spoilt_of(line:Str)(hl:line.length≤800000)(b:Int): ∃ line' b',t_law_spoilt line [b]=some (line',b')∧line'.length≤2*line.length+30:=by
  unfold t_law_spoilt
  have hlen:lenS line=some (line.length:Int):=gd_of (by omega)
  obtain⟨kd,b1,e1,k0,k1⟩:=t_take b 9 (by omega) (by omega)
  obtain⟨at_,b2,e2,a0,a1⟩:=t_take b1 ((line.length:Int)+1) (by omega) (by omega)
  obtain⟨m,b3,e3,m0,m1⟩:=t_take b2 17 (by omega) (by omega)
  obtain⟨c,ec,cl⟩:=menu_of m m0 m1
  obtain⟨d,b4,e4,d0,d1⟩:=t_take b3 94 (by omega) (by omega)
  obtain⟨y,ey,_,yl⟩:=lsign_of d
  obtain⟨i,b5,e5,i0,i1⟩:=t_take b4 2 (by omega) (by omega)
  obtain⟨o,eo,ol⟩:=pick (xs:=[c,y]) (i:=i) (n:=1) i0 (by simp;omega) (fun x mx=>by
    simp only[List.mem_cons,List.not_mem_nil,or_false] at mx
    rcases mx with rfl | rfl <;> omega)
  obtain⟨p,ep,pl⟩:=cut_any line none (some at_) (by omega)
  obtain⟨q,eq,ql⟩:=cut_any line (some at_) none (by omega)
  obtain⟨q1,eq1,ql1⟩:=cut_any line (some (at_+1)) none (by omega)
  rw[e1,Option.bind_some,hlen,Option.bind_some]
  dsimp only
  rw[e2,Option.bind_some,Option.bind_some,menu_len,Option.bind_some]
  dsimp only
  rw[e3,Option.bind_some,ec,Option.bind_some]
  dsimp only
  rw[e4,Option.bind_some]
  dsimp only
  rw[ey,Option.bind_some,e5,Option.bind_some]
  dsimp only
  rw[eo,Option.bind_some,ep,Option.bind_some,eq,eq1]
  by_cases q0:kd=0
  · rw[if_pos (decide_eq_true q0)]
    exact⟨_,_,rfl,by omega⟩
  rw[if_neg (show ¬ decide (kd=0)=true by simpa using q0)]
  obtain⟨z1,ez1,lz1⟩:=cat_any p o (by omega)
  by_cases q2:kd<3
  · obtain⟨z2,ez2,lz2⟩:=cat_any z1 q (by omega)
    rw[if_pos (decide_eq_true q2),Option.bind_some,ez1,Option.bind_some,Option.bind_some,ez2,Option.bind_some]
    exact⟨_,_,rfl,by omega⟩
  rw[if_neg (show ¬ decide (kd<3)=true by simpa using q2)]
  by_cases q3:kd<5
  · obtain⟨z2,ez2,lz2⟩:=cat_any z1 q1 (by omega)
    rw[if_pos (decide_eq_true q3),Option.bind_some,ez1,Option.bind_some,Option.bind_some,ez2,Option.bind_some]
    exact⟨_,_,rfl,by omega⟩
  rw[if_neg (show ¬ decide (kd<5)=true by simpa using q3)]
  by_cases q4:kd=5
  · obtain⟨z2,ez2,lz2⟩:=cat_any p q1 (by omega)
    rw[if_pos (decide_eq_true q4),Option.bind_some,Option.bind_some,ez2,Option.bind_some]
    exact⟨_,_,rfl,by omega⟩
  rw[if_neg (show ¬ decide (kd=5)=true by simpa using q4)]
  by_cases q5:kd=6
  · obtain⟨x,ex,lx⟩:=pick (xs:=[(" ":Str),("  1":Str),(" )":Str),(" 01":Str),(" -0":Str),(" (1 )":Str),(" ( 1)":Str),(" (1  2)":Str),(" 1(":Str),(" \"a\"1":Str)]) (i:=at_ % 10) (n:=20) (by omega) (by simp;omega) (by decide)
    obtain⟨z2,ez2,lz2⟩:=cat_any line x (by omega)
    rw[if_pos (decide_eq_true q5),ex,Option.bind_some,ez2,Option.bind_some]
    exact⟨_,_,rfl,by omega⟩
  rw[if_neg (show ¬ decide (kd=6)=true by simpa using q5)]
  by_cases q6:kd=7
  · have lb:(" ":Str).length=1:=by decide
    obtain⟨z2,ez2,lz2⟩:=cat_any line " " (by omega)
    obtain⟨x,ex,lx⟩:=pick (xs:=[("":Str),("-":Str)]) (i:=at_ % 2) (n:=1) (by omega) (by simp;omega) (by decide)
    obtain⟨z3,ez3,lz3⟩:=cat_any z2 x (by omega)
    obtain⟨g,b6,e6,g0,g1⟩:=t_take b5 3 (by omega) (by omega)
    obtain⟨s,es,ls⟩:=str_any ((1000000000000000000:Int)+g - 1) (by omega) (by omega)
    obtain⟨z4,ez4,lz4⟩:=cat_any z3 s (by omega)
    obtain⟨g',b7,e7,g0',g1'⟩:=t_take b6 3 (by omega) (by omega)
    obtain⟨r,er,lr⟩:=rep0_of (g' / 2) (by omega)
    obtain⟨z5,ez5,lz5⟩:=cat_any z4 r (by omega)
    rw[if_pos (decide_eq_true q6),ez2,Option.bind_some,ex,Option.bind_some,ez3,Option.bind_some,e6,Option.bind_some]
    dsimp only
    rw[es,Option.bind_some,ez4,Option.bind_some,e7,Option.bind_some]
    dsimp only
    rw[er,Option.bind_some,ez5,Option.bind_some]
    exact⟨_,_,rfl,by omega⟩
  rw[if_neg (show ¬ decide (kd=7)=true by simpa using q6)]
  obtain⟨x,ex,lx⟩:=pick (xs:=[("abcdefghijklm":Str),("abcdefghijkl":Str),("":Str),(" 1":Str),("A":Str),("tick 1":Str),("-":Str)]) (i:=at_ % 7) (n:=20) (by omega) (by simp;omega) (by decide)
  rw[ex,Option.bind_some]
  exact⟨_,_,rfl,by omega⟩
theorem pr_ok {line:Str} (hS:line.length≤900000) {x:Dat} (h:prR line=some x):Okd x∧x.dep≤41:=by
  have hL:line.length≤1000000:=by omega
  have hcl:(ch line).length≤900000:=by rw[ch_len];exact hS
  have hwr:=congrArg List.length (wd_rst hL)
  rw[List.length_append] at hwr
  unfold prR at h
  split at h
  · cases h
  · rename_i hb
    obtain⟨xs,ec,h⟩:=Option.bind_eq_some_iff.mp h
    cases h
    obtain⟨f1,f2,f3⟩:=cl_fit (by omega) ec
    constructor
    · rw[Okd,Oks]
      refine⟨by rw[List.length_cons];omega,?_,f3⟩
      rw[Okd,St_len]
      refine⟨by omega,fun c m=>?_⟩
      rw[show(St (wd line)).cps.toList=wd line from ch_St _] at m
      have:=isl_iff.mp (tw_all c m)
      omega
    · exact dep_T (n:=40) (deps_all fun y m=>by
        rcases List.mem_cons.mp m with rfl | m
        · rw[Dat.dep];omega
        · exact f2 y m)
theorem turn_of (ns:List Int) (k:Int) (hk:0≤k) (line:Str) (hS:line.length≤400000) (h:List Ob) (t:Int) (ht:0≤t):∃ line' h',t_law_l1 ns k (line,h) t=some (.go (line',h'))∧line'.length≤2*line.length+30:=by
  have hL:line.length≤1000000:=by omega
  unfold t_law_l1
  obtain⟨r2,e2⟩:=t_row ns (20+2*k+t) (by omega)
  obtain⟨line',b',es,l'⟩:=spoilt_of line (by omega) r2
  obtain⟨due,e1,hd⟩:=parse_of hL (by omega)
  obtain⟨h',R1,R2⟩:=read_of hL (by omega) h
  dsimp only
  rw[e1,Option.bind_some]
  unfold t_law_told
  cases ep:prR line with
  | none =>
    rw[ep] at hd
    have hn:due.isNone=true:=by unfold V.isNone;rw[hd];rfl
    rw[R2 ep,Option.bind_some]
    dsimp only[Xr.el]
    rw[gd_of ⟨rfl,rfl⟩,Option.bind_some]
    dsimp only
    rw[hn,if_neg (by simp),if_neg (by decide),Option.bind_some,if_neg (by decide),e2,Option.bind_some,es,Option.bind_some]
    exact⟨_,_,rfl,l'⟩
  | some x =>
    obtain⟨v,hv,er⟩:=R1 x ep
    obtain⟨k1,k2⟩:=pr_ok (by omega) ep
    rw[ep] at hd
    have hdx:due.d=x:=hd
    obtain rfl:v=due:=V.ext' (hv.trans hdx.symm)
    have hnx:∃ ds,x=.tup ds:=by
      unfold prR at ep
      split at ep
      · cases ep
      · obtain⟨xs,_,ep⟩:=Option.bind_eq_some_iff.mp ep
        cases ep
        exact⟨_,rfl⟩
    obtain⟨ds,rfl⟩:=hnx
    have hn:v.isNone=false:=by
      have:=nn_tup hdx
      simpa using this
    have ea:t_law_alike v v=some true:=alike_eq 50 v (by rw[hdx];omega) (by rw[hdx];exact k1)
    rw[er,Option.bind_some]
    dsimp only[Xr.el]
    rw[Option.bind_some]
    dsimp only
    rw[hn,if_neg (by simp),if_pos (by decide),if_neg (show ¬ (!decide (("call":Str)="call"))=true by simp),ea,Option.bind_some,Option.bind_some,Option.bind_some,if_neg (by simp),e2,Option.bind_some,es,Option.bind_some]
    exact⟨_,_,rfl,l'⟩
theorem round_of(ns:List Int)(s:List Ob)(k:Int)(hk:0≤k): ∃ s',t_law_l2 ns s k=some (.go s'):=by
  unfold t_law_l2
  obtain⟨r1,e1⟩:=t_row ns k hk
  obtain⟨r2,e2⟩:=t_row ns (10+k) (by omega)
  obtain⟨v,w,ds,e3,C⟩:=call_of (r1*2147483647+r2)
  have wl:=C.wl
  have w2:=C.w2
  have e4:=line_eq C
  have hl:(St (ch w++wrt ds)).length≤80112:=by rw[St_len,List.length_append,ch_len];omega
  obtain⟨l1,h1,f1,g1⟩:=turn_of ns k hk (St (ch w++wrt ds)) (by omega) s 0 (by omega)
  obtain⟨l2,h2,f2,g2⟩:=turn_of ns k hk l1 (by omega) h1 1 (by omega)
  obtain⟨l3,h3,f3,g3⟩:=turn_of ns k hk l2 (by omega) h2 2 (by omega)
  rw[e1,Option.bind_some,e2,Option.bind_some,e3,Option.bind_some,e4,Option.bind_some,show rangeI 0 3=[0,1,2] from rfl,forE,f1,Option.bind_some]
  dsimp only
  rw[forE,f2,Option.bind_some]
  dsimp only
  rw[forE,f3,Option.bind_some]
  exact⟨_,rfl⟩
theorem t_true(ns:List Int): ∃ H,t_law ns []=some (true,H):=by
  unfold t_law
  obtain⟨s',e,_⟩:=forE_inv (tb:=t_law_l2 ns) (xs:=rangeI 0 10) (s:=([]:List Ob)) (fun _=>True) trivial fun s x mx _=>by
    obtain⟨s',e⟩:=round_of ns s x (mem_rangeI.mp mx).1
    exact⟨s',e,trivial⟩
  rw[e,Option.bind_some,rs_go]
  exact⟨_,rfl⟩
theorem law_true: ∀ ns:List Int,ns.length≤63→∃ ds hs,m_law [.lst false (ns.map .int)] []=.ok (.bl true,ds,hs):=fun ns _=>by
  obtain⟨H,e⟩:=t_true ns
  exact⟨_,_,y_law ns [] (true,H) e⟩
end Gen
namespace Gen
open PySem L2 E PySem.Spec PyProof.Rows
def TopFn(K:PySem.W.Frag)(f:Addr)(nm q:Str)(s:Stmt)(dv:Value): Prop:=∃ (oc:Value) (od:Option Addr) (sl:Array (Option Value)) (kV dc pm:Value) (an:Option Addr) (cd ct:Value),K.lookup f=some ⟨oc,od,.func (PySem.W.fnOf nm q (defArgs s) (defBody s) (defScope s) dv kV dc pm an cd ct),sl⟩∧PySem.W.codeIn K cd q=true∧PySem.W.keepIn K (.ref f)=true
theorem topFn{K:PySem.W.Frag}{f:Addr}{nm q:Str}{s:Stmt}{dv oc kV dc pm cd ct:Value}{od an:Option Addr}{sl:Array (Option Value)}(l:K.lookup f=some ⟨oc,od,.func (PySem.W.fnOf nm q (defArgs s) (defBody s) (defScope s) dv kV dc pm an cd ct),sl⟩)(c:PySem.W.codeIn K cd q=true)(kp:PySem.W.keepIn K (.ref f)=true): TopFn K f nm q s dv:=⟨_,_,_,_,_,_,_,_,_,l,c,kp⟩
abbrev s_Malformed_init: Stmt:=inClass (topS 2) 0
theorem topMal{P:Program}{K:PySem.W.Frag}{C f cc cda T:Addr}{kV doc pm ct oc cl ccl oT:Value}{an od cld cdd dT:Option Addr}{osl csl ccs sT:Array (Option Value)}{vs:Array Value}{file:Str}{tf tk:Tok}{n:Nat}
    {nm q:Str} {N:Addr} {bs bm:List Value} {sn:List Str} {sub:List Value} {ab:Bool} {col:Option Bool} {dd:Option Addr} {k0 k1 k2 k3 k5:Option Value}
    (hC:K.lookup C=some (excClassObj nm q C N bs bm true sn sub ab col dd k0 k1 k2 k3 k5 "ValueError.__new__"))
    (iC:PySem.W.findIn K (.ref C) "__init__"=some (some (.ref f)))
    (lk:K.lookup f=some ⟨oc,od,.func (PySem.W.ksFn "__init__" "Malformed.__init__" (defArgs s_Malformed_init) (defBody s_Malformed_init) (defScope s_Malformed_init) (.ref T) kV doc pm an (.ref cda) ct cc),osl⟩)
    (lc:K.lookup cc=some ⟨cl,cld,.cell (some (.ref C)),csl⟩) (la:K.lookup cda=some ⟨ccl,cdd,.fields vs,ccs⟩) (lT:K.lookup T=some ⟨oT,dT,.seq #[.int 0 tk] n,sT⟩)
    (sa:PySem.W.findIn K (.ref C) "__setattr__"=some (some (.builtin "object.__setattr__"))) (exC:PySem.W.subIn K (.ref C) (.type "BaseException")=some true) (tyC:PySem.W.typeIn K (.ref C)=some (.type "type")) (kC:PySem.W.keepIn K (.ref C)=true)
    (tI:PySem.W.typeIn K (.ref f)=some (.type "function")) (hcd:PySem.W.codeIn K (.ref cda) "Malformed.__init__"=true) (sub1:PySem.W.mroIn K C (.ref C)=some true)
    (sup:PySem.W.ks_superIn K C C "__init__"=some (some (.builtin "ValueError.__init__"))) (ve:PySem.W.subIn K (.ref C) (.type "ValueError")=some true) (st:PySem.W.nsIn K cStatics "thirdparty.any"=some none) (ln:PySem.W.findIn K (.ref C) ("line":Str)=some none)
    (hbm:PySem.HandSPX.refsVE bm=true) (hvs:vs[2]?=some (.str file tf)) (hfile:((P.main.file:Str)==file)=true) (top:(P.main.scope.names.lookup ("super":Str)).isSome=false):TopMal P K C :=
  top_mal hC iC lk lc la lT sa exC tyC kC tI hcd sub1 sup ve st ln hbm hvs hfile top rfl (fun _=>rfl) (fun _ _=>⟨_,rfl,rfl⟩)
theorem all_mk{l:PySem.W.OpenLaw}{w:World}{K:PySem.W.Frag}{h:Heap}{mg:Str→Option Value}{fa:Addr}(X:K.In h)(G:h.Ns mainGlobals mg)(hfa:mg "law"=some (.ref fa))
    {C_CrossError:Addr} (a_CrossError:PySem.W.nsIn K mainGlobals "CrossError"=some (some (.ref C_CrossError)))
    {C_LinkCut:Addr} (a_LinkCut:PySem.W.nsIn K mainGlobals "LinkCut"=some (some (.ref C_LinkCut)))
    {C_Malformed:Addr} (a_Malformed:PySem.W.nsIn K mainGlobals "Malformed"=some (some (.ref C_Malformed)))
    {C_NoMessage:Addr} (a_NoMessage:PySem.W.nsIn K mainGlobals "NoMessage"=some (some (.ref C_NoMessage)))
    (x_Malformed:TopMal l.prog K C_Malformed) (z_super:PySem.W.nsIn K mainGlobals "super"=some none)
    (h1_CrossError:PySem.W.subIn K (.ref C_CrossError) (.type "BaseException")=some true) (h2_CrossError:PySem.W.hasDictIn K C_CrossError=true) (h3_CrossError:PySem.W.typeIn K (.ref C_CrossError)=some (.type "type")) (h4_CrossError:PySem.W.subIn K (.ref C_Malformed) (.ref C_CrossError)=some true)
    (t1_Malformed:PySem.W.findIn K (.ref C_Malformed) "__getattribute__"=some (some (.builtin "BaseException.__getattribute__"))) (t2_Malformed:PySem.W.findIn K (.ref C_Malformed) "__getattr__"=some none) (t3_Malformed:PySem.W.subIn K (.ref C_Malformed) (.type "BaseException")=some true) (t4_Malformed:PySem.W.hasDictIn K C_Malformed=true) (t5_Malformed:PySem.W.findIn K (.ref C_Malformed) "__class__"=some (some (.builtin "object.__class__"))) (t6_Malformed:PySem.W.specialIn K (.builtin "object.__class__") "__get__"=some (some (.builtin "getset_descriptor.__get__"))) (t7_Malformed:PySem.W.takesIn K (.builtin "object.__class__")=some true) (t8_Malformed:PySem.W.mroIn K C_Malformed (.type "object")=some true)
    (t9_Malformed:PySem.W.subIn K (.ref C_Malformed) (.type "ValueError")=some true) (t10_Malformed:PySem.W.subIn K (.ref C_Malformed) (.ref C_NoMessage)=some false) (t11_Malformed:PySem.W.subIn K (.ref C_Malformed) (.ref C_LinkCut)=some false) (t12_Malformed:PySem.W.typeIn K (.ref C_NoMessage)=some (.type "type")) (t13_Malformed:PySem.W.typeIn K (.ref C_LinkCut)=some (.type "type")) (t14_Malformed:PySem.W.hasDictIn K C_NoMessage=true) (t15_Malformed:PySem.W.hasDictIn K C_LinkCut=true) (t16_Malformed:PySem.W.findIn K (.ref C_Malformed) ("line":Str)=some none) (t17_Malformed:(C_Malformed==C_NoMessage)=false) (t18_Malformed:(C_Malformed==C_LinkCut)=false) (z_ValueError:PySem.W.nsIn K mainGlobals "ValueError"=some none)
    {f_sign_of:Addr}
    (a_sign_of:PySem.W.nsIn K mainGlobals "sign_of"=some (some (.ref f_sign_of)))
    (q_sign_of:TopFn K f_sign_of "sign_of" "sign_of" s_sign_of .none)
    {f_is_word:Addr}
    (a_is_word:PySem.W.nsIn K mainGlobals "is_word"=some (some (.ref f_is_word)))
    (q_is_word:TopFn K f_is_word "is_word" "is_word" s_is_word .none)
    {f_end_of_number:Addr}
    (a_end_of_number:PySem.W.nsIn K mainGlobals "end_of_number"=some (some (.ref f_end_of_number)))
    (q_end_of_number:TopFn K f_end_of_number "end_of_number" "end_of_number" s_end_of_number .none)
    {f_law_row:Addr}
    (a_law_row:PySem.W.nsIn K mainGlobals "_law_row"=some (some (.ref f_law_row)))
    (q_law_row:TopFn K f_law_row "_law_row" "_law_row" s_law_row .none)
    {f_law_sign:Addr}
    (a_law_sign:PySem.W.nsIn K mainGlobals "_law_sign"=some (some (.ref f_law_sign)))
    (q_law_sign:TopFn K f_law_sign "_law_sign" "_law_sign" s_law_sign .none)
    {f_law_take:Addr}
    (a_law_take:PySem.W.nsIn K mainGlobals "_law_take"=some (some (.ref f_law_take)))
    (q_law_take:TopFn K f_law_take "_law_take" "_law_take" s_law_take .none)
    {f_law_word:Addr}
    (a_law_word:PySem.W.nsIn K mainGlobals "_law_word"=some (some (.ref f_law_word)))
    (q_law_word:TopFn K f_law_word "_law_word" "_law_word" s_law_word .none)
    {f_law_text_item:Addr}
    (a_law_text_item:PySem.W.nsIn K mainGlobals "_law_text_item"=some (some (.ref f_law_text_item)))
    (q_law_text_item:TopFn K f_law_text_item "_law_text_item" "_law_text_item" s_law_text_item .none)
    {f_law_number_item:Addr}
    (a_law_number_item:PySem.W.nsIn K mainGlobals "_law_number_item"=some (some (.ref f_law_number_item)))
    (q_law_number_item:TopFn K f_law_number_item "_law_number_item" "_law_number_item" s_law_number_item .none)
    {f_law_text:Addr}
    (a_law_text:PySem.W.nsIn K mainGlobals "_law_text"=some (some (.ref f_law_text)))
    (q_law_text:TopFn K f_law_text "_law_text" "_law_text" s_law_text .none)
    {f_law_integer:Addr}
    (a_law_integer:PySem.W.nsIn K mainGlobals "_law_integer"=some (some (.ref f_law_integer)))
    (q_law_integer:TopFn K f_law_integer "_law_integer" "_law_integer" s_law_integer .none)
    {f_law_spoilt:Addr}
    (a_law_spoilt:PySem.W.nsIn K mainGlobals "_law_spoilt"=some (some (.ref f_law_spoilt)))
    (q_law_spoilt:TopFn K f_law_spoilt "_law_spoilt" "_law_spoilt" s_law_spoilt .none)
    {f_end_of_text:Addr}
    (a_end_of_text:PySem.W.nsIn K mainGlobals "end_of_text"=some (some (.ref f_end_of_text)))
    (q_end_of_text:TopFn K f_end_of_text "end_of_text" "end_of_text" s_end_of_text .none)
    {f_read_plain:Addr}
    (a_read_plain:PySem.W.nsIn K mainGlobals "read_plain"=some (some (.ref f_read_plain)))
    (q_read_plain:TopFn K f_read_plain "read_plain" "read_plain" s_read_plain .none)
    {f_read_call:Addr}
    (a_read_call:PySem.W.nsIn K mainGlobals "read_call"=some (some (.ref f_read_call)))
    (q_read_call:TopFn K f_read_call "read_call" "read_call" s_read_call .none)
    {f_law_told:Addr}
    (a_law_told:PySem.W.nsIn K mainGlobals "_law_told"=some (some (.ref f_law_told)))
    (q_law_told:TopFn K f_law_told "_law_told" "_law_told" s_law_told .none)
    {f_law_alike:Addr}
    (a_law_alike:PySem.W.nsIn K mainGlobals "_law_alike"=some (some (.ref f_law_alike)))
    (q_law_alike:TopFn K f_law_alike "_law_alike" "_law_alike" s_law_alike .none)
    {f_law_written:Addr}
    (a_law_written:PySem.W.nsIn K mainGlobals "_law_written"=some (some (.ref f_law_written)))
    (q_law_written:TopFn K f_law_written "_law_written" "_law_written" s_law_written .none)
    {f_law_line:Addr}
    (a_law_line:PySem.W.nsIn K mainGlobals "_law_line"=some (some (.ref f_law_line)))
    (q_law_line:TopFn K f_law_line "_law_line" "_law_line" s_law_line .none)
    {f_law_item:Addr}
    (a_law_item:PySem.W.nsIn K mainGlobals "_law_item"=some (some (.ref f_law_item)))
    (q_law_item:TopFn K f_law_item "_law_item" "_law_item" s_law_item .none)
    {f_law_data:Addr}
    (a_law_data:PySem.W.nsIn K mainGlobals "_law_data"=some (some (.ref f_law_data)))
    (q_law_data:TopFn K f_law_data "_law_data" "_law_data" s_law_data .none)
    {f_law_parse:Addr}
    (a_law_parse:PySem.W.nsIn K mainGlobals "_law_parse"=some (some (.ref f_law_parse)))
    (q_law_parse:TopFn K f_law_parse "_law_parse" "_law_parse" s_law_parse .none)
    {f_law_drawn:Addr}
    (a_law_drawn:PySem.W.nsIn K mainGlobals "_law_drawn"=some (some (.ref f_law_drawn)))
    (q_law_drawn:TopFn K f_law_drawn "_law_drawn" "_law_drawn" s_law_drawn .none)
    {f_law_call:Addr}
    (a_law_call:PySem.W.nsIn K mainGlobals "_law_call"=some (some (.ref f_law_call)))
    (q_law_call:TopFn K f_law_call "_law_call" "_law_call" s_law_call .none)
    {f_law:Addr}
    (a_law:PySem.W.nsIn K mainGlobals "law"=some (some (.ref f_law)))
    (q_law:TopFn K f_law "law" "law" s_law .none)
    {t_MOST_DEPTH:Tok} (e_MOST_DEPTH:PySem.W.nsIn K mainGlobals "MOST_DEPTH"=some (some (.int 40 t_MOST_DEPTH)))
    {t_MOST_INTEGER:Tok} (e_MOST_INTEGER:PySem.W.nsIn K mainGlobals "MOST_INTEGER"=some (some (.int 1000000000000000000 t_MOST_INTEGER)))
    {t_LOW_SIGNS:Tok} (e_LOW_SIGNS:PySem.W.nsIn K mainGlobals "LOW_SIGNS"=some (some (.str " !\"#$" t_LOW_SIGNS)))
    {t_HIGH_SIGNS:Tok} (e_HIGH_SIGNS:PySem.W.nsIn K mainGlobals "HIGH_SIGNS"=some (some (.str "&'()*+,-./0123456789:;<=>?@ABCDEFGHIJKLMNOPQRSTUVWXYZ[\\]^_`abcdefghijklmnopqrstuvwxyz{|}~" t_HIGH_SIGNS)))
    {t_WORD_SIGNS:Tok} (e_WORD_SIGNS:PySem.W.nsIn K mainGlobals "WORD_SIGNS"=some (some (.int 12 t_WORD_SIGNS)))
    {t_MOST_FIGURES:Tok} (e_MOST_FIGURES:PySem.W.nsIn K mainGlobals "MOST_FIGURES"=some (some (.int 19 t_MOST_FIGURES)))
    {t_LETTERS:Tok} (e_LETTERS:PySem.W.nsIn K mainGlobals "LETTERS"=some (some (.str "abcdefghijklmnopqrstuvwxyz" t_LETTERS)))
    {t_DIGITS:Tok} (e_DIGITS:PySem.W.nsIn K mainGlobals "DIGITS"=some (some (.str "0123456789" t_DIGITS)))
    (z_all:PySem.W.nsIn K mainGlobals "all"=some none)
    (z_bool:PySem.W.nsIn K mainGlobals "bool"=some none)
    (z_int:PySem.W.nsIn K mainGlobals "int"=some none)
    (z_isinstance:PySem.W.nsIn K mainGlobals "isinstance"=some none)
    (z_len:PySem.W.nsIn K mainGlobals "len"=some none)
    (z_ord:PySem.W.nsIn K mainGlobals "ord"=some none)
    (z_range:PySem.W.nsIn K mainGlobals "range"=some none)
    (z_str:PySem.W.nsIn K mainGlobals "str"=some none)
    (z_tuple:PySem.W.nsIn K mainGlobals "tuple"=some none) :
    ∃ fd:FuncData,(∀ (s:Shared) (v:Value),BindsTo s fd ⟨[v],[]⟩ [("_law_script",v)])∧∀ base:Heap,K.In base→base.Ns mainGlobals mg→FnOk l.prog w K mg base CX0 56 fa fd ["_law_script"] (spLaw K):=by
  obtain⟨_,_,_,kV_sign_of,dc_sign_of,pm_sign_of,an_sign_of,cd_sign_of,ct_sign_of,l_sign_of,c_sign_of,kp_sign_of⟩:=q_sign_of
  obtain⟨_,_,_,kV_is_word,dc_is_word,pm_is_word,an_is_word,cd_is_word,ct_is_word,l_is_word,c_is_word,kp_is_word⟩:=q_is_word
  obtain⟨_,_,_,kV_end_of_number,dc_end_of_number,pm_end_of_number,an_end_of_number,cd_end_of_number,ct_end_of_number,l_end_of_number,c_end_of_number,kp_end_of_number⟩:=q_end_of_number
  obtain⟨_,_,_,kV_law_row,dc_law_row,pm_law_row,an_law_row,cd_law_row,ct_law_row,l_law_row,c_law_row,kp_law_row⟩:=q_law_row
  obtain⟨_,_,_,kV_law_sign,dc_law_sign,pm_law_sign,an_law_sign,cd_law_sign,ct_law_sign,l_law_sign,c_law_sign,kp_law_sign⟩:=q_law_sign
  obtain⟨_,_,_,kV_law_take,dc_law_take,pm_law_take,an_law_take,cd_law_take,ct_law_take,l_law_take,c_law_take,kp_law_take⟩:=q_law_take
  obtain⟨_,_,_,kV_law_word,dc_law_word,pm_law_word,an_law_word,cd_law_word,ct_law_word,l_law_word,c_law_word,kp_law_word⟩:=q_law_word
  obtain⟨_,_,_,kV_law_text_item,dc_law_text_item,pm_law_text_item,an_law_text_item,cd_law_text_item,ct_law_text_item,l_law_text_item,c_law_text_item,kp_law_text_item⟩:=q_law_text_item
  obtain⟨_,_,_,kV_law_number_item,dc_law_number_item,pm_law_number_item,an_law_number_item,cd_law_number_item,ct_law_number_item,l_law_number_item,c_law_number_item,kp_law_number_item⟩:=q_law_number_item
  obtain⟨_,_,_,kV_law_text,dc_law_text,pm_law_text,an_law_text,cd_law_text,ct_law_text,l_law_text,c_law_text,kp_law_text⟩:=q_law_text
  obtain⟨_,_,_,kV_law_integer,dc_law_integer,pm_law_integer,an_law_integer,cd_law_integer,ct_law_integer,l_law_integer,c_law_integer,kp_law_integer⟩:=q_law_integer
  obtain⟨_,_,_,kV_law_spoilt,dc_law_spoilt,pm_law_spoilt,an_law_spoilt,cd_law_spoilt,ct_law_spoilt,l_law_spoilt,c_law_spoilt,kp_law_spoilt⟩:=q_law_spoilt
  obtain⟨_,_,_,kV_end_of_text,dc_end_of_text,pm_end_of_text,an_end_of_text,cd_end_of_text,ct_end_of_text,l_end_of_text,c_end_of_text,kp_end_of_text⟩:=q_end_of_text
  obtain⟨_,_,_,kV_read_plain,dc_read_plain,pm_read_plain,an_read_plain,cd_read_plain,ct_read_plain,l_read_plain,c_read_plain,kp_read_plain⟩:=q_read_plain
  obtain⟨_,_,_,kV_read_call,dc_read_call,pm_read_call,an_read_call,cd_read_call,ct_read_call,l_read_call,c_read_call,kp_read_call⟩:=q_read_call
  obtain⟨_,_,_,kV_law_told,dc_law_told,pm_law_told,an_law_told,cd_law_told,ct_law_told,l_law_told,c_law_told,kp_law_told⟩:=q_law_told
  obtain⟨_,_,_,kV_law_alike,dc_law_alike,pm_law_alike,an_law_alike,cd_law_alike,ct_law_alike,l_law_alike,c_law_alike,kp_law_alike⟩:=q_law_alike
  obtain⟨_,_,_,kV_law_written,dc_law_written,pm_law_written,an_law_written,cd_law_written,ct_law_written,l_law_written,c_law_written,kp_law_written⟩:=q_law_written
  obtain⟨_,_,_,kV_law_line,dc_law_line,pm_law_line,an_law_line,cd_law_line,ct_law_line,l_law_line,c_law_line,kp_law_line⟩:=q_law_line
  obtain⟨_,_,_,kV_law_item,dc_law_item,pm_law_item,an_law_item,cd_law_item,ct_law_item,l_law_item,c_law_item,kp_law_item⟩:=q_law_item
  obtain⟨_,_,_,kV_law_data,dc_law_data,pm_law_data,an_law_data,cd_law_data,ct_law_data,l_law_data,c_law_data,kp_law_data⟩:=q_law_data
  obtain⟨_,_,_,kV_law_parse,dc_law_parse,pm_law_parse,an_law_parse,cd_law_parse,ct_law_parse,l_law_parse,c_law_parse,kp_law_parse⟩:=q_law_parse
  obtain⟨_,_,_,kV_law_drawn,dc_law_drawn,pm_law_drawn,an_law_drawn,cd_law_drawn,ct_law_drawn,l_law_drawn,c_law_drawn,kp_law_drawn⟩:=q_law_drawn
  obtain⟨_,_,_,kV_law_call,dc_law_call,pm_law_call,an_law_call,cd_law_call,ct_law_call,l_law_call,c_law_call,kp_law_call⟩:=q_law_call
  obtain⟨_,_,_,kV_law,dc_law,pm_law,an_law,cd_law,ct_law,l_law,c_law,kp_law⟩:=q_law
  have e:=hfa.symm.trans (PySem.W.mg_of X G a_law)
  cases e
  let CT:Nat→Addr:=fun n=>([C_CrossError,C_Malformed,C_NoMessage,C_LinkCut]:List Addr).getD n 0
  refine law_end (CT:=CT) law_true ?_
  have o_Malformed:TolC K mg (CT 1) C_NoMessage C_LinkCut:=⟨⟨t1_Malformed,t2_Malformed,t3_Malformed,t4_Malformed,t5_Malformed,t6_Malformed,t7_Malformed,t8_Malformed⟩,PySem.W.mg_of X G a_Malformed,PySem.W.mg_of X G a_NoMessage,PySem.W.mg_of X G a_LinkCut,PySem.W.mg_none_of X G z_ValueError,PySem.W.mg_none_of X G z_isinstance,PySem.W.mg_none_of X G z_int,t9_Malformed,t10_Malformed,t11_Malformed,t12_Malformed,t13_Malformed,t14_Malformed,t15_Malformed,t16_Malformed,t17_Malformed,t18_Malformed⟩
  have F_sign_of:=fun_mk (st:=s_sign_of) l_sign_of c_sign_of kp_sign_of
  have b_sign_of:=F_sign_of.binds (ps:=["code"]) fun _ _ _ _ _ _ us hl=>match us,hl with | [_],_=>rfl
  have F_is_word:=fun_mk (st:=s_is_word) l_is_word c_is_word kp_is_word
  have b_is_word:=F_is_word.binds (ps:=["text"]) fun _ _ _ _ _ _ us hl=>match us,hl with | [_],_=>rfl
  have F_end_of_number:=fun_mk (st:=s_end_of_number) l_end_of_number c_end_of_number kp_end_of_number
  have b_end_of_number:=F_end_of_number.binds (ps:=["line", "at"]) fun _ _ _ _ _ _ us hl=>match us,hl with | [_,_],_=>rfl
  have F_law_row:=fun_mk (st:=s_law_row) l_law_row c_law_row kp_law_row
  have b_law_row:=F_law_row.binds (ps:=["_law_script", "_law_k"]) fun _ _ _ _ _ _ us hl=>match us,hl with | [_,_],_=>rfl
  have F_law_sign:=fun_mk (st:=s_law_sign) l_law_sign c_law_sign kp_law_sign
  have b_law_sign:=F_law_sign.binds (ps:=["_law_number"]) fun _ _ _ _ _ _ us hl=>match us,hl with | [_],_=>rfl
  have F_law_take:=fun_mk (st:=s_law_take) l_law_take c_law_take kp_law_take
  have b_law_take:=F_law_take.binds (ps:=["_law_box", "_law_size"]) fun _ _ _ _ _ _ us hl=>match us,hl with | [_,_],_=>rfl
  have F_law_word:=fun_mk (st:=s_law_word) l_law_word c_law_word kp_law_word
  have b_law_word:=F_law_word.binds (ps:=["_law_number", "_law_count"]) fun _ _ _ _ _ _ us hl=>match us,hl with | [_,_],_=>rfl
  have F_law_text_item:=fun_mk (st:=s_law_text_item) l_law_text_item c_law_text_item kp_law_text_item
  have b_law_text_item:=F_law_text_item.binds (ps:=["_law_line_here", "_law_at"]) fun _ _ _ _ _ _ us hl=>match us,hl with | [_,_],_=>rfl
  have F_law_number_item:=fun_mk (st:=s_law_number_item) l_law_number_item c_law_number_item kp_law_number_item
  have b_law_number_item:=F_law_number_item.binds (ps:=["_law_line_here", "_law_at"]) fun _ _ _ _ _ _ us hl=>match us,hl with | [_,_],_=>rfl
  have F_law_text:=fun_mk (st:=s_law_text) l_law_text c_law_text kp_law_text
  have b_law_text:=F_law_text.binds (ps:=["_law_row_here", "_law_count"]) fun _ _ _ _ _ _ us hl=>match us,hl with | [_,_],_=>rfl
  have F_law_integer:=fun_mk (st:=s_law_integer) l_law_integer c_law_integer kp_law_integer
  have b_law_integer:=F_law_integer.binds (ps:=["_law_box"]) fun _ _ _ _ _ _ us hl=>match us,hl with | [_],_=>rfl
  have F_law_spoilt:=fun_mk (st:=s_law_spoilt) l_law_spoilt c_law_spoilt kp_law_spoilt
  have b_law_spoilt:=F_law_spoilt.binds (ps:=["_law_line_here", "_law_box"]) fun _ _ _ _ _ _ us hl=>match us,hl with | [_,_],_=>rfl
  have F_end_of_text:=fun_mk (st:=s_end_of_text) l_end_of_text c_end_of_text kp_end_of_text
  have b_end_of_text:=F_end_of_text.binds (ps:=["line", "at"]) fun _ _ _ _ _ _ us hl=>match us,hl with | [_,_],_=>rfl
  have F_read_plain:=fun_mk (st:=s_read_plain) l_read_plain c_read_plain kp_read_plain
  have b_read_plain:=F_read_plain.binds (ps:=["line", "at"]) fun _ _ _ _ _ _ us hl=>match us,hl with | [_,_],_=>rfl
  have F_read_call:=fun_mk (st:=s_read_call) l_read_call c_read_call kp_read_call
  have b_read_call:=F_read_call.binds (ps:=["line"]) fun _ _ _ _ _ _ us hl=>match us,hl with | [_],_=>rfl
  have F_law_told:=fun_mk (st:=s_law_told) l_law_told c_law_told kp_law_told
  have b_law_told:=F_law_told.binds (ps:=["_law_line_here"]) fun _ _ _ _ _ _ us hl=>match us,hl with | [_],_=>rfl
  have F_law_alike:=fun_mk (st:=s_law_alike) l_law_alike c_law_alike kp_law_alike
  have b_law_alike:=F_law_alike.binds (ps:=["_law_actual", "_law_due"]) fun _ _ _ _ _ _ us hl=>match us,hl with | [_,_],_=>rfl
  have F_law_written:=fun_mk (st:=s_law_written) l_law_written c_law_written kp_law_written
  have b_law_written:=F_law_written.binds (ps:=["_law_data_here"]) fun _ _ _ _ _ _ us hl=>match us,hl with | [_],_=>rfl
  have F_law_line:=fun_mk (st:=s_law_line) l_law_line c_law_line kp_law_line
  have b_law_line:=F_law_line.binds (ps:=["_law_call_here"]) fun _ _ _ _ _ _ us hl=>match us,hl with | [_],_=>rfl
  have F_law_item:=fun_mk (st:=s_law_item) l_law_item c_law_item kp_law_item
  have b_law_item:=F_law_item.binds (ps:=["_law_line_here", "_law_at", "_law_depth"]) fun _ _ _ _ _ _ us hl=>match us,hl with | [_,_,_],_=>rfl
  have F_law_data:=fun_mk (st:=s_law_data) l_law_data c_law_data kp_law_data
  have b_law_data:=F_law_data.binds (ps:=["_law_box", "_law_depth"]) fun _ _ _ _ _ _ us hl=>match us,hl with | [_,_],_=>rfl
  have F_law_parse:=fun_mk (st:=s_law_parse) l_law_parse c_law_parse kp_law_parse
  have b_law_parse:=F_law_parse.binds (ps:=["_law_line_here"]) fun _ _ _ _ _ _ us hl=>match us,hl with | [_],_=>rfl
  have F_law_drawn:=fun_mk (st:=s_law_drawn) l_law_drawn c_law_drawn kp_law_drawn
  have b_law_drawn:=F_law_drawn.binds (ps:=["_law_row_here"]) fun _ _ _ _ _ _ us hl=>match us,hl with | [_],_=>rfl
  have F_law_call:=fun_mk (st:=s_law_call) l_law_call c_law_call kp_law_call
  have b_law_call:=F_law_call.binds (ps:=["_law_row_here"]) fun _ _ _ _ _ _ us hl=>match us,hl with | [_],_=>rfl
  have F_law:=fun_mk (st:=s_law) l_law c_law kp_law
  refine⟨PySem.W.fnOf "law" "law" (defArgs s_law) (defBody s_law) (defScope s_law) .none kV_law dc_law pm_law an_law cd_law ct_law,fun s v=>.of_eq rfl,fun base _ _=>?_⟩
  have y_sign_of:T_sign_of l.prog w K mg base CT f_sign_of _:=⟨ok_sign_of (PySem.W.mg_of X G e_HIGH_SIGNS) .str (PySem.W.mg_of X G e_LOW_SIGNS) .str F_sign_of,b_sign_of⟩
  have y_is_word:T_is_word l.prog w K mg base CT f_is_word _:=⟨ok_is_word (PySem.W.mg_of X G e_LETTERS) .str (PySem.W.mg_of X G e_WORD_SIGNS) .int (PySem.W.mg_none_of X G z_all) (PySem.W.mg_none_of X G z_len) F_is_word,b_is_word⟩
  have y_end_of_number:T_end_of_number l.prog w K mg base CT f_end_of_number _:=⟨ok_end_of_number (PySem.W.mg_of X G e_DIGITS) .str (PySem.W.mg_none_of X G z_len) F_end_of_number,b_end_of_number⟩
  have y_law_row:T_law_row l.prog w K mg base CT f_law_row _:=⟨ok_law_row (PySem.W.mg_none_of X G z_int) (PySem.W.mg_none_of X G z_len) F_law_row,b_law_row⟩
  have y_law_sign:T_law_sign l.prog w K mg base CT f_law_sign _:=⟨ok_law_sign (PySem.W.mg_none_of X G z_int) F_law_sign,b_law_sign⟩
  have y_law_take:T_law_take l.prog w K mg base CT f_law_take _:=⟨ok_law_take (PySem.W.mg_none_of X G z_int) F_law_take,b_law_take⟩
  have y_law_word:T_law_word l.prog w K mg base CT f_law_word _:=⟨ok_law_word (PySem.W.mg_none_of X G z_int) (PySem.W.mg_none_of X G z_range) F_law_word,b_law_word⟩
  have y_law_text_item:T_law_text_item l.prog w K mg base CT f_law_text_item _:=⟨ok_law_text_item (PySem.W.mg_none_of X G z_len) (PySem.W.mg_none_of X G z_ord) (PySem.W.mg_none_of X G z_range) F_law_text_item,b_law_text_item⟩
  have y_law_number_item:T_law_number_item l.prog w K mg base CT f_law_number_item _:=⟨ok_law_number_item (PySem.W.mg_none_of X G z_int) (PySem.W.mg_none_of X G z_len) (PySem.W.mg_none_of X G z_range) F_law_number_item,b_law_number_item⟩
  have y_law_text:T_law_text l.prog w K mg base CT f_law_text _:=⟨ok_law_text y_law_sign (PySem.W.mg_of X G a_law_sign) kp_law_sign (PySem.W.mg_none_of X G z_int) (PySem.W.mg_none_of X G z_range) F_law_text,b_law_text⟩
  have y_law_integer:T_law_integer l.prog w K mg base CT f_law_integer _:=⟨ok_law_integer y_law_take (PySem.W.mg_of X G a_law_take) kp_law_take F_law_integer,b_law_integer⟩
  have y_law_spoilt:T_law_spoilt l.prog w K mg base CT f_law_spoilt _:=⟨ok_law_spoilt y_law_sign (PySem.W.mg_of X G a_law_sign) kp_law_sign y_law_take (PySem.W.mg_of X G a_law_take) kp_law_take (PySem.W.mg_none_of X G z_len) (PySem.W.mg_none_of X G z_str) F_law_spoilt,b_law_spoilt⟩
  have y_end_of_text:T_end_of_text l.prog w K mg base CT f_end_of_text _:=⟨ok_end_of_text (PySem.W.mg_none_of X G z_len) (x_Malformed.r (PySem.W.mg_none_of X G z_super) (PySem.W.mg_of X G a_Malformed) rfl) F_end_of_text,b_end_of_text⟩
  have y_read_plain:T_read_plain l.prog w K mg base CT f_read_plain _:=⟨ok_read_plain (PySem.W.mg_of X G e_MOST_FIGURES) .int (PySem.W.mg_of X G e_MOST_INTEGER) .int (PySem.W.mg_none_of X G z_all) y_end_of_number (PySem.W.mg_of X G a_end_of_number) kp_end_of_number y_end_of_text (PySem.W.mg_of X G a_end_of_text) kp_end_of_text (PySem.W.mg_none_of X G z_int) (PySem.W.mg_none_of X G z_ord) y_sign_of (PySem.W.mg_of X G a_sign_of) kp_sign_of (x_Malformed.r (PySem.W.mg_none_of X G z_super) (PySem.W.mg_of X G a_Malformed) rfl) F_read_plain,b_read_plain⟩
  have y_read_call:T_read_call l.prog w K mg base CT f_read_call _:=⟨ok_read_call (PySem.W.mg_of X G e_LETTERS) .str (PySem.W.mg_of X G e_MOST_DEPTH) .int y_is_word (PySem.W.mg_of X G a_is_word) kp_is_word (PySem.W.mg_none_of X G z_len) y_read_plain (PySem.W.mg_of X G a_read_plain) kp_read_plain (PySem.W.mg_none_of X G z_tuple) (x_Malformed.r (PySem.W.mg_none_of X G z_super) (PySem.W.mg_of X G a_Malformed) rfl) F_read_call,b_read_call⟩
  have y_law_told:T_law_told l.prog w K mg base CT f_law_told _:=⟨ok_law_told y_read_call (PySem.W.mg_of X G a_read_call) kp_read_call (catch_mk (PySem.W.mg_of X G a_CrossError) (C:=C_Malformed) rfl h1_CrossError h2_CrossError h3_CrossError h4_CrossError) o_Malformed F_law_told,b_law_told⟩
  have y_law_alike:T_law_alike l.prog w K mg base CT f_law_alike _:=⟨ok_law_alike (PySem.W.mg_none_of X G z_bool) (PySem.W.mg_none_of X G z_int) (PySem.W.mg_none_of X G z_isinstance) (PySem.W.mg_none_of X G z_len) (PySem.W.mg_none_of X G z_range) (PySem.W.mg_none_of X G z_str) (PySem.W.mg_none_of X G z_tuple) F_law_alike (PySem.W.mg_of X G a_law_alike) kp_law_alike b_law_alike,b_law_alike⟩
  have y_law_written:T_law_written l.prog w K mg base CT f_law_written _:=⟨ok_law_written (PySem.W.mg_none_of X G z_int) (PySem.W.mg_none_of X G z_isinstance) (PySem.W.mg_none_of X G z_str) F_law_written (PySem.W.mg_of X G a_law_written) kp_law_written b_law_written,b_law_written⟩
  have y_law_line:T_law_line l.prog w K mg base CT f_law_line _:=⟨ok_law_line y_law_written (PySem.W.mg_of X G a_law_written) kp_law_written F_law_line,b_law_line⟩
  have y_law_item:T_law_item l.prog w K mg base CT f_law_item _:=⟨ok_law_item y_law_number_item (PySem.W.mg_of X G a_law_number_item) kp_law_number_item y_law_text_item (PySem.W.mg_of X G a_law_text_item) kp_law_text_item (PySem.W.mg_none_of X G z_len) (PySem.W.mg_none_of X G z_range) (PySem.W.mg_none_of X G z_tuple) F_law_item (PySem.W.mg_of X G a_law_item) kp_law_item b_law_item,b_law_item⟩
  have y_law_data:T_law_data l.prog w K mg base CT f_law_data _:=⟨ok_law_data y_law_integer (PySem.W.mg_of X G a_law_integer) kp_law_integer y_law_take (PySem.W.mg_of X G a_law_take) kp_law_take y_law_text (PySem.W.mg_of X G a_law_text) kp_law_text (PySem.W.mg_none_of X G z_range) (PySem.W.mg_none_of X G z_tuple) F_law_data (PySem.W.mg_of X G a_law_data) kp_law_data b_law_data,b_law_data⟩
  have y_law_parse:T_law_parse l.prog w K mg base CT f_law_parse _:=⟨ok_law_parse y_law_item (PySem.W.mg_of X G a_law_item) kp_law_item (PySem.W.mg_none_of X G z_len) (PySem.W.mg_none_of X G z_range) (PySem.W.mg_none_of X G z_tuple) F_law_parse,b_law_parse⟩
  have y_law_drawn:T_law_drawn l.prog w K mg base CT f_law_drawn _:=⟨ok_law_drawn y_law_data (PySem.W.mg_of X G a_law_data) kp_law_data y_law_integer (PySem.W.mg_of X G a_law_integer) kp_law_integer y_law_take (PySem.W.mg_of X G a_law_take) kp_law_take y_law_text (PySem.W.mg_of X G a_law_text) kp_law_text (PySem.W.mg_none_of X G z_range) (PySem.W.mg_none_of X G z_tuple) F_law_drawn,b_law_drawn⟩
  have y_law_call:T_law_call l.prog w K mg base CT f_law_call _:=⟨ok_law_call y_law_data (PySem.W.mg_of X G a_law_data) kp_law_data y_law_drawn (PySem.W.mg_of X G a_law_drawn) kp_law_drawn y_law_take (PySem.W.mg_of X G a_law_take) kp_law_take y_law_word (PySem.W.mg_of X G a_law_word) kp_law_word (PySem.W.mg_none_of X G z_range) (PySem.W.mg_none_of X G z_tuple) F_law_call,b_law_call⟩
  exact ok_law y_law_alike (PySem.W.mg_of X G a_law_alike) kp_law_alike y_law_call (PySem.W.mg_of X G a_law_call) kp_law_call y_law_line (PySem.W.mg_of X G a_law_line) kp_law_line y_law_parse (PySem.W.mg_of X G a_law_parse) kp_law_parse y_law_row (PySem.W.mg_of X G a_law_row) kp_law_row y_law_spoilt (PySem.W.mg_of X G a_law_spoilt) kp_law_spoilt y_law_told (PySem.W.mg_of X G a_law_told) kp_law_told (PySem.W.mg_none_of X G z_int) (PySem.W.mg_none_of X G z_range) F_law
end Gen
open PySem PySem.W PyProof.Rows
set_option maxRecDepth 100000 in
set_option maxHeartbeats 0 in
theorem PySem.Challenge.cw_crosskeep_k15_malformed_lines_holds : PySem.Challenge.rw_crosskeep_k15_malformed_lines.Holds := by
  refine hd ?_
  k_fill
  refine L2.walk_of (l:=PySem.Challenge.rw_crosskeep_k15_malformed_lines) (n:=63) (k:=56) (x:="_law_script") (CX:=fun _=>L2.CX0) (sp:=fun w=>E.spLaw _) rfl (by decide) rfl ⟨rfl,by decide,by decide⟩ (fun w h Y=>PySem.W.kIn_of Y) ?F (fun _ _ a ns hl _ hS=>⟨a,ns,rfl,hS,hl,fun _=>rfl⟩) (fun _ _ _ _ _ h=>h)
  case F =>
    intro w mg fa h KX G hmg
    refine' Gen.all_mk KX G hmg _ _ _ _ (Gen.topMal _ _ _ _ _ _ _ _ _ _ _ _ _ _ _ _ _ _ _ _ _) _ _ _ _ _ _ _ _ _ _ _ _ _ _ _ _ _ _ _ _ _ _ _ _ _ (Gen.topFn _ _ _) _ (Gen.topFn _ _ _) _ (Gen.topFn _ _ _) _ (Gen.topFn _ _ _) _ (Gen.topFn _ _ _) _ (Gen.topFn _ _ _) _ (Gen.topFn _ _ _) _ (Gen.topFn _ _ _) _ (Gen.topFn _ _ _) _ (Gen.topFn _ _ _) _ (Gen.topFn _ _ _) _ (Gen.topFn _ _ _) _ (Gen.topFn _ _ _) _ (Gen.topFn _ _ _) _ (Gen.topFn _ _ _) _ (Gen.topFn _ _ _) _ (Gen.topFn _ _ _) _ (Gen.topFn _ _ _) _ (Gen.topFn _ _ _) _ (Gen.topFn _ _ _) _ (Gen.topFn _ _ _) _ (Gen.topFn _ _ _) _ (Gen.topFn _ _ _) _ (Gen.topFn _ _ _) _ (Gen.topFn _ _ _) _ _ _ _ _ _ _ _ _ _ _ _ _ _ _ _ _
    all_goals (try k_is)
    all_goals (try ks_is)
    all_goals (try rfl)
    all_goals (try (decide +kernel))
