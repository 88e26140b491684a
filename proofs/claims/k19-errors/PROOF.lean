import PyProof.Rows.All
import Wide.All
import OpenK.AllK
import Wide.FinOn
import HandS.ForMost
import HandS.Exc
import HandS.ExcInit
import HandS.ExcValue
import HandS.Lambda
import HandS.IsInst
import HandS.RaiseMore
import HandS.FStr
import HandS.Deep
import HandS.SortInts
import HandS.Defaults
import HandS.MakeKw
import HandS.MakeKwOnly
import HandS.Property
import HandS.ExcOwn
import HandS.WordsExc
import HandS.OwnEq
import HandS.Ends
import KE.KStateDown
import HandS.Head0
import HandS.Head1
import HandS.Head2
import HandS.HeadEnd
import HandS.HeadHook1
import HandS.HeadHook2
import HandS.ExcField
import KE.KExcIs
import KE.KExcInit
import HandS.ClsMeth
import HandS.Conv
import HandS.Style
import HandS.ExcIs
import HandS.TryOnly
import HandS.Rev
import KE.GoesEnumKw
import HandS.Star
import KE.KCallOwn
import KE.GoesMore
import KE.GoesEnum
import HandS.Flow
import PyProof.DictWalks
import HandS.SetFor
import HandS.Strs
import HandS.DictComp
import HandS.Sort
import HandS.DictTup
import HandS.Spec
import KE.KDictDisplayH
import KE.SortKeyHeap
import KE.KSortKey
import HandS.EndTab
import HandS.HeadHook4
import KE.KNestM
import KE.GoesZip
import PyProof.Draws
import PyProof.StrBlock2
import KE.SortData
import PySem.Challenge.RW_dueways_k19_errors
set_option Elab.async false
set_option linter.all false
set_option maxRecDepth 100000
set_option maxHeartbeats 0
namespace Mir
open PySem L2
inductive Dat where
  | non
  | bl (b:Bool)
  | int (i:Int)
  | str (x:Str)
  | lst (ds:List Dat)
  | tup (ds:List Dat)
  | ro (ds:List Dat)
  | ins (c:Str) (fs:List (Str×Dat))
  | dic (ks:List (Key×Dat))
  | ptr (k:Nat)
  | exn (c:Str) (fs:List (Str×Dat))
structure CM where
  at_:Str→Addr
  ex:Option (Addr×Str×Addr):=none
  lk:List (Addr×HO):=[]
instance:CoeFun CM fun _=>Str→Addr:=⟨CM.at_⟩
abbrev CM.sx (cm:CM) (e:Option (Addr×Str×Addr)):CM:={ cm with ex:=e }
abbrev CM.lkx (cm:CM) (l:Addr) (o:HO):CM:={ cm with lk:=cm.lk ++ [(l,o)] }
def Lv:Option HO→Prop
  | none=>False
  | some (.tup _)=>False
  | some _=>True
theorem Lv.ne {o:Option HO} (h:Lv o):o ≠ none:=fun z=>by rw [z] at h; exact h
theorem Lv.nt {o:Option HO} (h:Lv o) (vs:List V):o ≠ some (.tup vs):=fun z=>by rw [z] at h; exact h
theorem Lv.is {o:Option HO} {x:HO} (e:o=some x) (h:Lv (some x)):Lv o:=by rw [e]; exact h
theorem Lv.same {H H':Hp} (e:∀ a o,H a=some o→H' a=some o) {a:Addr} (h:Lv (H a)):Lv (H' a):=by
  cases q:H a with
  | none=>rw [q] at h; exact h.elim
  | some o=>rw [q] at h; rw [e a o q]; exact h
theorem Lv.upd {H:Hp} {a l:Addr} {o:HO} (h:Lv (H a)) (ho:Lv (some o):=by trivial):Lv (L2.upd H l o a):=by
  by_cases e:a=l
  · rw [e,upd_same]; exact ho
  · rw [upd_ne e]; exact h
theorem Lv.set {H:Hp} {a l:Addr} {o:HO} (h:Lv (H a)) (ho:Lv (L2.upd H l o l)):Lv (L2.upd H l o a):=h.upd (by rw [upd_same] at ho; exact ho)
structure Hd where
  as:List Addr
  ρ:List Addr
instance:Membership Addr Hd:=⟨fun M a=>a ∈ M.as⟩
instance:HAppend Hd (List Addr) Hd:=⟨fun M l=>⟨M.as ++ l,M.ρ⟩⟩
def Hd.cons (a:Addr) (M:Hd):Hd:=⟨a :: M.as,M.ρ⟩
instance {M:Hd} {a:Addr}:Decidable (a ∈ M):=inferInstanceAs (Decidable (a ∈ M.as))
theorem Hd.mem_app {M:Hd} {l:List Addr} {a:Addr}:a ∈ M ++ l ↔ a ∈ M∨a ∈ l:=List.mem_append
theorem Hd.mem_left {M:Hd} {a:Addr} (l:List Addr) (h:a ∈ M):a ∈ M ++ l:=Hd.mem_app.mpr (.inl h)
theorem Hd.mem_right {l:List Addr} {a:Addr} (M:Hd) (h:a ∈ l):a ∈ M ++ l:=Hd.mem_app.mpr (.inr h)
theorem Hd.mem_cons {M:Hd} {a b:Addr}:a ∈ M.cons b ↔ a=b∨a ∈ M:=List.mem_cons
theorem Hd.app_nil {M:Hd}:M ++ ([]:List Addr)=M:=congrArg (fun x=>(⟨x,M.ρ⟩:Hd)) (List.append_nil M.as)
structure VH where
  h:Hp
  ρ:List Addr
instance:CoeFun VH fun _=>Addr→Option HO:=⟨fun G=>G.h⟩
instance:Coe VH Hp:=⟨VH.h⟩
structure Same (G G':VH):Prop where
  h:L2.Same G.h G'.h
  r:∀ (k:Nat) (a:Addr),G.ρ[k]? =some a→G'.ρ[k]? =some a
instance {G G':VH}:CoeFun (Same G G') fun _=> ∀ a o,G a=some o→G' a=some o:=⟨Same.h⟩
theorem Same.refl (G:VH):Same G G:=⟨L2.Same.refl _,fun _ _ e=>e⟩
theorem Same.trans {A B C:VH} (x:Same A B) (y:Same B C):Same A C:=⟨x.h.trans y.h,fun k a e=>y.r k a (x.r k a e)⟩
mutual
inductive Rp (cm:CM) (K:PySem.W.Frag) (G:VH):V→Dat→Prop
  | non:Rp cm K G .non .non
  | bl (b:Bool):Rp cm K G (.bl b) (.bl b)
  | int (i:Int):Rp cm K G (.int i) (.int i)
  | str (x:Str):Rp cm K G (.str x) (.str x)
  | lst {a:Addr} {vs:List V} {ds:List Dat}:G a=some (.lst vs)→RpAll cm K G vs ds→Rp cm K G (.ref a) (.lst ds)
  | ro {a:Addr} {vs:List V} {ds:List Dat}:SqL K G a vs→RpAll cm K G vs ds→Rp cm K G (.ref a) (.ro ds)
  | tup {a:Addr} {vs:List V} {ds:List Dat}:SqT K G a vs→RpAll cm K G vs ds→Rp cm K G (.ref a) (.tup ds)
  | ins {a dx:Addr} {c:Str} {gs:List (Str×V)} {fs:List (Str×Dat)}:G a=some (.ins (cm c) dx gs)→RpF cm K G gs fs→Rp cm K G (.ref a) (.ins c fs)
  | dic {a:Addr} {gs:List (Key×V)} {fs:List (Key×Dat)}:G a=some (.dK gs)→RpK cm K G gs fs→Rp cm K G (.ref a) (.dic fs)
  | ptr {a:Addr} {k:Nat}:G.ρ[k]? =some a→Rp cm K G (.ref a) (.ptr k)
  | exn {a dx:Addr} {c:Str} {gs:List (Str×V)} {fs:List (Str×Dat)}:G a=some (exo a (cm c) (some dx))→G dx=some (exd dx gs)→RpF cm K G gs fs→Rp cm K G (.ref a) (.exn c fs)
  | exn0 {a:Addr} {c:Str}:G a=some (ExO (.ref (cm c)) a)→Rp cm K G (.ref a) (.exn c [])
inductive RpAll (cm:CM) (K:PySem.W.Frag) (G:VH):List V→List Dat→Prop
  | nil:RpAll cm K G [] []
  | cons {v:V} {d:Dat} {vs:List V} {ds:List Dat}:Rp cm K G v d→RpAll cm K G vs ds→RpAll cm K G (v :: vs) (d :: ds)
inductive RpF (cm:CM) (K:PySem.W.Frag) (G:VH):List (Str×V)→List (Str×Dat)→Prop
  | nil:RpF cm K G [] []
  | cons {f:Str} {v:V} {d:Dat} {gs:List (Str×V)} {fs:List (Str×Dat)}:Rp cm K G v d→RpF cm K G gs fs→RpF cm K G ((f,v) :: gs) ((f,d) :: fs)
inductive RpK (cm:CM) (K:PySem.W.Frag) (G:VH):List (Key×V)→List (Key×Dat)→Prop
  | nil:RpK cm K G [] []
  | cons {f:Key} {v:V} {d:Dat} {gs:List (Key×V)} {fs:List (Key×Dat)}:Rp cm K G v d→RpK cm K G gs fs→RpK cm K G ((f,v) :: gs) ((f,d) :: fs)
end
theorem yp {K:PySem.W.Frag} {H H':Hp} {a:Addr} {xs:List V} (e:L2.Same H H') (h:SqT K H a xs):SqT K H' a xs:=by
  rcases h with (h | ⟨o,h⟩) | h
  · exact .inl (.inl (e _ _ h))
  · exact .inl (.inr ⟨o,e _ _ h⟩)
  · exact .inr h
section
variable {cm:CM} {K:PySem.W.Frag} {G G':VH}
mutual
theorem Rp.mono (e:Same G G'):∀ {v:V} {d:Dat},Rp cm K G v d→Rp cm K G' v d
  | _,_,.non=> .non
  | _,_,.bl b=> .bl b
  | _,_,.int i=> .int i
  | _,_,.str x=> .str x
  | _,_,.lst s r=> .lst (e _ _ s) (RpAll.mono e r)
  | _,_,.ro s r=> .ro (e.h.seq s) (RpAll.mono e r)
  | _,_,.tup s r=> .tup (yp e.h s) (RpAll.mono e r)
  | _,_,.ins s r=> .ins (e _ _ s) (RpF.mono e r)
  | _,_,.dic s r=> .dic (e _ _ s) (RpK.mono e r)
  | _,_,.ptr q=> .ptr (e.r _ _ q)
  | _,_,.exn s t r=> .exn (e _ _ s) (e _ _ t) (RpF.mono e r)
  | _,_,.exn0 s=> .exn0 (e _ _ s)
theorem RpAll.mono (e:Same G G'):∀ {vs:List V} {ds:List Dat},RpAll cm K G vs ds→RpAll cm K G' vs ds
  | _,_,.nil=> .nil
  | _,_,.cons a b=> .cons (Rp.mono e a) (RpAll.mono e b)
theorem RpF.mono (e:Same G G'):∀ {vs:List (Str×V)} {ds:List (Str×Dat)},RpF cm K G vs ds→RpF cm K G' vs ds
  | _,_,.nil=> .nil
  | _,_,.cons a b=> .cons (Rp.mono e a) (RpF.mono e b)
theorem RpK.mono (e:Same G G'):∀ {vs:List (Key×V)} {ds:List (Key×Dat)},RpK cm K G vs ds→RpK cm K G' vs ds
  | _,_,.nil=> .nil
  | _,_,.cons a b=> .cons (Rp.mono e a) (RpK.mono e b)
end
theorem RpAll.length:∀ {vs:List V} {ds:List Dat},RpAll cm K G vs ds→vs.length=ds.length
  | _,_,.nil=>rfl
  | _,_,.cons _ b=>congrArg Nat.succ (RpAll.length b)
theorem RpAll.get:∀ {vs:List V} {ds:List Dat},RpAll cm K G vs ds→∀ {i:Nat} {d:Dat},ds[i]? =some d→∃ v,vs[i]? =some v∧Rp cm K G v d
  | _,_,.nil,i,d,e=>by simp at e
  | _,_,.cons a b,0,d,e=>⟨_,rfl,by simp at e; rw [← e]; exact a⟩
  | _,_,.cons a b,i + 1,d,e=>RpAll.get b (i:=i) (by simpa using e)
theorem RpAll.get':∀ {vs:List V} {ds:List Dat},RpAll cm K G vs ds→∀ {i:Nat} {v:V},vs[i]? =some v→∃ d,ds[i]? =some d∧Rp cm K G v d
  | _,_,.nil,i,d,e=>by simp at e
  | _,_,.cons a b,0,d,e=>⟨_,rfl,by simp at e; rw [← e]; exact a⟩
  | _,_,.cons a b,i + 1,d,e=>RpAll.get' b (i:=i) (by simpa using e)
theorem RpAll.append:∀ {vs:List V} {ds:List Dat} {us:List V} {es:List Dat},RpAll cm K G vs ds→RpAll cm K G us es→RpAll cm K G (vs ++ us) (ds ++ es)
  | _,_,_,_,.nil,r=>r
  | _,_,_,_,.cons a b,r=> .cons a (RpAll.append b r)
theorem RpAll.set {v:V} {d:Dat} (r:Rp cm K G v d):∀ {vs:List V} {ds:List Dat} (i:Nat),RpAll cm K G vs ds→RpAll cm K G (vs.set i v) (ds.set i d)
  | _,_,_,.nil=> .nil
  | _,_,0,.cons _ b=> .cons r b
  | _,_,i + 1,.cons a b=> .cons a (RpAll.set r i b)
theorem RpAll.take:∀ {vs:List V} {ds:List Dat} (i:Nat),RpAll cm K G vs ds→RpAll cm K G (vs.take i) (ds.take i)
  | _,_,0,_=> .nil
  | _,_,_ + 1,.nil=> .nil
  | _,_,i + 1,.cons a b=> .cons a (RpAll.take i b)
theorem RpAll.drop:∀ {vs:List V} {ds:List Dat} (i:Nat),RpAll cm K G vs ds→RpAll cm K G (vs.drop i) (ds.drop i)
  | _,_,0,r=>r
  | _,_,_ + 1,.nil=> .nil
  | _,_,i + 1,.cons a b=>RpAll.drop i b
theorem RpF.lookup:∀ {gs:List (Str×V)} {fs:List (Str×Dat)},RpF cm K G gs fs→∀ {f:Str} {d:Dat},fs.lookup f=some d→∃ v,gs.lookup f=some v∧Rp cm K G v d
  | _,_,.nil,f,d,e=>by cases e
  | _,_,.cons (f:=g) (v:=v) (d:=d') (gs:=gs) (fs:=fs) a b,f,d,e=>by
    simp only [List.lookup] at e ⊢
    cases h:(f == g) with
    | true=>rw [h] at e; cases e; exact ⟨v,rfl,a⟩
    | false=>rw [h] at e; exact RpF.lookup b e
theorem RpF.length:∀ {gs:List (Str×V)} {fs:List (Str×Dat)},RpF cm K G gs fs→gs.length=fs.length
  | _,_,.nil=>rfl
  | _,_,.cons _ b=>congrArg Nat.succ (RpF.length b)
end
def jm4 (f:Str) (d:Dat):List (Str×Dat)→List (Str×Dat)
  | []=>[(f,d)]
  | (g,e) :: r=>if g=f then (g,d) :: r else (g,e) :: jm4 f d r
theorem RpF.put {cm:CM} {K:PySem.W.Frag} {G:VH} {f:Str} {v:V} {d:Dat} (r:Rp cm K G v d):∀ {gs:List (Str×V)} {fs:List (Str×Dat)},RpF cm K G gs fs→RpF cm K G (putF f v gs) (jm4 f d fs)
  | _,_,.nil=> .cons r .nil
  | _,_,.cons (f:=g) a b=>by
    unfold putF jm4
    by_cases h:g=f
    · rw [if_pos h,if_pos h]
      first
        | exact .cons r b
        | (subst h; exact .cons r b)
    · rw [if_neg h,if_neg h]
      exact .cons a (RpF.put r b)
def hid (M:Hd) (H:Hp):VH:=⟨fun a=>if a ∈ M then none else H a,M.ρ⟩
theorem jb7 {M:Hd} {H:Hp} {a:Addr} (h:a ∈ M):hid M H a=none:=if_pos h
theorem vQ {M:Hd} {H:Hp} {a:Addr} (h:a ∉ M):hid M H a=H a:=if_neg h
theorem Jk {M:Hd} {H:Hp}:L2.Same (hid M H) H:=fun a o e=>by
  by_cases h:a ∈ M
  · rw [jb7 h] at e; cases e
  · rw [vQ h] at e; exact e
theorem jeh {M:Hd} {H:Hp}:Same (hid M H) ⟨H,M.ρ⟩:=⟨Jk,fun _ _ e=>e⟩
theorem jdK {M:Hd} {H H':Hp} (s:∀ a o,a ∉ M→H a=some o→H' a=some o):Same (hid M H) (hid M H'):=⟨fun a o e=>by
  by_cases h:a ∈ M
  · rw [jb7 h] at e; cases e
  · rw [vQ h] at e ⊢; exact s a o h e,fun _ _ e=>e⟩
theorem jdS {M M':Hd} {H H':Hp} (s:∀ a o,a ∉ M→H a=some o→a ∉ M'∧H' a=some o) (r:∀ (k:Nat) (a:Addr),M.ρ[k]? =some a→M'.ρ[k]? =some a):Same (hid M H) (hid M' H'):=⟨fun a o e=>by
  by_cases h:a ∈ M
  · rw [jb7 h] at e; cases e
  · rw [vQ h] at e
    obtain ⟨x,y⟩:=s a o h e
    rw [vQ x]; exact y,r⟩
theorem ya {M M':Hd} {H:Hp} (s:∀ a,a ∈ M'→a ∈ M) (r:M.ρ=M'.ρ:=by rfl):Same (hid M H) (hid M' H):=⟨fun a o e=>by
  by_cases h:a ∈ M
  · rw [jb7 h] at e; cases e
  · rw [vQ h] at e
    rw [vQ fun z=>h (s a z)]; exact e,fun k a e=>by rw [show (hid M' H).ρ=M'.ρ from rfl,← r]; exact e⟩
theorem jgh {M:Hd} {H:Hp} {a:Addr} {o:HO} (h:a ∈ M):hid M (upd H a o)=hid M H:=by
  have e:(hid M (upd H a o)).h=(hid M H).h:=by
    funext b
    by_cases hb:b ∈ M
    · rw [jb7 hb,jb7 hb]
    · rw [vQ hb,vQ hb,upd_ne (a:=a) (b:=b) (fun z=>hb (by rw [z]; exact h))]
  show (⟨(hid M (upd H a o)).h,M.ρ⟩:VH)=⟨(hid M H).h,M.ρ⟩
  rw [e]
theorem jZ {H:Hp} {p:Addr} {o:HO} (h:H p=none):L2.Same H (upd H p o):=fun b x e=>by
  rw [upd_ne (ne_of_none e h)]; exact e
inductive Own where
  | lst (ds:List Dat)
  | obj (c:Str) (fs:List (Str×Dat))
  | dic (ks:List (Key×Dat))
  | dit (ks:List (List Key×Dat))
  | gone (n:Nat)
  | tab (d q:Str)
abbrev Ths:=List Own
inductive vW where
  | no
  | dat (d:Dat)
  | loc (ds:List Dat)
  | own (j:Nat) (o:Own)
  | exn (c:Str) (fs:List (Str×Dat))
  | heap (T:Ths)
abbrev Sg:=List vW
def vW.isLoc:vW→Bool
  | .loc _=>true
  | _=>false
def jP:Sg→St→List Addr
  | .loc _ :: S,some (.ref l) :: σ=>l :: jP S σ
  | _ :: S,_ :: σ=>jP S σ
  | _,_=>[]
def wP:Sg→List Nat
  | .own j _ :: S=>j :: wP S
  | _ :: S=>wP S
  | []=>[]
structure Fb where
  cm:CM
  K:PySem.W.Frag
  H0:Hp
  A0:List Addr
  N0:Hd
  T:List (Addr×HO):=[]
  im:Bool:=false
structure Fm extends Fb where
  M:Hd
def Fm.to (F F':Fm):Prop:=F'.toFb=F.toFb∧(F.im=false→F'.M=F.M)
theorem Fm.rf (F:Fm):F.to F:=⟨rfl,fun _=>rfl⟩
theorem Fm.to.trans {A B C:Fm} (x:A.to B) (y:B.to C):A.to C:=⟨y.1.trans x.1,fun z=>(y.2 (by rw [x.1]; exact z)).trans (x.2 z)⟩
theorem Fm.to.cm {A B:Fm} (x:A.to B):B.cm=A.cm:=congrArg Fb.cm x.1
theorem Fm.to.K {A B:Fm} (x:A.to B):B.K=A.K:=congrArg Fb.K x.1
theorem Fm.to.H0 {A B:Fm} (x:A.to B):B.H0=A.H0:=congrArg Fb.H0 x.1
theorem Fm.to.A0 {A B:Fm} (x:A.to B):B.A0=A.A0:=congrArg Fb.A0 x.1
theorem Fm.to.N0 {A B:Fm} (x:A.to B):B.N0=A.N0:=congrArg Fb.N0 x.1
theorem Fm.to.T {A B:Fm} (x:A.to B):B.T=A.T:=congrArg Fb.T x.1
theorem Fm.to.im {A B:Fm} (x:A.to B):B.im=A.im:=congrArg Fb.im x.1
def vis (F:Fm) (S:Sg) (σ:St) (H:Hp):VH:=hid (F.M ++ jP S σ) H
inductive RpT (cm:CM) (K:PySem.W.Frag) (G:VH):List (List Key×V)→List (List Key×Dat)→Prop
  | nil:RpT cm K G [] []
  | cons {f:List Key} {v:V} {d:Dat} {gs:List (List Key×V)} {fs:List (List Key×Dat)}:Rp cm K G v d→RpT cm K G gs fs→RpT cm K G ((f,v) :: gs) ((f,d) :: fs)
theorem RpT.mono {cm:CM} {K:PySem.W.Frag} {G G':VH} (e:Same G G'):∀ {vs:List (List Key×V)} {ds:List (List Key×Dat)},RpT cm K G vs ds→RpT cm K G' vs ds
  | _,_,.nil=> .nil
  | _,_,.cons a b=> .cons (Rp.mono e a) (RpT.mono e b)
def jog (K:PySem.W.Frag) (fa:Addr):Option Addr:=match K.lookup fa with
  | some ⟨_,_,.func fd,_⟩=>(match fd.code with
    | .ref c=>(match K.lookup c with
      | some ⟨_,_,.fields vs,_⟩=>(match (vs[11]?:Option Value) with
        | some (Value.ref p)=>some p
        | _=>none)
      | _=>none)
    | _=>none)
  | _=>none
inductive w8 (cm:CM) (K:PySem.W.Frag) (G:VH) (H:Hp) (l:Addr):Own→Prop
  | lst {vs:List V} {ds:List Dat}:H l=some (.lst vs)→RpAll cm K G vs ds→w8 cm K G H l (.lst ds)
  | obj {c:Str} {dx:Addr} {gs:List (Str×V)} {fs:List (Str×Dat)}:H l=some (.ins (cm c) dx gs)→RpF cm K G gs fs→w8 cm K G H l (.obj c fs)
  | dic {gs:List (Key×V)} {ks:List (Key×Dat)}:H l=some (.dK gs)→RpK cm K G gs ks→w8 cm K G H l (.dic ks)
  | dit {gs:List (List Key×V)} {ks:List (List Key×Dat)}:H l=some (.dT gs)→RpT cm K G gs ks→w8 cm K G H l (.dit ks)
  | gone {n:Nat} {od:Obj} {u:HO}:cm.lk[n]? =some (l,.frz od u)→H l=some (.frz od u)→((∃ gs,u= .dT gs)∨∃ gs,u= .dK gs)→w8 cm K G H l (.gone n)
  | tab {d q:Str} {ps:Array Value}:jog K (cm.at_ d)=some l→H l=some (.tbl ps)→TriplesOk ps.toList→(∀ (pos:Pos) (cv:Value),codeAmong pos ps.toList=some cv→∃ c,cv= .ref c∧G c=some (LamX.CodeO c q))→w8 cm K G H l (.tab d q)
inductive Ye (F:Fm) (G:VH) (H:Hp):vW→Option V→Prop
  | no {v:Option V}:Ye F G H .no v
  | dat {d:Dat} {v:V}:Rp F.cm F.K G v d→Ye F G H (.dat d) (some v)
  | loc {ds:List Dat} {l:Addr} {vs:List V}:H l=some (.lst vs)→RpAll F.cm F.K G vs ds→Ye F G H (.loc ds) (some (.ref l))
  | own {j:Nat} {o:Own} {l:Addr}:F.A0[j]? =some l→w8 F.cm F.K G H l o→Ye F G H (.own j o) (some (.ref l))
  | exn {c:Str} {fs:List (Str×Dat)} {a dd:Addr} {gs:List (Str×V)}:F.cm.ex=some (a,c,dd)→G dd=some (.xd gs)→RpF F.cm F.K G gs fs→Ye F G H (.exn c fs) (some (.ref a))
  | heap {T:Ths} {v:Option V}:T.length=F.M.ρ.length→(∀ (k:Nat) (o:Own),T[k]? =some o→∃ l,F.M.ρ[k]? =some l∧l ∈ F.M∧w8 F.cm F.K G H l o)→Ye F G H (.heap T) v
def vW.holds (F:Fm):vW→Option V→Addr→Prop
  | .loc _,v,l=>v=some (.ref l)
  | .own _ _,v,l=>v=some (.ref l)
  | .heap T,_,l=> ∃ (k:Nat) (o:Own),T[k]? =some o∧F.M.ρ[k]? =some l
  | _,_,_=>False
structure jhc (F:Fm) (S:Sg) (H:Hp):Prop where
  one:∀ (i j:Nat) (T U:Ths),S[i]? =some (.heap T)→S[j]? =some (.heap U)→i=j
  him:∀ (i:Nat) (T:Ths),S[i]? =some (.heap T)→F.im=true
  thl:∀ (i:Nat) (T:Ths) (k:Nat) (o:Own) (l:Addr),S[i]? =some (.heap T)→T[k]? =some o→F.M.ρ[k]? =some l→(l ∈ F.A0∨F.H0 l=none)∧(∀ p,p ∈ F.T→p.1 ≠ l)∧∀ (j m:Nat) (u:Own),S[j]? =some (.own m u)→F.A0[m]? ≠ some l
  lnd:∀ (i:Nat) (T:Ths) (k n:Nat) (o u:Own) (l:Addr),S[i]? =some (.heap T)→T[k]? =some o→T[n]? =some u→F.M.ρ[k]? =some l→F.M.ρ[n]? =some l→k=n
  thn:∀ (i:Nat) (T:Ths) (k:Nat) (o:Own) (l:Addr),S[i]? =some (.heap T)→T[k]? =some o→F.M.ρ[k]? =some l→F.N0.ρ.length≤k→F.H0 l=none
  n0:∀ a,a ∈ F.N0→a ∈ F.M
  nr:∃ r,F.M.ρ=F.N0.ρ ++ r
structure Rel (F:Fm) (S:Sg) (σ:St) (H:Hp):Prop where
  len:S.length=σ.length
  sl:∀ (i:Nat) (s:vW) (v:Option V),S[i]? =some s→σ[i]? =some v→Ye F (vis F S σ H) H s v
  nd:(jP S σ).Nodup
  new:∀ l,l ∈ jP S σ→F.H0 l=none
  ond:(wP S).Nodup
  and_:F.A0.Nodup
  ain:∀ a,a ∈ F.A0→a ∈ F.M
  liv:∀ a,a ∈ F.M→Lv (H a)
  lom:∀ l,l ∈ jP S σ→l ∉ F.M
  tmp:∀ p,p ∈ F.T→H p.1=some p.2∧p.1 ∈ F.M∧p.1 ∉ F.A0
  keep:∀ a o,F.H0 a=some o→a ∉ F.A0→H a=some o
  hp:jhc F S H
theorem jhc.of {F:Fm} {S S':Sg} {H H':Hp} (x:jhc F S H) (h1:∀ (i:Nat) (T:Ths),S'[i]? =some (.heap T)→S[i]? =some (.heap T)) (h2:∀ (j m:Nat) (u:Own),S'[j]? =some (.own m u)→∃ u',S[j]? =some (.own m u')) (h3:∀ a,H a ≠ none→H' a ≠ none):jhc F S' H' where
  one:=fun i j T U a b=>x.one i j T U (h1 _ _ a) (h1 _ _ b)
  him:=fun i T a=>x.him i T (h1 _ _ a)
  thl:=fun i T k o l a b c=>by
    obtain ⟨p,q,r⟩:=x.thl i T k o l (h1 _ _ a) b c
    exact ⟨p,q,fun j m u z=>by obtain ⟨u',z'⟩:=h2 j m u z; exact r j m u' z'⟩
  lnd:=fun i T k n o u l a=>x.lnd i T k n o u l (h1 _ _ a)
  thn:=fun i T k o l a=>x.thn i T k o l (h1 _ _ a)
  n0:=x.n0
  nr:=x.nr
theorem w8.mono {cm:CM} {K:PySem.W.Frag} {G G':VH} {H H':Hp} {l:Addr} {o:Own} (g:Same G G') (h:∀ x,H l=some x→H' l=some x) (x:w8 cm K G H l o):w8 cm K G' H' l o:=by
  cases x with
  | lst e r=>exact .lst (h _ e) (r.mono g)
  | obj e r=>exact .obj (h _ e) (r.mono g)
  | dic e r=>exact .dic (h _ e) (r.mono g)
  | dit e r=>exact .dit (h _ e) (r.mono g)
  | gone e q v=>exact .gone e (h _ q) v
  | tab a e t c=>
    refine .tab a (h _ e) t fun pos cv z=>?_
    obtain ⟨c',e1,e2⟩:=c pos cv z
    exact ⟨c',e1,g _ _ e2⟩
theorem w8.lv {cm:CM} {K:PySem.W.Frag} {G:VH} {H:Hp} {l:Addr} {o:Own} (x:w8 cm K G H l o):Lv (H l):=by
  cases x with
  | lst e r=>rw [e]; exact trivial
  | obj e r=>rw [e]; exact trivial
  | dic e r=>rw [e]; exact trivial
  | dit e r=>rw [e]; exact trivial
  | gone e q v=>rw [q]; exact trivial
  | tab a e t c=>rw [e]; exact trivial
theorem w8.live {cm:CM} {K:PySem.W.Frag} {G:VH} {H:Hp} {l:Addr} {o:Own} (x:w8 cm K G H l o):H l ≠ none:=x.lv.ne
theorem Ye.mono {F:Fm} {G G':VH} {H H':Hp} {s:vW} {v:Option V} (g:Same G G') (h:∀ l x,s.holds F v l→H l=some x→H' l=some x) (x:Ye F G H s v):Ye F G' H' s v:=by
  cases x with
  | no=>exact .no
  | dat r=>exact .dat (r.mono g)
  | loc e r=>exact .loc (h _ _ rfl e) (r.mono g)
  | own e o=>exact .own e (o.mono g fun x q=>h _ x rfl q)
  | exn e q r=>exact .exn e (g _ _ q) (r.mono g)
  | heap e f=>
    exact .heap e fun k o hk=>by
      obtain ⟨l,a,b,c⟩:=f k o hk
      exact ⟨l,a,b,c.mono g fun x q=>h l x ⟨k,o,hk,a⟩ q⟩
theorem Ye.in {F F':Fm} {G:VH} {H:Hp} {s:vW} {v:Option V} (e1:F'.cm=F.cm) (e2:F'.K=F.K) (e3:F'.A0=F.A0) (e4:F'.M.ρ=F.M.ρ) (e5:∀ l,s.holds F v l→l ∈ F.M→l ∈ F'.M) (x:Ye F G H s v):Ye F' G H s v:=by
  cases x with
  | no=>exact .no
  | dat r=>exact .dat (by rw [e1,e2]; exact r)
  | loc e r=>exact .loc e (by rw [e1,e2]; exact r)
  | own e o=>exact .own (by rw [e3]; exact e) (by rw [e1,e2]; exact o)
  | exn e q r=>exact .exn (by rw [e1]; exact e) q (by rw [e1,e2]; exact r)
  | heap e f=>
    exact .heap (by rw [e4]; exact e) fun k o hk=>by
      obtain ⟨l,a,b,c⟩:=f k o hk
      exact ⟨l,by rw [e4]; exact a,e5 l ⟨k,o,hk,a⟩ b,by rw [e1,e2]; exact c⟩
theorem J6:∀ {S:Sg} {σ:St} {l:Addr},l ∈ jP S σ ↔ ∃ (i:Nat) (ds:List Dat),S[i]? =some (vW.loc ds)∧σ[i]? =some (some (V.ref l))
  | [],σ,l=>by simp [jP]
  | s :: S,[],l=>by
    have:jP (s :: S) []= []:=by cases s <;> rfl
    simp [this]
  | s :: S,v :: σ,l=>by
    constructor
    · intro h
      have hh:(∃ ds,s= .loc ds∧v=some (.ref l))∨l ∈ jP S σ:=by
        cases s with
        | loc ds=>
          cases v with
          | none=>exact .inr h
          | some v=>
            cases v with
            | ref a=>
              rcases List.mem_cons.mp (show l ∈ a :: jP S σ from h) with e | e
              · exact .inl ⟨ds,rfl,by rw [e]⟩
              · exact .inr e
            | _=>exact .inr h
        | _=>exact .inr (by simpa [jP] using h)
      rcases hh with ⟨ds,rfl,rfl⟩ | h
      · exact ⟨0,ds,rfl,rfl⟩
      · obtain ⟨i,ds,a,b⟩:=J6.mp h
        exact ⟨i + 1,ds,by simpa using a,by simpa using b⟩
    · rintro ⟨i,ds,a,b⟩
      cases i with
      | zero=>
        simp at a b
        subst a; subst b
        exact List.mem_cons_self ..
      | succ i=>
        have h:l ∈ jP S σ:=J6.mpr ⟨i,ds,by simpa using a,by simpa using b⟩
        cases s with
        | loc ds=>
          cases v with
          | none=>exact h
          | some v=>
            cases v with
            | ref a=>exact List.mem_cons_of_mem _ h
            | _=>exact h
        | _=>simpa [jP] using h
theorem zL:∀ {S:Sg} {σ:St} {i:Nat} {s:vW} {v:Option V},s.isLoc=false→List.Sublist (jP (S.set i s) (σ.set i v)) (jP S σ)
  | [],σ,i,s,v,h=>by simp [jP]
  | a :: S,[],i,s,v,h=>by
    have:∀ T:Sg,jP T []= []:=fun T=>by cases T with
      | nil=>rfl
      | cons x r=>cases x <;> rfl
    simp [this]
  | a :: S,b :: σ,0,s,v,h=>by
    have e:jP ((a :: S).set 0 s) ((b :: σ).set 0 v)=jP S σ:=by
      cases s with
      | loc ds=>cases h
      | _=>simp [jP]
    rw [e]
    cases a with
    | loc ds=>
      cases b with
      | none=>simp [jP]
      | some b=>
        cases b with
        | ref l=>exact List.sublist_cons_self _ _
        | _=>simp [jP]
    | _=>simp [jP]
  | a :: S,b :: σ,i + 1,s,v,h=>by
    have ih:=zL (S:=S) (σ:=σ) (i:=i) (s:=s) (v:=v) h
    show List.Sublist (jP (a :: S.set i s) (b :: σ.set i v)) (jP (a :: S) (b :: σ))
    cases a with
    | loc ds=>
      cases b with
      | none=>simpa [jP] using ih
      | some b=>
        cases b with
        | ref l=>exact ih.cons_cons l
        | _=>simpa [jP] using ih
    | _=>simpa [jP] using ih
theorem Wh:∀ {S:Sg} {σ:St} {i:Nat} {ds es:List Dat},S[i]? =some (.loc ds)→jP (S.set i (.loc es)) σ=jP S σ
  | [],σ,i,ds,es,h=>by simp at h
  | a :: S,[],i,ds,es,h=>by
    have:∀ T:Sg,jP T []= []:=fun T=>by cases T with
      | nil=>rfl
      | cons x r=>cases x <;> rfl
    simp [this]
  | a :: S,b :: σ,0,ds,es,h=>by
    simp at h
    subst h
    cases b with
    | none=>rfl
    | some b=>cases b <;> rfl
  | a :: S,b :: σ,i + 1,ds,es,h=>by
    have ih:=Wh (S:=S) (σ:=σ) (i:=i) (ds:=ds) (es:=es) (by simpa using h)
    show jP (a :: S.set i _) (b :: σ)=jP (a :: S) (b :: σ)
    cases a with
    | loc ds=>
      cases b with
      | none=>simpa [jP] using ih
      | some b=>
        cases b with
        | ref l=>simp [jP,ih]
        | _=>simpa [jP] using ih
    | _=>simpa [jP] using ih
theorem jao:∀ {S:Sg} {σ:St} {i:Nat} {ds:List Dat} {p:Addr},(jP S σ).Nodup→p ∉ jP S σ→(jP (S.set i (.loc ds)) (σ.set i (some (.ref p)))).Nodup∧∀ l,l ∈ jP (S.set i (.loc ds)) (σ.set i (some (.ref p)))→l=p∨l ∈ jP S σ
  | [],σ,i,ds,p,h,hp=>by simp [jP]
  | a :: S,[],i,ds,p,h,hp=>by
    have:∀ T:Sg,jP T []= []:=fun T=>by cases T with
      | nil=>rfl
      | cons x r=>cases x <;> rfl
    simp [this]
  | a :: S,b :: σ,0,ds,p,h,hp=>by
    show (p :: jP S σ).Nodup∧∀ l,l ∈ p :: jP S σ→l=p∨l ∈ jP (a :: S) (b :: σ)
    have sub:List.Sublist (jP S σ) (jP (a :: S) (b :: σ)):=by
      cases a with
      | loc ds=>
        cases b with
        | none=>simp [jP]
        | some b=>
          cases b with
          | ref l=>exact List.sublist_cons_self _ _
          | _=>simp [jP]
      | _=>simp [jP]
    exact ⟨List.nodup_cons.mpr ⟨fun z=>hp (sub.subset z),h.sublist sub⟩,fun l hl=>(List.mem_cons.mp hl).imp id fun z=>sub.subset z⟩
  | a :: S,b :: σ,i + 1,ds,p,h,hp=>by
    show (jP (a :: S.set i _) (b :: σ.set i _)).Nodup∧∀ l,l ∈ jP (a :: S.set i _) (b :: σ.set i _)→l=p∨l ∈ jP (a :: S) (b :: σ)
    have plain:jP (a :: S) (b :: σ)=jP S σ→(jP (a :: S.set i (.loc ds)) (b :: σ.set i (some (.ref p)))=jP (S.set i (.loc ds)) (σ.set i (some (.ref p))))→
        (jP (a :: S.set i (.loc ds)) (b :: σ.set i (some (.ref p)))).Nodup∧∀ l,l ∈ jP (a :: S.set i (.loc ds)) (b :: σ.set i (some (.ref p)))→l=p∨l ∈ jP (a :: S) (b :: σ):=fun e1 e2=>by
      rw [e2,e1]
      exact jao (by rw [← e1]; exact h) (by rw [← e1]; exact hp)
    cases a with
    | loc es=>
      cases b with
      | none=>exact plain rfl rfl
      | some b=>
        cases b with
        | ref l=>
          have h':(l :: jP S σ).Nodup:=h
          have hp':p ∉ l :: jP S σ:=hp
          obtain ⟨n1,n2⟩:=List.nodup_cons.mp h'
          obtain ⟨r1,r2⟩:=jao (S:=S) (σ:=σ) (i:=i) (ds:=ds) n2 fun z=>hp' (List.mem_cons_of_mem _ z)
          show (l :: jP (S.set i _) (σ.set i _)).Nodup∧∀ x,x ∈ l :: jP (S.set i _) (σ.set i _)→x=p∨x ∈ l :: jP S σ
          refine ⟨List.nodup_cons.mpr ⟨fun z=>?_,r1⟩,fun x hx=>?_⟩
          · rcases r2 l z with e | e
            · exact hp' (by rw [e]; exact List.mem_cons_self ..)
            · exact n1 e
          · rcases List.mem_cons.mp hx with e | e
            · exact .inr (by rw [e]; exact List.mem_cons_self ..)
            · exact (r2 x e).imp id fun z=>List.mem_cons_of_mem _ z
        | _=>exact plain rfl rfl
    | _=>exact plain rfl rfl
theorem vX:∀ {S:Sg} {σ:St} {i:Nat} {ds:List Dat} {l:Addr} {s:vW},(jP S σ).Nodup→S[i]? =some (.loc ds)→σ[i]? =some (some (.ref l))→s.isLoc=false→l ∉ jP (S.set i s) σ
  | [],σ,i,ds,l,s,h,h1,h2,h3=>by simp at h1
  | a :: S,[],i,ds,l,s,h,h1,h2,h3=>by simp at h2
  | a :: S,b :: σ,0,ds,l,s,h,h1,h2,h3=>by
    simp at h1 h2
    subst h1; subst h2
    have e:jP ((vW.loc ds :: S).set 0 s) (some (V.ref l) :: σ)=jP S σ:=by
      cases s with
      | loc ds=>cases h3
      | _=>simp [jP]
    rw [e]
    exact (List.nodup_cons.mp (show (l :: jP S σ).Nodup from h)).1
  | a :: S,b :: σ,i + 1,ds,l,s,h,h1,h2,h3=>by
    show l ∉ jP (a :: S.set i s) (b :: σ)
    have h1':S[i]? =some (.loc ds):=by simpa using h1
    have h2':σ[i]? =some (some (.ref l)):=by simpa using h2
    have hin:l ∈ jP S σ:=J6.mpr ⟨i,ds,h1',h2'⟩
    cases a with
    | loc es=>
      cases b with
      | none=>
        have:=vX (S:=S) (σ:=σ) (s:=s) h h1' h2' h3
        simpa [jP] using this
      | some b=>
        cases b with
        | ref x=>
          have h':(x :: jP S σ).Nodup:=h
          obtain ⟨n1,n2⟩:=List.nodup_cons.mp h'
          have:=vX (S:=S) (σ:=σ) (s:=s) n2 h1' h2' h3
          intro z
          rcases List.mem_cons.mp (show l ∈ x :: jP (S.set i s) σ from z) with e | e
          · exact n1 (by rw [← e]; exact hin)
          · exact this e
        | _=>
          have:=vX (S:=S) (σ:=σ) (s:=s) h h1' h2' h3
          simpa [jP] using this
    | _=>
      have:=vX (S:=S) (σ:=σ) (s:=s) (by simpa [jP] using h) h1' h2' h3
      simpa [jP] using this
theorem yb:∀ {S:Sg} {i:Nat} {s:vW},(∀ j o,s ≠ .own j o)→List.Sublist (wP (S.set i s)) (wP S)
  | [],i,s,h=>by simp [wP]
  | a :: S,0,s,h=>by
    have e:wP ((a :: S).set 0 s)=wP S:=by
      cases s with
      | own j o=>exact absurd rfl (h j o)
      | _=>simp [wP]
    rw [e]
    cases a with
    | own j o=>exact List.sublist_cons_self _ _
    | _=>simp [wP]
  | a :: S,i + 1,s,h=>by
    have ih:=yb (S:=S) (i:=i) (s:=s) h
    show List.Sublist (wP (a :: S.set i s)) (wP (a :: S))
    cases a with
    | own j o=>exact ih.cons_cons j
    | _=>simpa [wP] using ih
theorem V7:∀ {S:Sg} {i j:Nat} {o u:Own},S[i]? =some (.own j o)→wP (S.set i (.own j u))=wP S
  | [],i,j,o,u,h=>by simp at h
  | a :: S,0,j,o,u,h=>by simp at h; subst h; rfl
  | a :: S,i + 1,j,o,u,h=>by
    have ih:=V7 (S:=S) (i:=i) (u:=u) (by simpa using h)
    show wP (a :: S.set i _)=wP (a :: S)
    cases a with
    | own j o=>simp [wP,ih]
    | _=>simpa [wP] using ih
theorem jfe:∀ {S:Sg} {j:Nat},(∃ (i:Nat) (o:Own),S[i]? =some (.own j o))→j ∈ wP S
  | [],j,⟨i,o,h⟩=>by simp at h
  | a :: S,j,⟨0,o,h⟩=>by simp at h; subst h; exact List.mem_cons_self ..
  | a :: S,j,⟨i + 1,o,h⟩=>by
    have ih:=jfe (S:=S) (j:=j) ⟨i,o,by simpa using h⟩
    cases a with
    | own j o=>exact List.mem_cons_of_mem _ ih
    | _=>simpa [wP] using ih
theorem jfl:∀ {S:Sg} {i k j:Nat} {o u:Own},(wP S).Nodup→S[i]? =some (.own j o)→S[k]? =some (.own j u)→i=k
  | [],i,k,j,o,u,_,h,_=>by simp at h
  | a :: S,0,0,j,o,u,_,_,_=>rfl
  | a :: S,0,k + 1,j,o,u,n,h,h'=>by
    simp at h; subst h
    exact absurd (jfe ⟨k,u,by simpa using h'⟩) (List.nodup_cons.mp (show (j :: wP S).Nodup from n)).1
  | a :: S,i + 1,0,j,o,u,n,h,h'=>by
    simp at h'; subst h'
    exact absurd (jfe ⟨i,o,by simpa using h⟩) (List.nodup_cons.mp (show (j :: wP S).Nodup from n)).1
  | a :: S,i + 1,k + 1,j,o,u,n,h,h'=>by
    have n':(wP S).Nodup:=by
      cases a with
      | own j o=>exact (List.nodup_cons.mp (show (j :: wP S).Nodup from n)).2
      | _=>simpa [wP] using n
    exact congrArg Nat.succ (jfl (S:=S) (i:=i) (k:=k) (j:=j) (o:=o) (u:=u) n' (by simpa using h) (by simpa using h'))
end Mir
namespace Mir
open PySem L2
theorem jgG:∀ {S:Sg} {σ:St} {i k:Nat} {ds es:List Dat} {l:Addr},(jP S σ).Nodup→S[i]? =some (.loc ds)→σ[i]? =some (some (.ref l))→S[k]? =some (.loc es)→σ[k]? =some (some (.ref l))→i=k:=by
  intro S σ i k ds es l n a b c d
  by_cases e:i=k
  · exact e
  · have h1:l ∉ jP (S.set i .no) σ:=vX n a b rfl
    exact absurd (J6.mpr ⟨k,es,by rw [List.getElem?_set_ne e]; exact c,d⟩) h1
theorem jfx {α:Type} {xs:List α} {i:Nat} {a:α} (h:xs[i]? =some a):xs.set i a=xs:=by
  refine List.ext_getElem? fun k=>?_
  by_cases ek:i=k
  · subst ek
    have q:i < xs.length:=(List.getElem?_eq_some_iff.mp h).1
    rw [List.getElem?_set,if_pos rfl,if_pos q,h]
  · rw [List.getElem?_set_ne ek]
section
variable {F:Fm} {S:Sg} {σ:St} {H H':Hp}
theorem Rel.locH (R:Rel F S σ H) {l:Addr} (h:l ∈ jP S σ):∃ vs,H l=some (.lst vs):=by
  obtain ⟨i,ds,a,b⟩:=J6.mp h
  have q:=R.sl i _ _ a b
  cases q with
  | loc e r=>exact ⟨_,e⟩
theorem Rel.mlive (R:Rel F S σ H) {a:Addr} (h:a ∈ F.M):H a ≠ none:=(R.liv a h).ne
theorem Rel.alv (R:Rel F S σ H) (a:Addr) (h:a ∈ F.A0):H a ≠ none:=(R.liv a (R.ain a h)).ne
theorem Rel.hlv (R:Rel F S σ H) {a:Addr} (h:a ∈ F.M ++ jP S σ):Lv (H a):=by
  rcases Hd.mem_app.mp h with h | h
  · exact R.liv a h
  · obtain ⟨vs,e⟩:=R.locH h
    rw [e]; exact trivial
theorem Rel.hlive (R:Rel F S σ H) {a:Addr} (h:a ∈ F.M ++ jP S σ):H a ≠ none:=by
  rcases Hd.mem_app.mp h with h | h
  · exact R.mlive h
  · obtain ⟨vs,e⟩:=R.locH h
    rw [e]; simp
theorem Rel.fresh (R:Rel F S σ H) {p:Addr} (h:H p=none):p ∉ F.M ++ jP S σ:=fun z=>R.hlive z h
theorem Rel.freshM (R:Rel F S σ H) {p:Addr} (h:H p=none):p ∉ F.M:=fun z=>R.mlive z h
theorem Rel.fresh0 (R:Rel F S σ H) {p:Addr} (h:H p=none):F.H0 p=none:=by
  cases q:F.H0 p with
  | none=>rfl
  | some o=>
    by_cases ha:p ∈ F.A0
    · exact absurd h (R.alv p ha)
    · rw [R.keep p o q ha] at h; cases h
theorem Rel.locM (R:Rel F S σ H) {l:Addr} (h:l ∈ jP S σ):l ∉ F.M:=R.lom l h
theorem jgW {H:Hp} {a l:Addr} {o:HO} (h:H a ≠ none):upd H l o a ≠ none:=by
  by_cases e:a=l
  · rw [e,upd_same]; simp
  · rw [upd_ne e]; exact h
theorem jfM (e:L2.Same H H') (a:Addr) (h:H a ≠ none):H' a ≠ none:=by
  cases q:H a with
  | none=>exact absurd q h
  | some o=>rw [e a o q]; simp
theorem vx (e:L2.Same H H'):Same (vis F S σ H) (vis F S σ H'):=jdK fun a o _ q=>e a o q
theorem Rel.grow (R:Rel F S σ H) (e:L2.Same H H'):Rel F S σ H' where
  len:=R.len
  sl:=fun i s v a b=>(R.sl i s v a b).mono (vx e) fun l x _ q=>e l x q
  nd:=R.nd
  new:=R.new
  ond:=R.ond
  and_:=R.and_
  ain:=R.ain
  liv:=fun a h=>(R.liv a h).same e
  lom:=R.lom
  tmp:=fun p h=>⟨e _ _ (R.tmp p h).1,(R.tmp p h).2⟩
  keep:=fun a o q n=>e a o (R.keep a o q n)
  hp:=R.hp.of (fun _ _ z=>z) (fun _ _ u z=>⟨u,z⟩) (jfM e)
theorem jO {α:Type} {xs:List α} {i k:Nat} {a b:α} (h:(xs.set i a)[k]? =some b):(k=i∧b=a)∨(k ≠ i∧xs[k]? =some b):=by
  by_cases e:k=i
  · subst e
    rw [List.getElem?_set] at h
    simp at h
    exact .inl ⟨rfl,h.2.symm⟩
  · rw [List.getElem?_set_ne fun z=>e z.symm] at h
    exact .inr ⟨e,h⟩
theorem jhc.set (x:jhc F S H) {i:Nat} {s:vW} (h1:∀ T,s ≠ .heap T) (h2:∀ j o,s= .own j o→∃ o',S[i]? =some (.own j o')) (h3:∀ a,H a ≠ none→H' a ≠ none):jhc F (S.set i s) H':=
  x.of (fun j T z=>by
    rcases jO z with ⟨_,e⟩ | ⟨_,z⟩
    · exact absurd e.symm (h1 T)
    · exact z) (fun j m u z=>by
    rcases jO z with ⟨ej,e⟩ | ⟨_,z⟩
    · rw [ej]; exact h2 m u e.symm
    · exact ⟨u,z⟩) h3
theorem Rel.apart (R:Rel F S σ H) {i k:Nat} {s t:vW} {v w:Option V} {l:Addr} (a:S[i]? =some s) (av:σ[i]? =some v) (b:S[k]? =some t) (bv:σ[k]? =some w) (hs:s.holds F v l) (ht:t.holds F w l):i=k:=by
  have hm:∀ {i:Nat} {s:vW} {v:Option V},S[i]? =some s→σ[i]? =some v→s.holds F v l→(∃ ds,s= .loc ds∧v=some (.ref l))∨(∃ j o,s= .own j o∧v=some (.ref l)∧F.A0[j]? =some l)∨∃ (T:Ths) (k:Nat) (o:Own),s= .heap T∧T[k]? =some o∧F.M.ρ[k]? =some l∧l ∈ F.M:=by
    intro i s v a av h
    have y:=R.sl i s v a av
    cases s with
    | loc ds=>exact .inl ⟨ds,rfl,h⟩
    | own j o=>
      have h:v=some (.ref l):=h
      subst h
      cases y with
      | own e _=>exact .inr (.inl ⟨j,o,rfl,rfl,e⟩)
    | heap T=>
      obtain ⟨k,o,h1,h2⟩:=h
      cases y with
      | heap e f=>
        obtain ⟨l',z1,z2,_⟩:=f k o h1
        rw [h2] at z1; cases z1
        exact .inr (.inr ⟨T,k,o,rfl,h1,h2,z2⟩)
    | no=>exact h.elim
    | dat _=>exact h.elim
    | exn _ _=>exact h.elim
  have lm:∀ {i:Nat} {ds:List Dat},S[i]? =some (.loc ds)→σ[i]? =some (some (.ref l))→l ∉ F.M:=fun a b=>R.lom l (J6.mpr ⟨_,_,a,b⟩)
  rcases hm a av hs with ⟨ds,rfl,rfl⟩ | ⟨j,o,rfl,rfl,ej⟩ | ⟨T,n,o,rfl,h1,h2,h3⟩
  · rcases hm b bv ht with ⟨es,rfl,rfl⟩ | ⟨j,o,rfl,rfl,ej⟩ | ⟨T,n,o,rfl,h1,h2,h3⟩
    · exact jgG R.nd a av b bv
    · exact absurd (R.ain l (List.mem_of_getElem? ej)) (lm a av)
    · exact absurd h3 (lm a av)
  · rcases hm b bv ht with ⟨es,rfl,rfl⟩ | ⟨j',o',rfl,rfl,ej'⟩ | ⟨T,n,o,rfl,h1,h2,h3⟩
    · exact absurd (R.ain l (List.mem_of_getElem? ej)) (lm b bv)
    · have e:j=j':=nd_ix R.and_ ej ej'
      subst e
      exact jfl R.ond a b
    · exact absurd ej ((R.hp.thl k T n o l b h1 h2).2.2 _ _ _ a)
  · rcases hm b bv ht with ⟨es,rfl,rfl⟩ | ⟨j',o',rfl,rfl,ej'⟩ | ⟨T',n',o',rfl,h1',h2',h3'⟩
    · exact absurd h3 (lm b bv)
    · exact absurd ej' ((R.hp.thl i T n o l a h1 h2).2.2 _ _ _ b)
    · exact R.hp.one i k _ _ a b
theorem Rel.set (R:Rel F S σ H) {i:Nat} {s:vW} {v:Option V} (h1:s.isLoc=false) (h2:∀ j o,s ≠ .own j o) (h3:∀ T,s ≠ .heap T) (ok:Ye F (vis F S σ H) H s v) :
    Rel F (S.set i s) (σ.set i v) H∧Same (vis F S σ H) (vis F (S.set i s) (σ.set i v) H):=by
  have sub:=zL (S:=S) (σ:=σ) (i:=i) (s:=s) (v:=v) h1
  have g:Same (vis F S σ H) (vis F (S.set i s) (σ.set i v) H):=ya fun a ha=>by
    rcases Hd.mem_app.mp ha with ha | ha
    · exact Hd.mem_left _ ha
    · exact Hd.mem_right _ (sub.subset ha)
  refine ⟨⟨by rw [List.length_set,List.length_set]; exact R.len,fun k t w a b=>?_,R.nd.sublist sub,fun l hl=>R.new l (sub.subset hl),R.ond.sublist (yb h2),R.and_,R.ain,R.liv,fun l hl=>R.lom l (sub.subset hl),R.tmp,R.keep,R.hp.set h3 (fun j o z=>absurd z (h2 j o)) fun _ z=>z⟩,g⟩
  rcases jO a with ⟨e,rfl⟩ | ⟨e,a⟩
  · rcases jO b with ⟨_,rfl⟩ | ⟨e',_⟩
    · exact ok.mono g fun _ _ _ q=>q
    · exact absurd e e'
  · rcases jO b with ⟨e',_⟩ | ⟨_,b⟩
    · exact absurd e' e
    · exact (R.sl k t w a b).mono g fun _ _ _ q=>q
theorem Rel.dat (R:Rel F S σ H) {i:Nat} {v:V} {d:Dat} (r:Rp F.cm F.K (vis F S σ H) v d) :
    Rel F (S.set i (.dat d)) (σ.set i (some v)) H∧Same (vis F S σ H) (vis F (S.set i (.dat d)) (σ.set i (some v)) H):=R.set rfl (fun _ _ z=>by cases z) (fun _ z=>by cases z) (.dat r)
theorem Rel.no (R:Rel F S σ H) {i:Nat} {v:Option V}:Rel F (S.set i .no) (σ.set i v) H∧Same (vis F S σ H) (vis F (S.set i .no) (σ.set i v) H):=R.set rfl (fun _ _ z=>by cases z) (fun _ z=>by cases z) .no
theorem Rel.newLoc (R:Rel F S σ H) {i:Nat} {p:Addr} {vs:List V} {ds:List Dat} (hp:H p=none) (r:RpAll F.cm F.K (vis F S σ H) vs ds) :
    Rel F (S.set i (.loc ds)) (σ.set i (some (.ref p))) (upd H p (.lst vs))∧Same (vis F S σ H) (vis F (S.set i (.loc ds)) (σ.set i (some (.ref p))) (upd H p (.lst vs))):=by
  have fr:=R.fresh hp
  have hpl:p ∉ jP S σ:=fun z=>fr (Hd.mem_right _ z)
  obtain ⟨n1,n2⟩:=jao (S:=S) (σ:=σ) (i:=i) (ds:=ds) R.nd hpl
  have e:L2.Same H (upd H p (.lst vs)):=jZ hp
  have g:Same (vis F S σ H) (vis F (S.set i (.loc ds)) (σ.set i (some (.ref p))) (upd H p (.lst vs))):=jdS (fun a o ha q=>⟨fun z=>by
      rcases Hd.mem_app.mp z with z | z
      · exact ha (Hd.mem_left _ z)
      · rcases n2 a z with y | y
        · rw [y,hp] at q; cases q
        · exact ha (Hd.mem_right _ y),e a o q⟩) fun _ _ z=>z
  refine ⟨⟨by rw [List.length_set,List.length_set]; exact R.len,fun k t w a b=>?_,n1,fun l hl=>?_,R.ond.sublist (yb fun _ _ z=>by cases z),R.and_,R.ain,fun a h=>(R.liv a h).upd trivial,fun l hl=>?_,fun p h=>⟨e _ _ (R.tmp p h).1,(R.tmp p h).2⟩,fun a o q n=>e a o (R.keep a o q n),R.hp.set (fun _ z=>by cases z) (fun _ _ z=>by cases z) (jfM e)⟩,g⟩
  · rcases jO a with ⟨ek,rfl⟩ | ⟨ek,a⟩
    · rcases jO b with ⟨_,rfl⟩ | ⟨e',_⟩
      · exact .loc upd_same (r.mono g)
      · exact absurd ek e'
    · rcases jO b with ⟨e',_⟩ | ⟨_,b⟩
      · exact absurd e' ek
      · exact (R.sl k t w a b).mono g fun l x _ q=>e l x q
  · rcases n2 l hl with y | y
    · rw [y]; exact R.fresh0 hp
    · exact R.new l y
  · rcases n2 l hl with y | y
    · rw [y]; exact fun z=>fr (Hd.mem_left _ z)
    · exact R.lom l y
theorem Rel.setLoc (R:Rel F S σ H) {i:Nat} {l:Addr} {us:List V} {cs ds:List Dat} (hi:S[i]? =some (.loc cs)) (hl:σ[i]? =some (some (.ref l))) (r:RpAll F.cm F.K (vis F S σ H) us ds) :
    Rel F (S.set i (.loc ds)) σ (upd H l (.lst us))∧Same (vis F S σ H) (vis F (S.set i (.loc ds)) σ (upd H l (.lst us))):=by
  have hin:l ∈ jP S σ:=J6.mpr ⟨i,cs,hi,hl⟩
  have eL:jP (S.set i (.loc ds)) σ=jP S σ:=Wh hi
  have eG:vis F (S.set i (.loc ds)) σ (upd H l (.lst us))=vis F S σ H:=by
    unfold vis
    rw [eL,jgh (Hd.mem_right _ hin)]
  have g:Same (vis F S σ H) (vis F (S.set i (.loc ds)) σ (upd H l (.lst us))):=by rw [eG]; exact Same.refl _
  have nl:F.H0 l=none:=R.new l hin
  refine ⟨⟨by rw [List.length_set]; exact R.len,fun k t w a b=>?_,by rw [eL]; exact R.nd,fun x hx=>R.new x (by rw [← eL]; exact hx),R.ond.sublist (yb fun _ _ z=>by cases z),R.and_,R.ain,fun a h=>(R.liv a h).upd trivial,fun x hx=>R.lom x (by rw [← eL]; exact hx),fun p h=>⟨by rw [upd_ne fun z=>R.lom l hin (by rw [← z]; exact (R.tmp p h).2.1)]; exact (R.tmp p h).1,(R.tmp p h).2⟩,fun a o q n=>?_,R.hp.set (fun _ z=>by cases z) (fun _ _ z=>by cases z) fun a h=>jgW h⟩,g⟩
  · rcases jO a with ⟨ek,rfl⟩ | ⟨ek,a⟩
    · rw [ek,hl] at b
      cases b
      exact .loc upd_same (r.mono g)
    · refine (R.sl k t w a b).mono g fun l' x hd q=>?_
      rw [upd_ne fun z=>ek (R.apart a b hi hl (by rw [← z]; exact hd) rfl)]
      exact q
  · rw [upd_ne fun z=>by rw [z,nl] at q; cases q]
    exact R.keep a o q n
theorem Rel.setOwn (R:Rel F S σ H) {i j:Nat} {l:Addr} {o u:Own} {ho:HO} (hi:S[i]? =some (.own j o)) (hl:σ[i]? =some (some (.ref l))) (hj:F.A0[j]? =some l) (r:w8 F.cm F.K (vis F S σ H) (upd H l ho) l u) :
    Rel F (S.set i (.own j u)) σ (upd H l ho)∧Same (vis F S σ H) (vis F (S.set i (.own j u)) σ (upd H l ho)):=by
  have hA:l ∈ F.A0:=List.mem_of_getElem? hj
  have hM:l ∈ F.M:=R.ain l hA
  have sub:List.Sublist (jP (S.set i (.own j u)) σ) (jP S σ):=by
    have:=zL (S:=S) (σ:=σ) (i:=i) (s:= .own j u) (v:=some (.ref l)) rfl
    rw [jfx hl] at this
    exact this
  have g:Same (vis F S σ H) (vis F (S.set i (.own j u)) σ (upd H l ho)):=by
    unfold vis
    rw [jgh (Hd.mem_left _ hM)]
    exact ya fun a ha=>by
      rcases Hd.mem_app.mp ha with ha | ha
      · exact Hd.mem_left _ ha
      · exact Hd.mem_right _ (sub.subset ha)
  refine ⟨⟨by rw [List.length_set]; exact R.len,fun k t w a b=>?_,R.nd.sublist sub,fun x hx=>R.new x (sub.subset hx),by rw [V7 hi]; exact R.ond,R.and_,R.ain,fun a h=>(R.liv a h).set r.lv,fun x hx=>R.lom x (sub.subset hx),fun p h=>⟨by rw [upd_ne fun z=>(R.tmp p h).2.2 (by rw [z]; exact hA)]; exact (R.tmp p h).1,(R.tmp p h).2⟩,fun a x q n=>?_,R.hp.set (fun _ z=>by cases z) (fun m o' z=>by cases z; exact ⟨o,hi⟩) fun a h=>jgW h⟩,g⟩
  · rcases jO a with ⟨ek,rfl⟩ | ⟨ek,a2⟩
    · rw [ek,hl] at b
      cases b
      exact .own hj (r.mono g fun _ q=>q)
    · refine (R.sl k t w a2 b).mono g fun l' x hd q=>?_
      rw [upd_ne fun z=>ek (R.apart a2 b hi hl (by rw [← z]; exact hd) rfl)]
      exact q
  · rw [upd_ne fun z=>n (by rw [z]; exact hA)]
    exact R.keep a x q n
theorem Rel.freeze (R:Rel F S σ H) {i:Nat} {l:Addr} {ds:List Dat} (hi:S[i]? =some (.loc ds)) (hl:σ[i]? =some (some (.ref l))) :
    Rel F (S.set i (.dat (.lst ds))) σ H∧Same (vis F S σ H) (vis F (S.set i (.dat (.lst ds))) σ H)∧Rp F.cm F.K (vis F (S.set i (.dat (.lst ds))) σ H) (.ref l) (.lst ds):=by
  have e:σ.set i (some (.ref l))=σ:=jfx hl
  have sub:List.Sublist (jP (S.set i (.dat (.lst ds))) σ) (jP S σ):=by
    have:=zL (S:=S) (σ:=σ) (i:=i) (s:= .dat (.lst ds)) (v:=some (.ref l)) rfl
    rw [e] at this
    exact this
  have g:Same (vis F S σ H) (vis F (S.set i (.dat (.lst ds))) σ H):=ya fun a ha=>by
    rcases Hd.mem_app.mp ha with ha | ha
    · exact Hd.mem_left _ ha
    · exact Hd.mem_right _ (sub.subset ha)
  have y:=R.sl i _ _ hi hl
  have hin:l ∈ jP S σ:=J6.mpr ⟨i,ds,hi,hl⟩
  cases y with
  | @loc _ _ vs eh r=>
    have out:l ∉ F.M ++ jP (S.set i (.dat (.lst ds))) σ:=fun z=>by
      rcases Hd.mem_app.mp z with z | z
      · exact R.locM hin z
      · exact vX R.nd hi hl rfl z
    have rp:Rp F.cm F.K (vis F (S.set i (.dat (.lst ds))) σ H) (.ref l) (.lst ds):= .lst (by unfold vis; rw [vQ out]; exact eh) (r.mono g)
    refine ⟨⟨by rw [List.length_set]; exact R.len,fun k t w a b=>?_,R.nd.sublist sub,fun x hx=>R.new x (sub.subset hx),R.ond.sublist (yb fun _ _ z=>by cases z),R.and_,R.ain,R.liv,fun x hx=>R.lom x (sub.subset hx),R.tmp,R.keep,R.hp.set (fun _ z=>by cases z) (fun _ _ z=>by cases z) fun _ z=>z⟩,g,rp⟩
    rcases jO a with ⟨ek,rfl⟩ | ⟨ek,a⟩
    · rw [ek,hl] at b
      cases b
      exact .dat rp
    · exact (R.sl k t w a b).mono g fun _ _ _ q=>q
def Fm.hide (F:Fm) (p:Addr) (o:HO):Fm:={ F with M:=F.M.cons p,T:=(p,o) :: F.T }
theorem Rel.hide (R:Rel F S σ H) {p:Addr} {o:HO} (hp:H p=none) (ho:Lv (some o):=by trivial):Rel (F.hide p o) S σ (upd H p o)∧Same (vis F S σ H) (vis (F.hide p o) S σ (upd H p o)):=by
  have fr:=R.fresh hp
  have e:L2.Same H (upd H p o):=jZ hp
  have g:Same (vis F S σ H) (vis (F.hide p o) S σ (upd H p o)):=jdS (fun a x ha q=>⟨fun z=>by
    rcases Hd.mem_app.mp z with z | z
    · rcases Hd.mem_cons.mp z with z | z
      · rw [z,hp] at q; cases q
      · exact ha (Hd.mem_left _ z)
    · exact ha (Hd.mem_right _ z),e a x q⟩) fun _ _ z=>z
  refine ⟨⟨R.len,fun i s v a b=>?_,R.nd,R.new,R.ond,R.and_,fun a h=>Hd.mem_cons.mpr (.inr (R.ain a h)),fun a h=>?_,fun l hl z=>?_,fun q h=>?_,fun a x q n=>e a x (R.keep a x q n),?_⟩,g⟩
  · exact ((R.sl i s v a b).mono g fun l x _ q=>e l x q).in (F:=F) (F':=F.hide p o) rfl rfl rfl rfl fun l _ h=>Hd.mem_cons.mpr (.inr h)
  · rcases Hd.mem_cons.mp h with h | h
    · rw [h,upd_same]; exact ho
    · exact (R.liv a h).upd ho
  · rcases Hd.mem_cons.mp z with z | z
    · exact fr (by rw [← z]; exact Hd.mem_right _ hl)
    · exact R.lom l hl z
  · rcases List.mem_cons.mp (show q ∈ (p,o) :: F.T from h) with h | h
    · rw [h]; exact ⟨upd_same,Hd.mem_cons.mpr (.inl rfl),fun z=>R.alv p z hp⟩
    · exact ⟨e _ _ (R.tmp q h).1,Hd.mem_cons.mpr (.inr (R.tmp q h).2.1),(R.tmp q h).2.2⟩
  · refine ⟨R.hp.one,R.hp.him,fun i T k o' l a b c=>?_,R.hp.lnd,R.hp.thn,fun a h=>Hd.mem_cons.mpr (.inr (R.hp.n0 a h)),R.hp.nr⟩
    obtain ⟨x1,x2,x3⟩:=R.hp.thl i T k o' l a b c
    refine ⟨x1,fun q h=>?_,x3⟩
    rcases List.mem_cons.mp (show q ∈ (p,o) :: F.T from h) with h | h
    · rw [h]
      have hi:i < σ.length:=by rw [← R.len]; exact (List.getElem?_eq_some_iff.mp a).1
      have y:=R.sl i _ _ a (List.getElem?_eq_getElem hi)
      cases y with
      | heap _ f=>
        obtain ⟨l',z1,z2,_⟩:=f k o' b
        have c:F.M.ρ[k]? =some l:=c
        rw [c] at z1; cases z1
        exact fun z=>R.freshM hp (by rw [show p=l from z]; exact z2)
    · exact x2 q h
def Fm.rehide (F:Fm) (o:HO):Fm:={ F with T:=match F.T with | (p,_) :: r=>(p,o) :: r | []=>[] }
def Fm.unhide (F:Fm) (p:Addr):Fm:={ F with M:=⟨F.M.as.filter (fun a=>!(a == p)),F.M.ρ⟩,T:=F.T.tail }
theorem Fm.to.hid {F1:Fm} {p:Addr} {o o':HO} (t:(F.hide p o).to F1):(F.hide p o').to (F1.rehide o'):=by
  obtain ⟨t1,t2⟩:=t
  have eT:F1.T=(p,o) :: F.T:=congrArg Fb.T t1
  refine ⟨?_,t2⟩
  show { F1.toFb with T:=match F1.T with | (p,_) :: r=>(p,o') :: r | []=>[] }=(F.hide p o').toFb
  rw [eT,t1]
  rfl
theorem Wu {F1:Fm} {p a:Addr}:a ∈ (F1.unhide p).M ↔ a ∈ F1.M∧a ≠ p:=by
  show a ∈ F1.M.as.filter (fun a=>!(a == p)) ↔ a ∈ F1.M.as∧a ≠ p
  rw [List.mem_filter]
  simp
theorem Fm.to.unh {F1:Fm} {p:Addr} {o:HO} (t:(F.hide p o).to F1) (hp:p ∉ F.M):F.to (F1.unhide p):=by
  obtain ⟨t1,t2⟩:=t
  refine ⟨?_,fun z=>?_⟩
  · show { F1.toFb with T:=F1.T.tail }=F.toFb
    rw [t1]
    rfl
  · have e:=t2 z
    show (⟨F1.M.as.filter (fun a=>!(a == p)),F1.M.ρ⟩:Hd)=F.M
    rw [e]
    have e2:(p :: F.M.as).filter (fun a=>!(a == p))=F.M.as:=by
      rw [List.filter_cons_of_neg (by simp)]
      refine List.filter_eq_self.mpr fun a ha=>?_
      have hne:a ≠ p:=fun z=>hp (by rw [← z]; exact ha)
      simpa using hne
    show (⟨(p :: F.M.as).filter (fun a=>!(a == p)),F.M.ρ⟩:Hd)=F.M
    rw [e2]
theorem Rel.hidden {F1:Fm} {p:Addr} {o o':HO} (t:(F.hide p o).to F1) (R:Rel F1 S σ H) (h0:F.H0 p=none) (ht:∀ q,q ∈ F.T→q.1 ≠ p) (ho:Lv (some o'):=by trivial):Rel (F1.rehide o') S σ (upd H p o')∧vis (F1.rehide o') S σ (upd H p o')=vis F1 S σ H:=by
  have eT:F1.T=(p,o) :: F.T:=t.T
  have eT':(F1.rehide o').T=(p,o') :: F.T:=by
    show (match F1.T with | (p,_) :: r=>(p,o') :: r | []=>[])=_
    rw [eT]
  have hx:=R.tmp (p,o) (by rw [eT]; exact List.mem_cons_self ..)
  have hM:p ∈ F1.M:=hx.2.1
  have ha:p ∉ F1.A0:=hx.2.2
  have eG:vis (F1.rehide o') S σ (upd H p o')=vis F1 S σ H:=by
    show hid (F1.M ++ jP S σ) (upd H p o')=hid (F1.M ++ jP S σ) H
    rw [jgh (Hd.mem_left _ hM)]
  refine ⟨⟨R.len,fun i s v a b=>?_,R.nd,R.new,R.ond,R.and_,R.ain,fun a h=>(R.liv a h).upd ho,R.lom,fun q h=>?_,fun a x q n=>?_,?_⟩,eG⟩
  · rw [eG]
    refine ((R.sl i s v a b).mono (Same.refl _) (H':=upd H p o') fun l x hd q=>?_).in (F:=F1) (F':=F1.rehide o') rfl rfl rfl rfl fun _ _ z=>z
    have hne:l ≠ p:=fun z=>by
      rw [z] at hd
      cases s with
      | loc ds=>
        have hd:v=some (.ref p):=hd
        subst hd
        exact R.lom p (J6.mpr ⟨i,ds,a,b⟩) hM
      | own j u=>
        have hd:v=some (.ref p):=hd
        subst hd
        have y:=R.sl i _ _ a b
        cases y with
        | own e0 _=>exact ha (List.mem_of_getElem? e0)
      | heap T=>
        obtain ⟨k,u,h1,h2⟩:=hd
        exact (R.hp.thl i T k u p a h1 h2).2.1 (p,o) (by rw [eT]; exact List.mem_cons_self ..) rfl
      | no=>exact hd.elim
      | dat d=>exact hd.elim
      | exn c fs=>exact hd.elim
    rw [upd_ne hne]; exact q
  · rw [eT'] at h
    rcases List.mem_cons.mp h with h | h
    · rw [h]; exact ⟨upd_same,hM,ha⟩
    · have z:=R.tmp q (by rw [eT]; exact List.mem_cons_of_mem _ h)
      exact ⟨by rw [upd_ne (ht q h)]; exact z.1,z.2⟩
  · have hne:a ≠ p:=fun z=>by
      have q:F1.H0 a=some x:=q
      rw [z,t.H0] at q
      exact absurd q (by rw [show (F.hide p o).H0 p=none from h0]; simp)
    rw [upd_ne hne]
    exact R.keep a x q n
  · refine ⟨R.hp.one,R.hp.him,fun i T k u l a b c=>?_,R.hp.lnd,R.hp.thn,R.hp.n0,R.hp.nr⟩
    obtain ⟨x1,x2,x3⟩:=R.hp.thl i T k u l a b c
    refine ⟨x1,fun q h=>?_,x3⟩
    rw [eT'] at h
    rcases List.mem_cons.mp h with h | h
    · rw [h]; exact x2 (p,o) (by rw [eT]; exact List.mem_cons_self ..)
    · exact x2 q (by rw [eT]; exact List.mem_cons_of_mem _ h)
theorem Rel.unhide {F1:Fm} {p:Addr} {o:HO} {S0:Sg} {σ0:St} {H1:Hp} (R0:Rel F S0 σ0 H1) (hp:H1 p=none) (t:(F.hide p o).to F1) (R:Rel F1 S σ H):Rel (F1.unhide p) S σ H∧Same (vis F1 S σ H) (vis (F1.unhide p) S σ H):=by
  have g:Same (vis F1 S σ H) (vis (F1.unhide p) S σ H):=ya (fun a h=>by
    rcases Hd.mem_app.mp h with h | h
    · exact Hd.mem_left _ (Wu.mp h).1
    · exact Hd.mem_right _ h) rfl
  have eT:F1.T=(p,o) :: F.T:=t.T
  have hx:=R.tmp (p,o) (by rw [eT]; exact List.mem_cons_self ..)
  have ht:∀ q,q ∈ F.T→q.1 ≠ p:=fun q h z=>by
    have e:=(R0.tmp q h).1
    rw [z,hp] at e
    cases e
  refine ⟨⟨R.len,fun i s v a b=>?_,R.nd,R.new,R.ond,R.and_,fun a h=>Wu.mpr ⟨R.ain a h,fun z=>hx.2.2 (by rw [← z]; exact h)⟩,fun a h=>R.liv a (Wu.mp h).1,fun l hl z=>R.lom l hl (Wu.mp z).1,fun q h=>?_,R.keep,?_⟩,g⟩
  · refine ((R.sl i s v a b).mono g fun _ _ _ q=>q).in (F:=F1) (F':=F1.unhide p) rfl rfl rfl rfl fun l hd h=>Wu.mpr ⟨h,fun z=>?_⟩
    rw [z] at hd h
    cases s with
    | loc ds=>
      have hd:v=some (.ref p):=hd
      subst hd
      exact R.lom p (J6.mpr ⟨i,ds,a,b⟩) h
    | own j u=>
      have hd:v=some (.ref p):=hd
      subst hd
      have y:=R.sl i _ _ a b
      cases y with
      | own e0 _=>exact hx.2.2 (List.mem_of_getElem? e0)
    | heap T=>
      obtain ⟨k,u,h1,h2⟩:=hd
      exact (R.hp.thl i T k u p a h1 h2).2.1 (p,o) (by rw [eT]; exact List.mem_cons_self ..) rfl
    | no=>exact hd.elim
    | dat d=>exact hd.elim
    | exn c fs=>exact hd.elim
  · have h:q ∈ F1.T.tail:=h
    rw [eT] at h
    have h:q ∈ F.T:=h
    have z:=R.tmp q (by rw [eT]; exact List.mem_cons_of_mem _ h)
    exact ⟨z.1,Wu.mpr ⟨z.2.1,ht q h⟩,z.2.2⟩
  · refine ⟨R.hp.one,R.hp.him,fun i T k u l a b c=>?_,R.hp.lnd,R.hp.thn,fun a h=>Wu.mpr ⟨R.hp.n0 a h,fun z=>?_⟩,R.hp.nr⟩
    · obtain ⟨x1,x2,x3⟩:=R.hp.thl i T k u l a b c
      exact ⟨x1,fun q h=>x2 q (List.mem_of_mem_tail h),x3⟩
    · have h':a ∈ F.N0:=by
        have e:F1.N0=F.N0:=t.N0
        rw [← e]; exact h
      exact (R0.liv a (R0.hp.n0 a h')).ne (by rw [z]; exact hp)
theorem Fm.to.pure {F F':Fm} (t:F.to F') (h:F.im=false):F'=F:=by
  obtain ⟨b,M⟩:=F
  obtain ⟨b',M'⟩:=F'
  obtain ⟨e1,e2⟩:=t
  have e1:b'=b:=e1
  have e2:M'=M:=e2 h
  rw [e1,e2]
abbrev Fm.at (cm:CM) (K:PySem.W.Frag) (M:Hd) (H:Hp) (ls:List Addr):Fm:=⟨⟨cm,K,H,ls,M,[],false⟩,M⟩
theorem Rel.tnew (R:Rel F S σ H) {p:Addr} (hp:H p=none):∀ q,q ∈ F.T→q.1 ≠ p:=fun q h z=>by
  have e:=(R.tmp q h).1
  rw [z,hp] at e
  cases e
end
inductive Rs (α:Type) where
  | ok (a:α) (S:Sg)
  | exc (c:Str) (fs:List (Str×Dat)) (S:Sg)
  | bad
def Rs.bind {α β:Type}:Rs α→(α→Sg→Rs β)→Rs β
  | .ok a S,k=>k a S
  | .exc c fs S,_=> .exc c fs S
  | .bad,_=> .bad
def Rs.of {α:Type}:Option α→Sg→Rs α
  | some a,S=> .ok a S
  | none,_=> .bad
@[simp] theorem Rs.bind_ok {α β:Type} (a:α) (S:Sg) (k:α→Sg→Rs β):(Rs.ok a S).bind k=k a S:=rfl
@[simp] theorem Rs.bind_exc {α β:Type} (c:Str) (fs:List (Str×Dat)) (S:Sg) (k:α→Sg→Rs β):(Rs.exc c fs S).bind k= .exc c fs S:=rfl
@[simp] theorem Rs.bind_bad {α β:Type} (k:α→Sg→Rs β):(Rs.bad:Rs α).bind k= .bad:=rfl
@[simp] theorem Rs.of_some {α:Type} (a:α) (S:Sg):Rs.of (some a) S= .ok a S:=rfl
@[simp] theorem Rs.of_none {α:Type} (S:Sg):Rs.of (none:Option α) S= .bad:=rfl
abbrev Rep (β α:Type):=St→VH→β→α→Prop
def jkg (F:Fm) (W:WX) (σ:St) (G:VH) (c:Str) (fs:List (Str×Dat)) (S:Sg):Prop:=
  ∀ ⦃F':Fm⦄ (da:Addr) (gs:List (Str×V)) (H:Hp),Rel F' S σ H→Same G (vis F' S σ H)→vis F' S σ H da=some (.xd gs)→RpF F'.cm F'.K (vis F' S σ H) gs fs→(_:F.to F':=by exact Fm.rf _)→W (.ref (F'.cm c)) (some da) σ H
def out {β α:Type} (F:Fm) (W:WX) (σ:St) (G:VH) (R:Rep β α) (Q:β→Hp→Prop):Rs α→Prop
  | .ok a S=> ∀ ⦃F':Fm⦄ v H,Rel F' S σ H→Same G (vis F' S σ H)→R σ (vis F' S σ H) v a→(_:F.to F':=by exact Fm.rf _)→Q v H
  | .exc c fs S=>jkg F W σ G c fs S
  | .bad=>False
def tG {β α:Type} (cm:CM) (K:PySem.W.Frag) (W:WX) (R:Rep β α) (m:Sg→Rs α):St→Hp→(β→Hp→Prop)→Prop:=fun σ H Q=>
  ∃ F S,F.cm=cm∧F.K=K∧Rel F S σ H∧out F W σ (vis F S σ H) R Q (m S)
section
variable {F F':Fm} {W:WX} {σ:St} {G G':VH}
theorem jcm {c:Str} {fs:List (Str×Dat)} {S:Sg} (e:Same G G') (h:jkg F W σ G c fs S):jkg F W σ G' c fs S:=fun _ da gs H a b c d t=>h da gs H a (e.trans b) c d t
theorem jfr {c:Str} {fs:List (Str×Dat)} {S:Sg} (e:F.to F') (h:jkg F W σ G c fs S):jkg F' W σ G c fs S:=fun _ da gs H a b c d t=>h da gs H a b c d (e.trans t)
theorem jdH {β α:Type} {R:Rep β α} {Q:β→Hp→Prop} {r:Rs α} (e:Same G G') (h:out F W σ G R Q r):out F W σ G' R Q r:=by
  cases r with
  | ok a S=>exact fun _ v H a b c t=>h v H a (e.trans b) c t
  | exc c fs S=>exact jcm e h
  | bad=>exact h
theorem jjl {β α:Type} {R:Rep β α} {Q:β→Hp→Prop} {r:Rs α} (e:F.to F') (h:out F W σ G R Q r):out F' W σ G R Q r:=by
  cases r with
  | ok a S=>exact fun _ v H a b c t=>h v H a b c (e.trans t)
  | exc c fs S=>exact jfr e h
  | bad=>exact h
theorem jjq {β α β' α':Type} {R:Rep β α} {R':Rep β' α'} {Q:β'→Hp→Prop} {r:Rs α} {k:α→Sg→Rs α'} (h:out F W σ G R' Q (r.bind k)) :
    out F W σ G R (fun x H1=> ∃ F1 a S1,F.to F1∧Rel F1 S1 σ H1∧Same G (vis F1 S1 σ H1)∧R σ (vis F1 S1 σ H1) x a∧out F1 W σ (vis F1 S1 σ H1) R' Q (k a S1)) r:=by
  cases r with
  | ok a S=>exact fun F1 v H x y z t=>⟨F1,a,S,t,x,y,z,jjl t (jdH y h)⟩
  | exc c fs S=>exact h
  | bad=>exact h
theorem jiJ {β α:Type} {R:Rep β α} {Q Q':β→Hp→Prop} {r:Rs α} (h:out F W σ G R Q r) (q:∀ v H,Q v H→Q' v H):out F W σ G R Q' r:=by
  cases r with
  | ok a S=>exact fun _ v H x y z t=>q v H (h v H x y z t)
  | exc c fs S=>exact h
  | bad=>exact h
end
theorem jD {β α β' α':Type} {cm:CM} {K:PySem.W.Frag} {W:WX} {R:Rep β α} {R':Rep β' α'} {m:Sg→Rs α} {k:α→Sg→Rs α'} {σ:St} {H:Hp} {Q:β'→Hp→Prop} {Q':β→Hp→Prop} {F:Fm} {S:Sg}
    (e1:F.cm=cm) (e2:F.K=K) (r:Rel F S σ H) (h:out F W σ (vis F S σ H) R' Q ((m S).bind k))
    (q:∀ (F1:Fm) x H1 a S1,F1.cm=cm→F1.K=K→Rel F1 S1 σ H1→Same (vis F S σ H) (vis F1 S1 σ H1)→R σ (vis F1 S1 σ H1) x a→out F1 W σ (vis F1 S1 σ H1) R' Q (k a S1)→Q' x H1):tG cm K W R m σ H Q':=
  ⟨F,S,e1,e2,r,jiJ (jjq (R:=R) h) fun x H1 ⟨F1,a,S1,t,a1,a2,a3,a4⟩=>q F1 x H1 a S1 (t.cm.trans e1) (t.K.trans e2) a1 a2 a3 a4⟩
abbrev ME:=Sg→Rs Dat
abbrev MT:=Sg→Rs Bool
abbrev MA:=Sg→Rs (List Dat)
abbrev rE (cm:CM) (K:PySem.W.Frag):Rep V Dat:=fun _ G v d=>Rp cm K G v d
abbrev rT:Rep Bool Bool:=fun _ _ b c=>b=c
abbrev rA (cm:CM) (K:PySem.W.Frag):Rep (List V) (List Dat):=fun _ G v d=>RpAll cm K G v d
abbrev tE (cm:CM) (K:PySem.W.Frag) (W:WX) (m:ME):TE:=tG cm K W (rE cm K) m
abbrev tT (cm:CM) (K:PySem.W.Frag) (W:WX) (m:MT):TT:=tG cm K W rT m
abbrev tA (cm:CM) (K:PySem.W.Frag) (W:WX) (m:MA):TA:=tG cm K W (rA cm K) m
theorem PE.weak {X:Cx} {e:Expr} {t t':TE} (h:PE X e t) (i:∀ σ H Q,t' σ H Q→t σ H Q):PE X e t':=⟨fun pins s σ H Q I q=>h.run pins s σ H Q I (i σ H Q q)⟩
theorem PT.weak {X:Cx} {e:Expr} {t t':TT} (h:PT X e t) (i:∀ σ H Q,t' σ H Q→t σ H Q):PT X e t':=⟨fun pins s σ H Q I q=>h.run pins s σ H Q I (i σ H Q q)⟩
theorem PW.weak {X:Cx} {e:Expr} {t t':TT} (h:PW X e t) (i:∀ σ H Q,t' σ H Q→t σ H Q):PW X e t':=⟨fun wh pins s σ H Q I q=>h.run wh pins s σ H Q I (i σ H Q q)⟩
theorem PA.weak {X:Cx} {es:List Expr} {t t':TA} (h:PA X es t) (i:∀ σ H Q,t' σ H Q→t σ H Q):PA X es t':=⟨fun pos pins s σ H Q I q=>h.run pos pins s σ H Q I (i σ H Q q)⟩
theorem PS.weak {X:Cx} {st:Stmt} {t t':TS} (h:PS X st t) (i:∀ D σ H,t' D σ H→t D σ H):PS X st t':=⟨fun pins s σ H D I q=>h.run pins s σ H D I (i D σ H q)⟩
theorem PSs.weak {X:Cx} {st:List Stmt} {t t':TS} (h:PSs X st t) (i:∀ D σ H,t' D σ H→t D σ H):PSs X st t':=⟨fun pins s σ H D I q=>h.run pins s σ H D I (i D σ H q)⟩
end Mir
namespace Mir
open PySem L2
structure live (M:Hd) (H:Hp):Prop where
  v:∀ m,m ∈ M→Lv (H m)
theorem live.l {M:Hd} {H:Hp} (x:live M H):∀ m,m ∈ M→H m ≠ none:=fun m h=>(x.v m h).ne
theorem live.grow {M:Hd} {H H':Hp} (x:live M H) (e:∀ a,Lv (H a)→Lv (H' a)):live M H':=⟨fun m h=>e m (x.v m h)⟩
theorem jhc.start {cm:CM} {K:PySem.W.Frag} {M:Hd} {H:Hp} {ls:List Addr} {S:Sg} (lv:live M H) (hno:∀ (i:Nat) (T:Ths),S[i]? ≠ some (.heap T)):jhc (Fm.at cm K M H ls) S H:=
  ⟨fun i j T U a _=>absurd a (hno i T),fun i T a=>absurd a (hno i T),fun i T k o l a _ _=>absurd a (hno i T),fun i T k n o u l a=>absurd a (hno i T),fun i T k o l a=>absurd a (hno i T),fun _ h=>h,⟨[],(List.append_nil _).symm⟩⟩
theorem jhD {M:Hd} {H:Hp} {p:Addr} (l:live M H) (h:H p=none):p ∉ M:=fun z=>l.l p z h
theorem wK {M:Hd} {H:Hp} {p:Addr} {o:HO} (l:live M H) (h:H p=none):hid M (upd H p o) p=some o:=by
  rw [vQ (jhD l h),upd_same]
theorem w5 {M:Hd} {H H':Hp} (e:L2.Same H H'):Same (hid M H) (hid M H'):=jdK fun a o _ q=>e a o q
theorem Rel.live {F:Fm} {S:Sg} {σ:St} {H:Hp} (R:Rel F S σ H):Mir.live (F.M ++ jP S σ) H:=⟨fun _ h=>R.hlv h⟩
def rD (cm:CM) (K:PySem.W.Frag) (g:Dat→Dat→Option Dat):R2:=fun x y H Q=>
  ∃ M a b c,live M H∧Rp cm K (hid M H) x a∧Rp cm K (hid M H) y b∧g a b=some c∧∀ v H',L2.Same H H'→Rp cm K (hid M H') v c→Q v H'
def rU (cm:CM) (K:PySem.W.Frag) (g:Dat→Option Dat):V→Hp→VK→Prop:=fun x H Q=>
  ∃ M a c,live M H∧Rp cm K (hid M H) x a∧g a=some c∧∀ v H',L2.Same H H'→Rp cm K (hid M H') v c→Q v H'
def rDs (cm:CM) (K:PySem.W.Frag) (g:List Dat→Option Dat):List V→Hp→VK→Prop:=fun vs H Q=>
  ∃ M ds c,live M H∧RpAll cm K (hid M H) vs ds∧g ds=some c∧∀ v H',L2.Same H H'→Rp cm K (hid M H') v c→Q v H'
def mC (d:Dat):ME:=fun S=> .ok d S
def jh (i:Nat):ME:=fun S=>match S[i]? with
  | some (.dat d)=> .ok d S
  | some (.loc ds)=> .ok (.lst ds) (S.set i (.dat (.lst ds)))
  | _=> .bad
def m2 (g:Dat→Dat→Option Dat) (ma mb:ME):ME:=fun S=>(ma S).bind fun a S1=>(mb S1).bind fun b S2=>Rs.of (g a b) S2
def m1 (g:Dat→Option Dat) (ma:ME):ME:=fun S=>(ma S).bind fun a S1=>Rs.of (g a) S1
def jY:MA:=fun S=> .ok [] S
def je (ma:ME) (mr:MA):MA:=fun S=>(ma S).bind fun a S1=>(mr S1).bind fun r S2=> .ok (a :: r) S2
def JF (g:List Dat→Option Dat) (ma:MA):ME:=fun S=>(ma S).bind fun ds S1=>Rs.of (g ds) S1
def mIf (c:MT) (a b:ME):ME:=fun S=>(c S).bind fun t S1=>if t=true then a S1 else b S1
def jox (a b:ME):ME:=fun S=>(a S).bind fun d S1=>match d with
  | .bl true=>b S1
  | .bl false=> .ok (.bl false) S1
  | _=> .bad
def mOr (a b:ME):ME:=fun S=>(a S).bind fun d S1=>match d with
  | .bl true=> .ok (.bl true) S1
  | .bl false=>b S1
  | _=> .bad
def jn2 (a:ME):ME:=fun S=>(a S).bind fun d S1=>match d with
  | .bl b=> .ok (.bl !b) S1
  | _=> .bad
def jE (a:ME):MT:=fun S=>(a S).bind fun d S1=>match d with
  | .bl b=> .ok b S1
  | _=> .bad
def jof (a b:MT):MT:=fun S=>(a S).bind fun t S1=>if t=true then b S1 else .ok false S1
def cOr (a b:MT):MT:=fun S=>(a S).bind fun t S1=>if t=true then .ok true S1 else b S1
def jgb (a:MT):MT:=fun S=>(a S).bind fun t S1=> .ok (!t) S1
def jmq (g g':Dat→Dat→Option Dat) (a b c:ME):ME:=fun S=>(a S).bind fun x S1=>(b S1).bind fun y S2=>(Rs.of (g x y) S2).bind fun z S3=>match z with
  | .bl true=>(c S3).bind fun w S4=>Rs.of (g' y w) S4
  | .bl false=> .ok (.bl false) S3
  | _=> .bad
def lim:Nat:=1000000
theorem wm {n:Nat} (h:n≤lim):n≤sizeLine:=Nat.le_trans h (by decide)
theorem jkl {n:Nat} (h:n < lim):n < sizeLine:=Nat.lt_of_lt_of_le h (by decide)
def jjQ (ds:List Dat):Option Dat:=if ds.length≤lim then some (.lst ds) else none
def jjS (ds:List Dat):Option Dat:=if ds.length≤lim then some (.tup ds) else none
def zk (ma:MA):ME:=JF jjQ ma
def YX (ma:MA):ME:=JF jjS ma
section
variable {X:Cx} {cm:CM} {W:WX} {a b c e:Expr} {es:List Expr} {ma mb mc:ME} {mr:MA} {ca cb:MT} {pos:Pos} {g g':Dat→Dat→Option Dat}
theorem jdL {v:V} {d:Dat} (h:PE X e (tC v)) (r:∀ G,Rp cm X.K G v d):PE X e (tE cm X.K W (mC d)):=PE.weak h fun σ H Q ⟨F,S,e1,e2,R,o⟩=>o v H R (.refl _) (r _)
theorem JE {i j}:PE X (.Constant (.int i) j pos) (tE cm X.K W (mC (.int i))):=jdL pe_int fun _=> .int i
theorem jk {x j}:PE X (.Constant (.str x) j pos) (tE cm X.K W (mC (.str x))):=jdL pe_str fun _=> .str x
theorem jhv {x j}:PE X (.Constant (.bool x) j pos) (tE cm X.K W (mC (.bl x))):=jdL pe_bl fun _=> .bl x
theorem jmE {j}:PE X (.Constant .none j pos) (tE cm X.K W (mC .non)):=jdL pe_non fun _=> .non
theorem jb {i:Nat} (h:PE X e (tVar i)):PE X e (tE cm X.K W (jh i)):=PE.weak h fun σ H Q ⟨F,S,e1,e2,R,o⟩=>by
  unfold jh at o
  cases hs:S[i]? with
  | none=>rw [hs] at o; exact False.elim o
  | some s=>
    rw [hs] at o
    have hl:i < σ.length:=by rw [← R.len]; exact (List.getElem?_eq_some_iff.mp hs).1
    have hv:σ[i]? =some σ[i]:=List.getElem?_eq_getElem hl
    have q:=R.sl i s _ hs hv
    cases s with
    | no=>exact False.elim o
    | own j u=>exact False.elim o
    | exn c fs=>exact False.elim o
    | heap T=>exact False.elim o
    | dat d=>
      generalize σ[i]=w at hv q
      cases q with
      | dat r=>exact ⟨_,hv,o _ H R (.refl _) (by rw [← e1,← e2]; exact r)⟩
    | loc ds=>
      generalize σ[i]=w at hv q
      cases q with
      | loc eh r=>
        obtain ⟨R',s',r'⟩:=R.freeze hs hv
        exact ⟨_,hv,o _ H R' s' (by rw [← e1,← e2]; exact r')⟩
theorem yR {F:Fm} {S:Sg} {σ:St} {H:Hp} {Q:VK} {o:Option Dat} {K:PySem.W.Frag} (R:Rel F S σ H) (h:out F W σ (vis F S σ H) (rE cm K) Q (Rs.of o S)) :
    ∃ d,o=some d∧∀ v H',L2.Same H H'→Rp cm K (hid (F.M ++ jP S σ) H') v d→Q v H':=by
  cases o with
  | none=>exact False.elim h
  | some d=>exact ⟨d,rfl,fun v H' s r=>h v H' (R.grow s) (vx s) r⟩
theorem vn {op} (o:OpR X (binaryOp op) (rD cm X.K g)) (ha:PE X a (tE cm X.K W ma)) (hb:PE X b (tE cm X.K W mb)):PE X (.BinOp a op b pos) (tE cm X.K W (m2 g ma mb)):=
  PE.weak (pe_op o ha hb) fun σ H Q ⟨F,S,e1,e2,R,h⟩=>jD e1 e2 R h fun F x H1 da S1 e1 e2 R1 s1 p1 h1=>jD e1 e2 R1 h1 fun F y H2 db S2 e1 e2 R2 s2 p2 h2=>by
    obtain ⟨d,e,q⟩:=yR R2 h2
    exact ⟨_,da,db,d,R2.live,p1.mono s2,p2,e,q⟩
theorem jkm {op} (o:OpR X (compareOp op) (rD cm X.K g)) (ha:PE X a (tE cm X.K W ma)) (hb:PE X b (tE cm X.K W mb)) (hm:behindInMarks op b=false):PE X (.Compare a [op] [b] pos) (tE cm X.K W (m2 g ma mb)):=
  PE.weak (pe_cmpR o ha hb hm) fun σ H Q ⟨F,S,e1,e2,R,h⟩=>jD e1 e2 R h fun F x H1 da S1 e1 e2 R1 s1 p1 h1=>jD e1 e2 R1 h1 fun F y H2 db S2 e1 e2 R2 s2 p2 h2=>by
    obtain ⟨d,e,q⟩:=yR R2 h2
    exact ⟨_,da,db,d,R2.live,p1.mono s2,p2,e,q⟩
theorem jl3 (o:IxR X (rD cm X.K g)) (ha:PE X a (tE cm X.K W ma)) (hb:PE X b (tE cm X.K W mb)) (hm:PlainIx b):PE X (.Subscript a b pos) (tE cm X.K W (m2 g ma mb)):=
  PE.weak (pe_ix o ha hb hm) fun σ H Q ⟨F,S,e1,e2,R,h⟩=>jD e1 e2 R h fun F x H1 da S1 e1 e2 R1 s1 p1 h1=>jD e1 e2 R1 h1 fun F y H2 db S2 e1 e2 R2 s2 p2 h2=>by
    obtain ⟨d,e,q⟩:=yR R2 h2
    exact ⟨_,da,db,d,R2.live,p1.mono s2,p2,e,q⟩
theorem jnp {op} {f:Dat→Option Dat} (o:UnR X (unaryOp op) (rU cm X.K f)) (ha:PE X a (tE cm X.K W ma)):PE X (.UnaryOp op a pos) (tE cm X.K W (m1 f ma)):=
  PE.weak (pe_un o ha) fun σ H Q ⟨F,S,e1,e2,R,h⟩=>jD e1 e2 R h fun F x H1 da S1 e1 e2 R1 s1 p1 h1=>by
    obtain ⟨d,e,q⟩:=yR R1 h1
    exact ⟨_,da,d,R1.live,p1,e,q⟩
theorem ji:PA X [] (tA cm X.K W jY):=PA.weak pa_nil fun σ H Q ⟨F,S,e1,e2,R,h⟩=>h [] H R (.refl _) .nil
theorem ja (ha:PE X e (tE cm X.K W ma)) (hr:PA X es (tA cm X.K W mr)) (hs:starEach (e :: es) X.env=(false,eval e X.env) :: starEach es X.env:=by rfl):PA X (e :: es) (tA cm X.K W (je ma mr)):=
  PA.weak (pa_cons ha hr hs) fun σ H Q ⟨F,S,e1,e2,R,h⟩=>jD e1 e2 R h fun F x H1 da S1 e1 e2 R1 s1 p1 h1=>jD e1 e2 R1 h1 fun F y H2 db S2 e1 e2 R2 s2 p2 h2=>h2 _ H2 R2 (.refl _) (.cons (p1.mono s2) p2)
theorem vc {x:Str} {p:Pos} {id:String} {f:List Dat→Option Dat} (hc:CallR X (.builtin id) (rDs cm X.K f)) (hg:Gl X x) (hm:X.mg x=none) (hv:bootBuiltins x=some (.builtin id)) (ha:PA X (e :: es) (tA cm X.K W mr))
    (hn:x ≠ "__name__" :=by decide) (hdb:(x == ("__debug__" :Str))=false:=by decide) (he:starEach (e :: es) X.env=(false,eval e X.env) :: starEach es X.env:=by rfl) (hpl:(backTo pos (starEach es X.env)).any (·.1)=false:=by rfl) :
    PE X (.Call (.Name x p) (e :: es) [] pos) (tE cm X.K W (JF f mr)):=
  PE.weak (pe_callB hc hg hm hv ha hn hdb he hpl) fun σ H Q ⟨F,S,e1,e2,R,h⟩=>jD e1 e2 R h fun F x H1 da S1 e1 e2 R1 s1 p1 h1=>by
    obtain ⟨d,e,q⟩:=yR R1 h1
    exact ⟨_,da,d,R1.live,p1,e,q⟩
theorem jaQ {x:Str} {p:Pos} {T:String} {f:List Dat→Option Dat} (hc:CallR X (.type T) (rDs cm X.K f)) (hg:Gl X x) (hm:X.mg x=none) (hv:bootBuiltins x=some (.type T)) (ha:PA X (e :: es) (tA cm X.K W mr))
    (hn:x ≠ "__name__" :=by decide) (hdb:(x == ("__debug__" :Str))=false:=by decide) (he:starEach (e :: es) X.env=(false,eval e X.env) :: starEach es X.env:=by rfl) (hpl:(backTo pos (starEach es X.env)).any (·.1)=false:=by rfl) :
    PE X (.Call (.Name x p) (e :: es) [] pos) (tE cm X.K W (JF f mr)):=
  PE.weak (pe_callTy hc hg hm hv ha hn hdb he hpl) fun σ H Q ⟨F,S,e1,e2,R,h⟩=>jD e1 e2 R h fun F x H1 da S1 e1 e2 R1 s1 p1 h1=>by
    obtain ⟨d,e,q⟩:=yR R1 h1
    exact ⟨_,da,d,R1.live,p1,e,q⟩
theorem Jb (ha:PA X es (tA cm X.K W mr)):PE X (.List es pos) (tE cm X.K W (zk mr)):=
  PE.weak (pe_lst ha) fun σ H Q ⟨F,S,e1,e2,R,h⟩=>jD e1 e2 R h fun F x H1 da S1 e1 e2 R1 s1 p1 h1=>by
    obtain ⟨d,e,q⟩:=yR R1 h1
    unfold jjQ at e
    by_cases hl:da.length≤lim
    · rw [if_pos hl] at e
      cases e
      refine ⟨by rw [RpAll.length p1]; exact wm hl,fun p hp=>q _ _ (jZ hp) (.lst (wK R1.live hp) (RpAll.mono (w5 (jZ hp)) p1))⟩
    · rw [if_neg hl] at e; cases e
theorem Jt {k} (ha:PA X es (tA cm X.K W mr)):PE X (.Tuple es k pos) (tE cm X.K W (YX mr)):=
  PE.weak (pe_tup ha) fun σ H Q ⟨F,S,e1,e2,R,h⟩=>jD e1 e2 R h fun F x H1 da S1 e1 e2 R1 s1 p1 h1=>by
    obtain ⟨d,e,q⟩:=yR R1 h1
    unfold jjS at e
    by_cases hl:da.length≤lim
    · rw [if_pos hl] at e
      cases e
      refine ⟨by rw [RpAll.length p1]; exact wm hl,fun p hp=>q _ _ (jZ hp) (.tup (SqT.of (wK R1.live hp)) (RpAll.mono (w5 (jZ hp)) p1))⟩
    · rw [if_neg hl] at e; cases e
theorem yd (h:PE X e (tE cm X.K W ma)) (he:∀ whole,isTrue e X.env whole=(do let v ← whole; standAt e.pos; holding [v] (truthy v)):=by intro _; rfl):PT X e (tT cm X.K W (jE ma)):=
  PT.weak (pt_val h he) fun σ H Q ⟨F,S,e1,e2,R,h⟩=>jD e1 e2 R h fun F x H1 da S1 e1 e2 R1 s1 p1 h1=>by
    cases p1 with
    | bl t=>exact ⟨t,rfl,h1 t H1 R1 (.refl _) rfl⟩
    | _=>exact False.elim h1
theorem jiZ (h:PT X e (tT cm X.K W ca)):PT X (.UnaryOp .Not e pos) (tT cm X.K W (jgb ca)):=
  PT.weak (pt_not h) fun σ H Q ⟨F,S,e1,e2,R,h⟩=>jD e1 e2 R h fun F x H1 da S1 e1 e2 R1 s1 p1 h1=>by
    cases p1
    exact h1 _ H1 R1 (.refl _) rfl
theorem jg4 (h:PT X e (tT cm X.K W ca)):PW X (.BoolOp .Or [e] pos) (tT cm X.K W ca):=pw_or1 h
theorem jji (ha:PT X a (tT cm X.K W ca)) (hb:PW X (.BoolOp .Or (b :: es) pos) (tT cm X.K W cb)):PW X (.BoolOp .Or (a :: b :: es) pos) (tT cm X.K W (cOr ca cb)):=
  PW.weak (pw_or ha hb) fun σ H Q ⟨F,S,e1,e2,R,h⟩=>jD e1 e2 R h fun F x H1 da S1 e1 e2 R1 s1 p1 h1=>by
    cases p1
    cases x with
    | false=>exact ⟨F,S1,e1,e2,R1,h1⟩
    | true=>exact h1 _ H1 R1 (.refl _) rfl
theorem jmv (hc:PT X c (tT cm X.K W ca)) (ha:PE X a (tE cm X.K W ma)) (hb:PE X b (tE cm X.K W mb)):PE X (.IfExp c a b pos) (tE cm X.K W (mIf ca ma mb)):=
  PE.weak (pe_ifExp hc ha hb) fun σ H Q ⟨F,S,e1,e2,R,h⟩=>jD e1 e2 R h fun F x H1 da S1 e1 e2 R1 s1 p1 h1=>by
    cases p1
    cases x with
    | true=>exact ⟨F,S1,e1,e2,R1,h1⟩
    | false=>exact ⟨F,S1,e1,e2,R1,h1⟩
end
end Mir
namespace Mir
open PySem L2
def jgM (f:Int→Int→Option Dat):Dat→Dat→Option Dat
  | .int i,.int j=>f i j
  | _,_=>none
def Vu:Dat→Dat→Option Dat
  | .int i,.int j=>some (.int (i + j))
  | .str x,.str y=>if x.length + y.length≤lim then some (.str (x ++ y)) else none
  | .lst xs,.lst ys=>if xs.length + ys.length≤lim then some (.lst (xs ++ ys)) else none
  | .tup xs,.tup ys=>if xs ≠ []∧xs.length + ys.length≤lim then some (.tup (xs ++ ys)) else none
  | _,_=>none
abbrev jn9:=jgM fun i j=>some (.int (i - j))
def Wm (i:Int):Bool:=decide (-(2 ^ 64) < i) && decide (i < 2 ^ 64)
def jlu (i j:Int):Option Dat:=if Wm i || Wm j then some (.int (i * j)) else none
def ji1:Dat→Dat→Option Dat
  | .int i,.int j=>jlu i j
  | .lst xs,.int j=>if -(2 ^ 63)≤j∧j < 2 ^ 63∧xs.length * j.toNat≤lim then some (.lst (List.replicate j.toNat xs).flatten) else none
  | _,_=>none
abbrev jlt:=jgM fun i j=>if 0 < j then some (.int (i % j)) else none
abbrev jl4:=jgM fun i j=>if 0 < j∧j < 1073741824 then some (.int (i / j)) else none
abbrev jls:=jgM fun i j=>if 0≤j∧j≤1000000∧i.natAbs < 2 ^ 64 then some (.int (i ^ j.toNat)) else none
abbrev ltD:=jgM fun i j=>some (.bl (decide (i < j)))
abbrev gtD:=jgM fun i j=>some (.bl (decide (j < i)))
def jnY:Dat→Option Dat
  | .int i=>some (.int (-i))
  | _=>none
mutual
def jgs:Dat→Option PyData
  | .non=>some .none
  | .bl b=>some (.bool b)
  | .int i=>some (.int i)
  | .str x=>some (.str x)
  | .lst ds=>match toPyAll ds with
    | some ps=>some (.list ps)
    | none=>none
  | .tup ds=>match toPyAll ds with
    | some ps=>some (.tuple ps)
    | none=>none
  | .ro ds=>match toPyAll ds with
    | some ps=>some (.list ps)
    | none=>none
  | .ins _ _=>none
  | .dic _=>none
  | .ptr _=>none
  | .exn _ _=>none
def toPyAll:List Dat→Option (List PyData)
  | []=>some []
  | d :: ds=>match jgs d,toPyAll ds with
    | some p,some ps=>some (p :: ps)
    | _,_=>none
end
def eqP (a b:Dat):Option Bool:=match jgs a,jgs b with
  | some p,some q=>if SeqAt.shaped p && SeqAt.shaped q then some (PyData.eqv p q) else none
  | _,_=>none
def eqB:Dat→Dat→Option Bool
  | .int i,.int j=>some (decide (i=j))
  | .str x,.str y=>some (decide (x=y))
  | .bl x,.bl y=>some (decide (x=y))
  | .non,.non=>some true
  | a,b=>eqP a b
def eqD (a b:Dat):Option Dat:=(eqB a b).map Dat.bl
def neD (a b:Dat):Option Dat:=(eqB a b).map fun t=>Dat.bl (!t)
def ixD:Dat→Dat→Option Dat
  | .lst ds,.int i=>atI ds i
  | .tup ds,.int i=>atI ds i
  | .ro ds,.int i=>atI ds i
  | .str x,.int i=>if x.length≤lim then (atI x.cps.toList i).map fun c=>Dat.str ⟨#[c]⟩ else none
  | _,_=>none
def jbP:List Dat→Option (List Int)
  | []=>some []
  | .int i :: ds=>match jbP ds with
    | some r=>some (i :: r)
    | none=>none
  | _=>none
def Vq:List Dat→Option (List Bool)
  | []=>some []
  | .bl i :: ds=>match Vq ds with
    | some r=>some (i :: r)
    | none=>none
  | _=>none
def jdj:List Dat→Option (List Str)
  | []=>some []
  | .str i :: ds=>match jdj ds with
    | some r=>some (i :: r)
    | none=>none
  | _=>none
def jkd:List Int→Int
  | []=>0
  | [x]=>x
  | x :: r=>max x (jkd r)
def jj5:List Int→Int
  | []=>0
  | [x]=>x
  | x :: r=>min x (jj5 r)
def jhk:List Dat→Option Dat
  | [.lst ds]=>some (.int ds.length)
  | [.tup ds]=>some (.int ds.length)
  | [.ro ds]=>some (.int ds.length)
  | [.str x]=>if x.length≤lim then some (.int x.length) else none
  | _=>none
def jmf:List Dat→Option Dat
  | [.int i]=>some (.int (if i < 0 then -i else i))
  | _=>none
def jl8:List Dat→Option Dat
  | [.int i,.int j]=>some (.int (if j > i then j else i))
  | [.lst ds]=>match jbP ds with
    | some (n :: r)=>some (.int (jkd (n :: r)))
    | _=>none
  | _=>none
def jm9:List Dat→Option Dat
  | [.int i,.int j]=>some (.int (if j < i then j else i))
  | [.lst ds]=>match jbP ds with
    | some (n :: r)=>some (.int (jj5 (n :: r)))
    | _=>none
  | _=>none
def jnN:List Dat→Option Dat
  | [.lst ds]=>(Vq ds).map fun ns=> .bl (ns.all id)
  | _=>none
def jko:List Dat→Option Dat
  | [.int i]=>some (.int i)
  | [.bl b]=>some (.int (if b=true then 1 else 0))
  | _=>none
def jfs:List Dat→Option Dat
  | [.int i,.int j]=>if 0 < j∧j < 1073741824 then some (.tup [.int (i / j),.int (i % j)]) else none
  | _=>none
section
variable {X:Cx} {cm:CM}
theorem jkC {f:Value→Value→Sem Value} {C:Int→Int→Prop} {g:Int→Int→V} {h:Int→Int→Option Dat} (o:OpR X f (rI C g)) (k:∀ i j d,h i j=some d→C i j∧∀ G,Rp cm X.K G (g i j) d):OpR X f (rD cm X.K (jgM h)):=by
  rintro pins s σ H x y v u Q I rx ry ⟨M,a,b,c,lv,pa,pb,e,q⟩
  cases a with
  | int i=>
    cases b with
    | int j=>
      cases pa
      cases pb
      obtain ⟨k1,k2⟩:=k i j c e
      exact o pins s σ H _ _ v u Q I rx ry ⟨i,j,rfl,rfl,k1,q _ H (.refl _) (k2 _)⟩
    | _=>cases e
  | _=>cases e
theorem jiW {f:Value→Value→Sem Value} {g:Int→Int→V} {h:Int→Int→Option Dat} (o:OpR X f (rI0 g)) (k:∀ i j d,h i j=some d→∀ G,Rp cm X.K G (g i j) d):OpR X f (rD cm X.K (jgM h)):=by
  rintro pins s σ H x y v u Q I rx ry ⟨M,a,b,c,lv,pa,pb,e,q⟩
  cases a with
  | int i=>
    cases b with
    | int j=>
      cases pa
      cases pb
      exact o pins s σ H _ _ v u Q I rx ry ⟨i,j,rfl,rfl,q _ H (.refl _) (k i j c e _)⟩
    | _=>cases e
  | _=>cases e
theorem wZ:OpR X (binaryOp .Add) (rD cm X.K Vu):=by
  rintro pins s σ H x y v u Q I rx ry ⟨M,a,b,c,lv,pa,pb,e,q⟩
  cases a with
  | int i=>
    cases b with
    | int j=>
      cases pa; cases pb; cases e
      exact op_add pins s σ H _ _ v u Q I rx ry ⟨i,j,rfl,rfl,q _ H (.refl _) (.int _)⟩
    | _=>cases e
  | str i=>
    cases b with
    | str j=>
      cases pa; cases pb
      unfold Vu at e
      by_cases hz:i.length + j.length≤lim
      · dsimp only at e
        rw [if_pos hz] at e; cases e
        exact op_add_str pins s σ H _ _ v u Q I rx ry ⟨i,j,rfl,rfl,wm hz,q _ H (.refl _) (.str _)⟩
      · dsimp only at e
        rw [if_neg hz] at e; cases e
    | _=>cases e
  | lst i=>
    cases b with
    | lst j=>
      unfold Vu at e
      by_cases hz:i.length + j.length≤lim
      · dsimp only at e
        rw [if_pos hz] at e; cases e
        cases pa with
        | lst ha ra=>
          cases pb with
          | lst hb rb=>
            refine op_cat pins s σ H _ _ v u Q I rx ry ⟨_,_,_,_,rfl,rfl,Jk _ _ ha,Jk _ _ hb,?_,fun p hp=>q _ _ (jZ hp) (.lst (wK lv hp) ((ra.append rb).mono (w5 (jZ hp))))⟩
            rw [ra.length,rb.length]; exact wm hz
      · dsimp only at e
        rw [if_neg hz] at e; cases e
    | _=>cases e
  | tup i=>
    cases b with
    | tup j=>
      unfold Vu at e
      by_cases hz:i ≠ []∧i.length + j.length≤lim
      · dsimp only at e
        rw [if_pos hz] at e; cases e
        cases pa with
        | tup ha ra=>
          cases pb with
          | tup hb rb=>
            refine op_catT pins s σ H _ _ v u Q I rx ry ⟨_,_,_,_,rfl,rfl,yp Jk ha,yp Jk hb,fun z=>hz.1 ?_,?_,fun z=>q _ _ (.refl _) ?_,fun _ p hp=>q _ _ (jZ hp) (.tup (SqT.of (wK lv hp)) ((ra.append rb).mono (w5 (jZ hp))))⟩
            · have l:=ra.length
              rw [z] at l
              cases i with
              | nil=>rfl
              | cons _ _=>cases l
            · rw [ra.length,rb.length]; exact wm hz.2
            · subst z
              cases rb
              rw [List.append_nil]
              exact .tup ha ra
      · dsimp only at e
        rw [if_neg hz] at e; cases e
    | _=>cases e
  | _=>cases e
theorem jnA:OpR X (binaryOp .Sub) (rD cm X.K jn9):=jiW op_sub fun i j d e G=>by cases e; exact .int _
theorem jip:OpR X (binaryOp .Mult) (rD cm X.K ji1):=by
  rintro pins s σ H x y v u Q I rx ry ⟨M,a,b,c,lv,pa,pb,e,q⟩
  cases a with
  | int i=>
    cases b with
    | int j=>
      cases pa; cases pb
      have e':jlu i j=some c:=e
      unfold jlu Wm at e'
      by_cases hz:(decide (-(2 ^ 64) < i) && decide (i < 2 ^ 64) || decide (-(2 ^ 64) < j) && decide (j < 2 ^ 64))=true
      · rw [if_pos hz] at e'; cases e'
        simp only [Bool.or_eq_true,Bool.and_eq_true,decide_eq_true_eq] at hz
        exact op_mul pins s σ H _ _ v u Q I rx ry ⟨i,j,rfl,rfl,hz,q _ H (.refl _) (.int _)⟩
      · rw [if_neg hz] at e'; cases e'
    | _=>cases e
  | lst i=>
    cases b with
    | int j=>
      cases pb
      unfold ji1 at e
      by_cases hz: -(2 ^ 63)≤j∧j < 2 ^ 63∧i.length * j.toNat≤lim
      · dsimp only at e
        rw [if_pos hz] at e; cases e
        cases pa with
        | lst ha ra=>
          have rr:∀ n:Nat,RpAll cm X.K (hid M H) (List.replicate n _).flatten (List.replicate n i).flatten:=fun n=>by
            induction n with
            | zero=>exact .nil
            | succ n ih=>rw [List.replicate_succ,List.replicate_succ,List.flatten_cons,List.flatten_cons]; exact ra.append ih
          refine op_rep pins s σ H _ _ v u Q I rx ry ⟨_,j,_,rfl,rfl,Jk _ _ ha,hz.1,hz.2.1,?_,fun p hp=>q _ _ (jZ hp) (.lst (wK lv hp) ((rr _).mono (w5 (jZ hp))))⟩
          rw [ra.length]; exact wm hz.2.2
      · dsimp only at e
        rw [if_neg hz] at e; cases e
    | _=>cases e
  | _=>cases e
theorem jir:OpR X (binaryOp .Mod) (rD cm X.K jlt):=jkC op_mod fun i j d e=>by
  by_cases hz:0 < j
  · rw [if_pos hz] at e; cases e; exact ⟨hz,fun _=> .int _⟩
  · rw [if_neg hz] at e; cases e
theorem jlC:OpR X (binaryOp .FloorDiv) (rD cm X.K jl4):=jkC op_fdiv fun i j d e=>by
  by_cases hz:0 < j∧j < 1073741824
  · rw [if_pos hz] at e; cases e; exact ⟨hz,fun _=> .int _⟩
  · rw [if_neg hz] at e; cases e
theorem jk0:OpR X (binaryOp .Pow) (rD cm X.K jls):=jkC op_pow fun i j d e=>by
  by_cases hz:0≤j∧j≤1000000∧i.natAbs < 2 ^ 64
  · rw [if_pos hz] at e; cases e; exact ⟨hz,fun _=> .int _⟩
  · rw [if_neg hz] at e; cases e
theorem joo:OpR X (compareOp .Lt) (rD cm X.K ltD):=jiW op_lt fun i j d e G=>by cases e; exact .bl _
theorem joy:OpR X (compareOp .Gt) (rD cm X.K gtD):=jiW op_gt fun i j d e G=>by cases e; exact .bl _
theorem jns:UnR X (unaryOp .USub) (rU cm X.K jnY):=by
  rintro pins s σ H x v Q I rx ⟨M,a,c,lv,pa,e,q⟩
  cases a with
  | int i=>
    cases pa; cases e
    exact un_neg pins s σ H _ v Q I rx ⟨i,rfl,q _ H (.refl _) (.int _)⟩
  | _=>cases e
mutual
theorem jla {K:PySem.W.Frag} {G:VH}:∀ {v:V} {d:Dat} {p:PyData},Rp cm K G v d→jgs d=some p→Dp K G v p
  | _,_,_,.non,e=>by cases e; exact .non
  | _,_,_,.bl b,e=>by cases e; exact .bl b
  | _,_,_,.int b,e=>by cases e; exact .int b
  | _,_,_,.str b,e=>by cases e; exact .str b
  | _,_,p,.lst (ds:=ds) s r,e=>by
    rw [jgs] at e
    cases h:toPyAll ds with
    | none=>rw [h] at e; cases e
    | some ps=>rw [h] at e; cases e; exact .lst (SqL.of s) (dpAll_of r h)
  | _,_,p,.ro (ds:=ds) s r,e=>by
    rw [jgs] at e
    cases h:toPyAll ds with
    | none=>rw [h] at e; cases e
    | some ps=>rw [h] at e; cases e; exact .lst s (dpAll_of r h)
  | _,_,p,.tup (ds:=ds) s r,e=>by
    rw [jgs] at e
    cases h:toPyAll ds with
    | none=>rw [h] at e; cases e
    | some ps=>rw [h] at e; cases e; exact .tup s (dpAll_of r h)
  | _,_,_,.ins s r,e=>by rw [jgs] at e; cases e
  | _,_,_,.dic s r,e=>by rw [jgs] at e; cases e
  | _,_,_,.ptr q,e=>by rw [jgs] at e; cases e
  | _,_,_,.exn _ _ _,e=>by rw [jgs] at e; cases e
  | _,_,_,.exn0 _,e=>by rw [jgs] at e; cases e
theorem dpAll_of {K:PySem.W.Frag} {G:VH}:∀ {vs:List V} {ds:List Dat} {ps:List PyData},RpAll cm K G vs ds→toPyAll ds=some ps→DpAll K G vs ps
  | _,_,_,.nil,e=>by rw [toPyAll] at e; cases e; exact .nil
  | _,_,_,.cons (d:=d) (ds:=ds) a b,e=>by
    rw [toPyAll] at e
    cases h:jgs d with
    | none=>rw [h] at e; cases e
    | some p=>
      cases h2:toPyAll ds with
      | none=>rw [h,h2] at e; cases e
      | some ps=>rw [h,h2] at e; cases e; exact .cons (jla a h) (dpAll_of b h2)
end
theorem jlX {t:Bool} {M:Hd} {H:Hp} {x y:V} {a b:Dat} (pa:Rp cm X.K (hid M H) x a) (pb:Rp cm X.K (hid M H) y b) (e:eqP a b=some t) :
    ∃ d f,Dp X.K H x d∧Dp X.K H y f∧SeqAt.shaped d=true∧SeqAt.shaped f=true∧PyData.eqv d f=t:=by
  unfold eqP at e
  cases ha:jgs a with
  | none=>rw [ha] at e; cases e
  | some p=>
    cases hb:jgs b with
    | none=>rw [ha,hb] at e; cases e
    | some r=>
      rw [ha,hb] at e
      dsimp only at e
      by_cases hz:(SeqAt.shaped p && SeqAt.shaped r)=true
      · rw [if_pos hz] at e
        cases e
        rw [Bool.and_eq_true] at hz
        exact ⟨p,r,jla (pa.mono jeh) ha,jla (pb.mono jeh) hb,hz.1,hz.2,rfl⟩
      · rw [if_neg hz] at e; cases e
theorem jf1 {t:Bool} {M:Hd} {H:Hp} {x y:V} {a b:Dat} (pa:Rp cm X.K (hid M H) x a) (pb:Rp cm X.K (hid M H) y b) (e:eqB a b=some t) :
    (scal x y=true∧decide (x=y)=t)∨∃ d f,Dp X.K H x d∧Dp X.K H y f∧SeqAt.shaped d=true∧SeqAt.shaped f=true∧PyData.eqv d f=t:=by
  have gen:eqP a b=some t→(scal x y=true∧decide (x=y)=t)∨∃ d f,Dp X.K H x d∧Dp X.K H y f∧SeqAt.shaped d=true∧SeqAt.shaped f=true∧PyData.eqv d f=t:=fun e=> .inr (jlX pa pb e)
  cases a with
  | int i=>
    cases b with
    | int j=>cases pa; cases pb; cases e; exact .inl ⟨rfl,by simp⟩
    | _=>exact gen (by simpa [eqB] using e)
  | str i=>
    cases b with
    | str j=>cases pa; cases pb; cases e; exact .inl ⟨rfl,by simp⟩
    | _=>exact gen (by simpa [eqB] using e)
  | bl i=>
    cases b with
    | bl j=>cases pa; cases pb; cases e; exact .inl ⟨rfl,by simp⟩
    | _=>exact gen (by simpa [eqB] using e)
  | non=>
    cases b with
    | non=>cases pa; cases pb; cases e; exact .inl ⟨rfl,by simp⟩
    | _=>exact gen (by simpa [eqB] using e)
  | _=>exact gen (by simpa [eqB] using e)
theorem jn7 (hu:X.A.units + 64 < cLine):OpR X (compareOp .Eq) (rD cm X.K eqD):=by
  rintro pins s σ H x y v u Q I rx ry ⟨M,a,b,c,lv,pa,pb,e,q⟩
  unfold eqD at e
  cases h:eqB a b with
  | none=>rw [h] at e; cases e
  | some t=>
    rw [h] at e
    cases e
    rcases jf1 pa pb h with ⟨h1,rfl⟩ | ⟨d,f,h1,h2,h3,h4,rfl⟩
    · exact op_eq pins s σ H _ _ v u Q I rx ry ⟨h1,q _ H (.refl _) (.bl _)⟩
    · exact op_eqD hu pins s σ H _ _ v u Q I rx ry ⟨d,f,h1,h2,h3,h4,q _ H (.refl _) (.bl _)⟩
theorem jlr (hu:X.A.units + 64 < cLine):OpR X (compareOp .NotEq) (rD cm X.K neD):=by
  rintro pins s σ H x y v u Q I rx ry ⟨M,a,b,c,lv,pa,pb,e,q⟩
  unfold neD at e
  cases h:eqB a b with
  | none=>rw [h] at e; cases e
  | some t=>
    rw [h] at e
    cases e
    rcases jf1 pa pb h with ⟨h1,rfl⟩ | ⟨d,f,h1,h2,h3,h4,rfl⟩
    · exact op_ne pins s σ H _ _ v u Q I rx ry ⟨h1,q _ H (.refl _) (.bl _)⟩
    · exact op_neD hu pins s σ H _ _ v u Q I rx ry ⟨d,f,h1,h2,h3,h4,q _ H (.refl _) (.bl _)⟩
theorem jjE {K:PySem.W.Frag} {G:VH} {vs:List V} {ds:List Dat} {i:Int} {d:Dat} (r:RpAll cm K G vs ds) (e:atI ds i=some d):∃ v,atI vs i=some v∧Rp cm K G v d:=by
  unfold atI at e ⊢
  rw [r.length]
  cases h:ixN ds.length i with
  | none=>rw [h] at e; cases e
  | some j=>rw [h] at e; exact r.get e
theorem jnI:IxR X (rD cm X.K ixD):=by
  rintro ve vs pins s σ H x y v u Q I rx ry ⟨M,a,b,c,lv,pa,pb,e,q⟩ hp
  cases b with
  | int i=>
    cases pb
    cases a with
    | lst ds=>
      cases pa with
      | lst ha ra=>
        obtain ⟨w,e1,e2⟩:=jjE ra e
        exact ix_list ve vs pins s σ H _ _ v u Q I rx ry ⟨_,_,i,w,rfl,rfl,SqL.of (Jk _ _ ha),e1,q _ H (.refl _) e2⟩ hp
    | ro ds=>
      cases pa with
      | ro ha ra=>
        obtain ⟨w,e1,e2⟩:=jjE ra e
        exact ix_list ve vs pins s σ H _ _ v u Q I rx ry ⟨_,_,i,w,rfl,rfl,L2.Same.seq Jk ha,e1,q _ H (.refl _) e2⟩ hp
    | tup ds=>
      cases pa with
      | tup ha ra=>
        obtain ⟨w,e1,e2⟩:=jjE ra e
        exact ix_tup ve vs pins s σ H _ _ v u Q I rx ry ⟨_,_,i,w,rfl,rfl,yp Jk ha,e1,q _ H (.refl _) e2⟩ hp
    | str z=>
      cases pa
      unfold ixD at e
      dsimp only at e
      by_cases hz:z.length≤lim
      · rw [if_pos hz] at e
        cases h:atI z.cps.toList i with
        | none=>rw [h] at e; cases e
        | some n=>
          rw [h] at e; cases e
          exact ix_str ve vs pins s σ H _ _ v u Q I rx ry ⟨z,i,n,rfl,rfl,wm hz,h,q _ H (.refl _) (.str _)⟩ hp
      · rw [if_neg hz] at e; cases e
    | _=>cases e
  | _=>cases a <;> cases e
end
end Mir
namespace Mir
open PySem L2
section
variable {X:Cx} {cm:CM}
theorem jgp {K:PySem.W.Frag} {G:VH}:∀ {vs:List V} {ds:List Dat} {ns:List Int},RpAll cm K G vs ds→jbP ds=some ns→vs=ns.map V.int
  | _,_,_,.nil,e=>by cases e; rfl
  | _,_,_,.cons (d:=d) (ds:=ds) a b,e=>by
    cases d with
    | int i=>
      cases a
      unfold jbP at e
      cases h:jbP ds with
      | none=>rw [h] at e; cases e
      | some r=>rw [h] at e; cases e; rw [jgp b h]; rfl
    | _=>cases e
theorem jg8 {K:PySem.W.Frag} {G:VH}:∀ {vs:List V} {ds:List Dat} {ns:List Bool},RpAll cm K G vs ds→Vq ds=some ns→vs=ns.map V.bl
  | _,_,_,.nil,e=>by cases e; rfl
  | _,_,_,.cons (d:=d) (ds:=ds) a b,e=>by
    cases d with
    | bl i=>
      cases a
      unfold Vq at e
      cases h:Vq ds with
      | none=>rw [h] at e; cases e
      | some r=>rw [h] at e; cases e; rw [jg8 b h]; rfl
    | _=>cases e
theorem jiD {K:PySem.W.Frag} {G:VH}:∀ {vs:List V} {ds:List Dat} {ns:List Str},RpAll cm K G vs ds→jdj ds=some ns→vs=ns.map V.str
  | _,_,_,.nil,e=>by cases e; rfl
  | _,_,_,.cons (d:=d) (ds:=ds) a b,e=>by
    cases d with
    | str i=>
      cases a
      unfold jdj at e
      cases h:jdj ds with
      | none=>rw [h] at e; cases e
      | some r=>rw [h] at e; cases e; rw [jiD b h]; rfl
    | _=>cases e
theorem jgT:∀ (n:Int) (r:List Int),jkd (n :: r) ∈ n :: r∧∀ y ∈ n :: r,y≤jkd (n :: r)
  | n,[]=>⟨List.mem_singleton.mpr rfl,fun y h=>by rw [List.mem_singleton.mp h]; exact Int.le_refl _⟩
  | n,m :: r=>by
    obtain ⟨h1,h2⟩:=jgT m r
    show max n (jkd (m :: r)) ∈ _∧∀ y ∈ _,y≤max n (jkd (m :: r))
    refine ⟨?_,fun y hy=>?_⟩
    · by_cases h:n≤jkd (m :: r)
      · rw [Int.max_eq_right h]; exact List.mem_cons_of_mem _ h1
      · rw [Int.max_eq_left (by omega)]; exact List.mem_cons_self ..
    · rcases List.mem_cons.mp hy with e | e
      · rw [e]; exact Int.le_max_left _ _
      · exact Int.le_trans (h2 y e) (Int.le_max_right _ _)
theorem jgU:∀ (n:Int) (r:List Int),jj5 (n :: r) ∈ n :: r∧∀ y ∈ n :: r,jj5 (n :: r)≤y
  | n,[]=>⟨List.mem_singleton.mpr rfl,fun y h=>by rw [List.mem_singleton.mp h]; exact Int.le_refl _⟩
  | n,m :: r=>by
    obtain ⟨h1,h2⟩:=jgU m r
    show min n (jj5 (m :: r)) ∈ _∧∀ y ∈ _,min n (jj5 (m :: r))≤y
    refine ⟨?_,fun y hy=>?_⟩
    · by_cases h:n≤jj5 (m :: r)
      · rw [Int.min_eq_left h]; exact List.mem_cons_self ..
      · rw [Int.min_eq_right (by omega)]; exact List.mem_cons_of_mem _ h1
    · rcases List.mem_cons.mp hy with e | e
      · rw [e]; exact Int.min_le_left _ _
      · exact Int.le_trans (Int.min_le_right _ _) (h2 y e)
theorem jkS:CallR X (.builtin "len") (rDs cm X.K jhk):=by
  rintro pins s σ H xs us Q I r ⟨M,ds,c,lv,pa,e,q⟩
  cases pa with
  | nil=>cases e
  | cons p1 p2=>
    cases p2 with
    | cons _ _=>cases p1 <;> cases e
    | nil=>
      cases p1 with
      | lst ha ra=>cases e; exact call_len pins s σ H _ us Q I r ⟨_,_,rfl,.inl ⟨_,SqL.of (Jk _ _ ha),ra.length.symm⟩,q _ H (.refl _) (.int _)⟩
      | ro ha ra=>cases e; exact call_len pins s σ H _ us Q I r ⟨_,_,rfl,.inl ⟨_,L2.Same.seq Jk ha,ra.length.symm⟩,q _ H (.refl _) (.int _)⟩
      | tup ha ra=>cases e; exact call_len pins s σ H _ us Q I r ⟨_,_,rfl,.inr ⟨_,yp Jk ha,ra.length.symm⟩,q _ H (.refl _) (.int _)⟩
      | str z=>
        unfold jhk at e
        dsimp only at e
        by_cases hz:z.length≤lim
        · rw [if_pos hz] at e; cases e
          exact call_len pins s σ H _ us Q I r ⟨_,_,rfl,⟨wm hz,rfl⟩,q _ H (.refl _) (.int _)⟩
        · rw [if_neg hz] at e; cases e
      | _=>cases e
theorem jmG:CallR X (.builtin "abs") (rDs cm X.K jmf):=by
  rintro pins s σ H xs us Q I r ⟨M,ds,c,lv,pa,e,q⟩
  cases pa with
  | nil=>cases e
  | cons p1 p2=>
    cases p2 with
    | cons _ _=>cases p1 <;> cases e
    | nil=>
      cases p1 with
      | int i=>cases e; exact call_abs pins s σ H _ us Q I r ⟨i,rfl,q _ H (.refl _) (.int _)⟩
      | _=>cases e
theorem jmP (hc:X.calm=true):CallR X (.builtin "max") (rDs cm X.K jl8):=by
  rintro pins s σ H xs us Q I r ⟨M,ds,c,lv,pa,e,q⟩
  cases pa with
  | nil=>cases e
  | cons p1 p2=>
    cases p2 with
    | cons p2 p3=>
      cases p3 with
      | cons _ _=>cases p1 <;> cases p2 <;> cases e
      | nil=>
        cases p1 with
        | int i=>
          cases p2 with
          | int j=>cases e; exact call_max2 hc pins s σ H _ us Q I r ⟨i,j,rfl,q _ H (.refl _) (.int _)⟩
          | _=>cases e
        | _=>cases e
    | nil=>
      cases p1 with
      | @lst a vs ds ha ra=>
        have e':(match jbP ds with | some (n :: r)=>some (Dat.int (jkd (n :: r))) | _=>none)=some c:=e
        cases h:jbP ds with
        | none=>rw [h] at e'; cases e'
        | some ns=>
          rw [h] at e'
          cases ns with
          | nil=>cases e'
          | cons n r'=>
            cases e'
            have z:=jgp ra h
            subst z
            obtain ⟨m1,m2⟩:=jgT n r'
            refine cr_max hc pins s σ H _ us Q I r ⟨_,n :: r',rfl,SqL.of (Jk _ _ ha),Nat.succ_pos _,fun m hm hle=>?_⟩
            rw [Int.le_antisymm (m2 m hm) (hle _ m1)]
            exact q _ H (.refl _) (.int _)
      | _=>cases e
theorem jny (hc:X.calm=true):CallR X (.builtin "min") (rDs cm X.K jm9):=by
  rintro pins s σ H xs us Q I r ⟨M,ds,c,lv,pa,e,q⟩
  cases pa with
  | nil=>cases e
  | cons p1 p2=>
    cases p2 with
    | cons p2 p3=>
      cases p3 with
      | cons _ _=>cases p1 <;> cases p2 <;> cases e
      | nil=>
        cases p1 with
        | int i=>
          cases p2 with
          | int j=>cases e; exact call_min2 hc pins s σ H _ us Q I r ⟨i,j,rfl,q _ H (.refl _) (.int _)⟩
          | _=>cases e
        | _=>cases e
    | nil=>
      cases p1 with
      | @lst a vs ds ha ra=>
        have e':(match jbP ds with | some (n :: r)=>some (Dat.int (jj5 (n :: r))) | _=>none)=some c:=e
        cases h:jbP ds with
        | none=>rw [h] at e'; cases e'
        | some ns=>
          rw [h] at e'
          cases ns with
          | nil=>cases e'
          | cons n r'=>
            cases e'
            have z:=jgp ra h
            subst z
            obtain ⟨m1,m2⟩:=jgU n r'
            refine cr_min hc pins s σ H _ us Q I r ⟨_,n :: r',rfl,SqL.of (Jk _ _ ha),Nat.succ_pos _,fun m hm hle=>?_⟩
            rw [Int.le_antisymm (hle _ m1) (m2 m hm)]
            exact q _ H (.refl _) (.int _)
      | _=>cases e
theorem jnx (hc:X.calm=true):CallR X (.builtin "all") (rDs cm X.K jnN):=by
  rintro pins s σ H xs us Q I r ⟨M,ds,c,lv,pa,e,q⟩
  cases pa with
  | nil=>cases e
  | cons p1 p2=>
    cases p2 with
    | cons _ _=>cases p1 <;> cases e
    | nil=>
      cases p1 with
      | @lst a vs ds ha ra=>
        have e':(Vq ds).map (fun ns=>Dat.bl (ns.all id))=some c:=e
        cases h:Vq ds with
        | none=>rw [h] at e'; cases e'
        | some ns=>
          rw [h] at e'; cases e'
          have z:=jg8 ra h
          subst z
          exact cr_all hc pins s σ H _ us Q I r ⟨_,ns,rfl,SqL.of (Jk _ _ ha),q _ H (.refl _) (.bl _)⟩
      | _=>cases e
theorem jiy:CallR X (.type "int") (rDs cm X.K jko):=by
  rintro pins s σ H xs us Q I r ⟨M,ds,c,lv,pa,e,q⟩
  cases pa with
  | nil=>cases e
  | cons p1 p2=>
    cases p2 with
    | cons _ _=>cases p1 <;> cases e
    | nil=>
      cases p1 with
      | int i=>cases e; exact call_int1 pins s σ H _ us Q I r (.inl ⟨i,rfl,q _ H (.refl _) (.int _)⟩)
      | bl i=>cases e; exact call_int1 pins s σ H _ us Q I r (.inr ⟨i,rfl,q _ H (.refl _) (.int _)⟩)
      | _=>cases e
theorem jjw:CallR X (.builtin "divmod") (rDs cm X.K jfs):=by
  rintro pins s σ H xs us Q I r ⟨M,ds,c,lv,pa,e,q⟩
  cases pa with
  | nil=>cases e
  | cons p1 p2=>
    cases p2 with
    | nil=>cases p1 <;> cases e
    | cons p2 p3=>
      cases p3 with
      | cons _ _=>cases p1 <;> cases p2 <;> cases e
      | nil=>
        cases p1 with
        | int i=>
          cases p2 with
          | int j=>
            unfold jfs at e
            dsimp only at e
            by_cases hz:0 < j∧j < 1073741824
            · rw [if_pos hz] at e; cases e
              exact call_divmod pins s σ H _ us Q I r ⟨i,j,rfl,hz,fun p hp=>q _ _ (jZ hp) (.tup (SqT.of (wK lv hp)) (.cons (.int _) (.cons (.int _) .nil)))⟩
            · rw [if_neg hz] at e; cases e
          | _=>cases e
        | _=>cases e
end
end Mir
namespace Mir
open PySem L2
inductive Fl where
  | nx
  | rt (d:Dat)
  | bk
  | ct
abbrev MS:=Sg→Rs Fl
def jjj (F:Fm) (W:WX) (G:VH) (D:Ends):Rs Fl→Prop
  | .ok .nx S=> ∀ ⦃F':Fm⦄ σ H,Rel F' S σ H→Same G (vis F' S σ H)→(_:F.to F':=by exact Fm.rf _)→D.nx σ H
  | .ok (.rt d) S=> ∀ ⦃F':Fm⦄ v σ H,Rel F' S σ H→Same G (vis F' S σ H)→Rp F'.cm F'.K (vis F' S σ H) v d→(_:F.to F':=by exact Fm.rf _)→D.rt v H
  | .ok .bk S=> ∀ ⦃F':Fm⦄ σ H,Rel F' S σ H→Same G (vis F' S σ H)→(_:F.to F':=by exact Fm.rf _)→D.bk σ H
  | .ok .ct S=> ∀ ⦃F':Fm⦄ σ H,Rel F' S σ H→Same G (vis F' S σ H)→(_:F.to F':=by exact Fm.rf _)→D.ct σ H
  | .exc c fs S=> ∀ σ,jkg F W σ G c fs S
  | .bad=>False
def tS (cm:CM) (K:PySem.W.Frag) (W:WX) (m:MS):TS:=fun D σ H=> ∃ F S,F.cm=cm∧F.K=K∧Rel F S σ H∧jjj F W (vis F S σ H) D (m S)
theorem V2 {F:Fm} {W:WX} {G G':VH} {D:Ends} {r:Rs Fl} (e:Same G G') (h:jjj F W G D r):jjj F W G' D r:=by
  cases r with
  | ok a S=>
    cases a with
    | nx=>exact fun _ σ H a b t=>h σ H a (e.trans b) t
    | rt d=>exact fun _ v σ H a b c t=>h v σ H a (e.trans b) c t
    | bk=>exact fun _ σ H a b t=>h σ H a (e.trans b) t
    | ct=>exact fun _ σ H a b t=>h σ H a (e.trans b) t
  | exc c fs S=>exact fun σ=>jcm e (h σ)
  | bad=>exact h
theorem jdO {F F1:Fm} {W:WX} {G:VH} {D:Ends} {r:Rs Fl} (e:F.to F1) (h:jjj F W G D r):jjj F1 W G D r:=by
  cases r with
  | ok a S=>
    cases a with
    | nx=>exact fun _ σ H a b t=>h σ H a b (e.trans t)
    | rt d=>exact fun _ v σ H a b c t=>h v σ H a b c (e.trans t)
    | bk=>exact fun _ σ H a b t=>h σ H a b (e.trans t)
    | ct=>exact fun _ σ H a b t=>h σ H a b (e.trans t)
  | exc c fs S=>exact fun σ=>jfr e (h σ)
  | bad=>exact h
theorem Vd {β α:Type} {cm:CM} {K:PySem.W.Frag} {W:WX} {R:Rep β α} {m:Sg→Rs α} {k:α→Sg→Rs Fl} {σ:St} {H:Hp} {D:Ends} {Q':β→Hp→Prop} {F:Fm} {S:Sg}
    (e1:F.cm=cm) (e2:F.K=K) (r:Rel F S σ H) (h:jjj F W (vis F S σ H) D ((m S).bind k))
    (q:∀ (F1:Fm) x H1 a S1,F1.cm=cm→F1.K=K→Rel F1 S1 σ H1→Same (vis F S σ H) (vis F1 S1 σ H1)→R σ (vis F1 S1 σ H1) x a→jjj F1 W (vis F1 S1 σ H1) D (k a S1)→Q' x H1):tG cm K W R m σ H Q':=by
  refine ⟨F,S,e1,e2,r,?_⟩
  cases hm:m S with
  | ok a S1=>rw [hm] at h; exact fun F1 v H1 a1 a2 a3 t=>q F1 v H1 a S1 (t.cm.trans e1) (t.K.trans e2) a1 a2 a3 (jdO t (V2 a2 h))
  | exc c fs S1=>rw [hm] at h; exact h σ
  | bad=>rw [hm] at h; exact h
def jh6 (F:Fm) (W:WX) (G:VH) (Q:St→Hp→Prop):Rs Unit→Prop
  | .ok _ S=> ∀ ⦃F':Fm⦄ σ H,Rel F' S σ H→Same G (vis F' S σ H)→(_:F.to F':=by exact Fm.rf _)→Q σ H
  | .exc c fs S=> ∀ σ,jkg F W σ G c fs S
  | .bad=>False
theorem jfE {F:Fm} {W:WX} {G G':VH} {Q:St→Hp→Prop} {r:Rs Unit} (e:Same G G') (h:jh6 F W G Q r):jh6 F W G' Q r:=by
  cases r with
  | ok a S=>exact fun _ σ H a b t=>h σ H a (e.trans b) t
  | exc c fs S=>exact fun σ=>jcm e (h σ)
  | bad=>exact h
theorem jiE {F F1:Fm} {W:WX} {G:VH} {Q:St→Hp→Prop} {r:Rs Unit} (e:F.to F1) (h:jh6 F W G Q r):jh6 F1 W G Q r:=by
  cases r with
  | ok a S=>exact fun _ σ H a b t=>h σ H a b (e.trans t)
  | exc c fs S=>exact fun σ=>jfr e (h σ)
  | bad=>exact h
theorem jjK {β α:Type} {cm:CM} {K:PySem.W.Frag} {W:WX} {R:Rep β α} {m:Sg→Rs α} {k:α→Sg→Rs Unit} {σ:St} {H:Hp} {Q:St→Hp→Prop} {Q':β→Hp→Prop} {F:Fm} {S:Sg}
    (e1:F.cm=cm) (e2:F.K=K) (r:Rel F S σ H) (h:jh6 F W (vis F S σ H) Q ((m S).bind k))
    (q:∀ (F1:Fm) x H1 a S1,F1.cm=cm→F1.K=K→Rel F1 S1 σ H1→Same (vis F S σ H) (vis F1 S1 σ H1)→R σ (vis F1 S1 σ H1) x a→jh6 F1 W (vis F1 S1 σ H1) Q (k a S1)→Q' x H1):tG cm K W R m σ H Q':=by
  refine ⟨F,S,e1,e2,r,?_⟩
  cases hm:m S with
  | ok a S1=>rw [hm] at h; exact fun F1 v H1 a1 a2 a3 t=>q F1 v H1 a S1 (t.cm.trans e1) (t.K.trans e2) a1 a2 a3 (jiE t (jfE a2 h))
  | exc c fs S1=>rw [hm] at h; exact h σ
  | bad=>rw [hm] at h; exact h
def we:MS:=fun S=> .ok .nx S
def Jo (a b:MS):MS:=fun S=>match a S with
  | .ok .nx S1=>b S1
  | r=>r
def YY (m:ME):MS:=fun S=>(m S).bind fun d S1=> .ok (.rt d) S1
def jno:MS:=fun S=> .ok (.rt .non) S
def jnk (m:ME):MS:=fun S=>(m S).bind fun _ S1=> .ok .nx S1
def V8 (c:MT) (a b:MS):MS:=fun S=>(c S).bind fun t S1=>if t=true then a S1 else b S1
def jmW:MS:=fun S=> .ok .bk S
def jnq:MS:=fun S=> .ok .ct S
def jlO:MS:=fun _=> .bad
abbrev MG:=Dat→Sg→Rs Unit
abbrev MGs:=List Dat→Sg→Rs Unit
def gNm (i:Nat):MG:=fun d S=> .ok () (S.set i (.dat d))
def gNl:MGs:=fun ds S=>match ds with
  | []=> .ok () S
  | _=> .bad
def gCs (g:MG) (r:MGs):MGs:=fun ds S=>match ds with
  | d :: ds=>(g d S).bind fun _ S1=>r ds S1
  | []=> .bad
def gTp (r:MGs):MG:=fun d S=>match d with
  | .tup ds=>r ds S
  | _=> .bad
def jep (i:Nat) (k:Int) (d:Dat) (S:Sg):Rs Unit:=match S[i]? with
  | some (.loc ds)=>match ixN ds.length k with
    | some j=> .ok () (S.set i (.loc (ds.set j d)))
    | none=> .bad
  | some (.own n (.lst ds))=>match ixN ds.length k with
    | some j=> .ok () (S.set i (.own n (.lst (ds.set j d))))
    | none=> .bad
  | _=> .bad
def Vb (m:ME) (g:MG):MS:=fun S=>(m S).bind fun d S1=>(g d S1).bind fun _ S2=> .ok .nx S2
def jd7 (i:Nat) (d:Dat) (S:Sg):Rs Fl:=match S[i]? with
  | some (.loc ds)=>if ds.length < lim then .ok .nx (S.set i (.loc (ds ++ [d]))) else .bad
  | some (.own n (.lst ds))=>if ds.length < lim then .ok .nx (S.set i (.own n (.lst (ds ++ [d])))) else .bad
  | _=> .bad
def vG (i:Nat) (S:Sg):Bool:=match S[i]? with
  | some (.loc _)=>true
  | some (.own _ (.lst _))=>true
  | _=>false
def gIx (i:Nat) (mi:ME):MG:=fun d S=>if vG i S then (mi S).bind fun k S1=>match k with
  | .int k=>if vG i S1 then jep i k d S1 else .bad
  | _=> .bad else .bad
def jdF (i:Nat) (m:ME):MS:=fun S=>if vG i S then (m S).bind fun d S1=>if vG i S1 then jd7 i d S1 else .bad else .bad
def jlW (i j:Nat) (ma:MA):MS:=fun S=>(ma S).bind fun ds S1=>match ds with
  | [a,b]=> .ok .nx ((S1.set i (.dat a)).set j (.dat b))
  | _=> .bad
def jaZ (g:MG) (b:MS):List Dat→MS
  | [],S=> .ok .nx S
  | d :: ds,S=>(g d S).bind fun _ S1=>match b S1 with
    | .ok .nx S2=>jaZ g b ds S2
    | .ok .ct S2=>jaZ g b ds S2
    | .ok .bk S2=> .ok .nx S2
    | r=>r
def jk8 (mi:Sg→Rs (List Dat)) (g:MG) (b:MS):MS:=fun S=>(mi S).bind fun ds S1=>jaZ g b ds S1
def rIt (cm:CM) (K:PySem.W.Frag):Rep It (List Dat):=fun _ G J ds=>
  (∀ (i:Nat) (H:Hp),L2.Same G H→i < ds.length→J.go i H)∧(∀ H:Hp,L2.Same G H→J.stop ds.length H)∧
    ∀ (i:Nat) (H:Hp) (x:V) (H':Hp) (M:Hd),Same G (hid M H)→live M H→J.yld i H x H'→i < ds.length→L2.Same H H'∧∃ d,ds[i]? =some d∧Rp cm K (hid M H') x d
def tGt (cm:CM) (K:PySem.W.Frag) (W:WX) (g:MG):TG:=fun v σ H Q=> ∃ F S d,F.cm=cm∧F.K=K∧Rel F S σ H∧Rp cm K (vis F S σ H) v d∧jh6 F W (vis F S σ H) Q (g d S)
def jmj (cm:CM) (K:PySem.W.Frag) (W:WX) (g:MGs):TGs:=fun vs σ H Q=> ∃ F S ds,F.cm=cm∧F.K=K∧Rel F S σ H∧RpAll cm K (vis F S σ H) vs ds∧jh6 F W (vis F S σ H) Q (g ds S)
theorem PG.weak {X:Cx} {e:Expr} {t t':TG} (h:PG X e t) (i:∀ v σ H Q,t' v σ H Q→t v σ H Q):PG X e t':=⟨fun pins s σ H v u Q I r q=>h.run pins s σ H v u Q I r (i v σ H Q q)⟩
theorem PGs.weak {X:Cx} {e:List Expr} {t t':TGs} (h:PGs X e t) (i:∀ v σ H Q,t' v σ H Q→t v σ H Q):PGs X e t':=⟨fun pins s σ H v u Q I r q=>h.run pins s σ H v u Q I r (i v σ H Q q)⟩
theorem PI.weak {X:Cx} {tg e:Expr} {t t':TI} (h:PI X tg e t) (i:∀ σ H Q,t' σ H Q→t σ H Q):PI X tg e t':=⟨fun pins s σ H Q I q=>h.run pins s σ H Q I (i σ H Q q)⟩
section
variable {X:Cx} {cm:CM} {W:WX} {a b c e tg:Expr} {es:List Expr} {ma mb mc:ME} {mr:MA} {ca cb:MT} {pos:Pos} {st:Stmt} {sts sts':List Stmt} {s1 s2:MS} {g:MG} {gs:MGs}
theorem yx:PSs X [] (tS cm X.K W we):=PSs.weak pss_nil fun D σ H ⟨F,S,e1,e2,R,h⟩=>h σ H R (.refl _)
theorem jl (h1:PS X st (tS cm X.K W s1)) (h2:PSs X sts (tS cm X.K W s2)):PSs X (st :: sts) (tS cm X.K W (Jo s1 s2)):=
  PSs.weak (pss_cons h1 h2) fun D σ H ⟨F,S,e1,e2,R,h⟩=>⟨F,S,e1,e2,R,by
    unfold Jo at h
    cases hm:s1 S with
    | bad=>rw [hm] at h; exact h
    | exc c fs S1=>rw [hm] at h; exact h
    | ok f S1=>
      rw [hm] at h
      cases f with
      | nx=>exact fun F' σ' H' R' s' t=>⟨F',S1,t.cm.trans e1,t.K.trans e2,R',jdO t (V2 s' h)⟩
      | rt d=>exact h
      | bk=>exact h
      | ct=>exact h⟩
theorem va (h1:PS X st (tS cm X.K W s1)):PSs X [st] (tS cm X.K W s1):=pss_one h1
theorem vq (h:PE X e (tE cm X.K W ma)):PS X (.Return (some e) pos) (tS cm X.K W (YY ma)):=
  PS.weak (ps_ret h) fun D σ H ⟨F,S,e1,e2,R,h⟩=>Vd e1 e2 R h fun F x H1 da S1 e1 e2 R1 s1 p1 h1=>h1 x σ H1 R1 (.refl _) (by rw [e1,e2]; exact p1)
theorem V3 (hc:PT X c (tT cm X.K W ca)) (h1:PSs X sts (tS cm X.K W s1)) (h2:PSs X sts' (tS cm X.K W s2)):PS X (.If c sts sts' pos) (tS cm X.K W (V8 ca s1 s2)):=
  PS.weak (ps_if hc h1 h2) fun D σ H ⟨F,S,e1,e2,R,h⟩=>Vd e1 e2 R h fun F x H1 da S1 e1 e2 R1 s1 p1 h1=>by
    cases p1
    cases x with
    | true=>exact ⟨F,S1,e1,e2,R1,h1⟩
    | false=>exact ⟨F,S1,e1,e2,R1,h1⟩
theorem jb2 {i:Nat} (h:PG X tg (L2.gName i)):PG X tg (tGt cm X.K W (gNm i)):=PG.weak h fun v σ H Q ⟨F,S,d,e1,e2,R,p,h⟩=>by
  obtain ⟨R',s'⟩:=R.dat (i:=i) (v:=v) (d:=d) (by rw [e1,e2]; exact p)
  exact h _ H R' s'
theorem jfk:PGs X [] (jmj cm X.K W gNl):=PGs.weak pgs_nil fun v σ H Q ⟨F,S,d,e1,e2,R,p,h⟩=>by
  cases p with
  | nil=>exact ⟨rfl,h σ H R (.refl _)⟩
  | cons _ _=>exact False.elim h
theorem Yk (h1:PG X e (tGt cm X.K W g)) (h2:PGs X es (jmj cm X.K W gs)) (hs:(assignEach (e :: es) X.env).map (·.2)=assign e X.env :: (assignEach es X.env).map (·.2):=by rfl):PGs X (e :: es) (jmj cm X.K W (gCs g gs)):=
  PGs.weak (pgs_cons h1 h2 hs) fun v σ H Q ⟨F,S,d,e1,e2,R,p,h⟩=>by
    cases p with
    | nil=>exact False.elim h
    | @cons v d vs ds pv pr=>
      refine ⟨v,vs,rfl,F,S,d,e1,e2,R,pv,?_⟩
      have h':jh6 F W (vis F S σ H) Q ((g d S).bind fun _ S1=>gs ds S1):=h
      cases hg:g d S with
      | bad=>rw [hg] at h'; exact h'
      | exc c fs S1=>rw [hg] at h'; exact h'
      | ok u S1=>
        rw [hg,Rs.bind_ok] at h'
        exact fun F' σ' H' R' s' t=>⟨F',S1,ds,t.cm.trans e1,t.K.trans e2,R',pr.mono s',jiE t (jfE s' h')⟩
theorem jmX {k n:Nat} (hc:X.calm=true) (h:PGs X es (jmj cm X.K W gs)) (hn:(assignEach es X.env).length=n:=by rfl) (hst:(assignEach es X.env).findIdx? (·.1)=none:=by rfl)
    (hl:∀ ds S,ds.length ≠ n→gs ds S= .bad):PG X (.Tuple es k pos) (tGt cm X.K W (gTp gs)):=
  PG.weak (pg_tup hc h hn hst) fun v σ H Q ⟨F,S,d,e1,e2,R,p,h⟩=>by
    cases p with
    | @tup a vs ds hs hr=>
      have h':jh6 F W (vis F S σ H) Q (gs ds S):=h
      refine ⟨a,vs,rfl,yp Jk hs,?_,F,S,ds,e1,e2,R,hr,h'⟩
      by_cases hz:ds.length=n
      · rw [hr.length]; exact hz
      · rw [hl ds S hz] at h'; exact h'.elim
    | _=>exact False.elim h
theorem jcj {F:Fm} {S:Sg} {σ:St} {H:Hp} {i:Nat} (R:Rel F S σ H) (h:vG i S=true):∃ l vs ds,σ[i]? =some (some (.ref l))∧H l=some (.lst vs)∧RpAll F.cm F.K (vis F S σ H) vs ds∧(S[i]? =some (.loc ds)∨∃ j,S[i]? =some (.own j (.lst ds))∧F.A0[j]? =some l):=by
  unfold vG at h
  cases hs:S[i]? with
  | none=>rw [hs] at h; cases h
  | some s=>
    rw [hs] at h
    have hl:i < σ.length:=by rw [← R.len]; exact (List.getElem?_eq_some_iff.mp hs).1
    have hv:σ[i]? =some σ[i]:=List.getElem?_eq_getElem hl
    have q:=R.sl i s _ hs hv
    generalize σ[i]=w at hv q
    cases s with
    | no=>cases h
    | dat d=>cases h
    | exn c fs=>cases h
    | heap T=>cases h
    | loc ds=>
      cases q with
      | loc eh r=>exact ⟨_,_,ds,hv,eh,r,.inl rfl⟩
    | own j o=>
      cases o with
      | obj c fs=>cases h
      | dic ks=>cases h
      | dit _=>cases h
      | gone _=>cases h
      | tab _ _=>cases h
      | lst ds=>
        cases q with
        | own e0 ok=>
          cases ok with
          | lst eh r=>exact ⟨_,_,ds,hv,eh,r,.inr ⟨j,rfl,e0⟩⟩
theorem jgI {F:Fm} {S:Sg} {σ:St} {H:Hp} {i:Nat} {l:Addr} {ds es:List Dat} {us:List V} (R:Rel F S σ H) (hl:σ[i]? =some (some (.ref l))) (r:RpAll F.cm F.K (vis F S σ H) us es) (h:S[i]? =some (.loc ds)∨∃ j,S[i]? =some (.own j (.lst ds))∧F.A0[j]? =some l) :
    ∃ s',(S[i]? =some (.loc ds)→s'= .loc es)∧(∀ j,S[i]? =some (.own j (.lst ds))→s'= .own j (.lst es))∧Rel F (S.set i s') σ (upd H l (.lst us))∧Same (vis F S σ H) (vis F (S.set i s') σ (upd H l (.lst us))):=by
  rcases h with h | ⟨j,h,hj⟩
  · obtain ⟨a,b⟩:=R.setLoc h hl r
    exact ⟨_,fun _=>rfl,fun j z=>(by rw [h] at z; cases z),a,b⟩
  · obtain ⟨a,b⟩:=R.setOwn (ho:= .lst us) h hl hj (.lst upd_same r)
    exact ⟨_,fun z=>(by rw [h] at z; cases z),fun k z=>(by rw [h] at z; cases z; rfl),a,b⟩
theorem jmt {i:Nat} {o:Expr} (ho:PE X o (tVar i)) (hi:PE X e (tE cm X.K W ma)) (ha:∀ v,assign (.Subscript o e pos) X.env v=(do
      let ov ← holding [v] (eval o X.env)
      let iv ← holding [v,ov] (eval e X.env)
      standAt pos
      holding [v,ov,iv] (setItem ov iv v)
      release [v,ov,iv] []):=by intro _; rfl):PG X (.Subscript o e pos) (tGt cm X.K W (gIx i ma)):=
  PG.weak (pg_sub ho hi set_list ha) fun v σ H Q ⟨F,S,d,e1,e2,R,p,h⟩=>by
    unfold gIx at h
    by_cases hz:vG i S=true
    · rw [if_pos hz] at h
      obtain ⟨l,vs,ds,hl,_,_,_⟩:=jcj R hz
      refine ⟨_,hl,jjK e1 e2 R h fun F x H1 k S1 e1 e2 R1 s1 p1 h1=>?_⟩
      cases p1 with
      | int k=>
        dsimp only at h1
        by_cases hz1:vG i S1=true
        · rw [if_pos hz1] at h1
          obtain ⟨l',vs,ds,hl',eh,r,hs⟩:=jcj R1 hz1
          rw [hl] at hl'
          cases hl'
          unfold jep at h1
          have core:∀ j,ixN ds.length k=some j→∃ s',(S1[i]? =some (.loc ds)→s'= .loc (ds.set j d))∧(∀ n,S1[i]? =some (.own n (.lst ds))→s'= .own n (.lst (ds.set j d)))∧Rel F (S1.set i s') σ (upd H1 l (.lst (vs.set j v)))∧Same (vis F S1 σ H1) (vis F (S1.set i s') σ (upd H1 l (.lst (vs.set j v)))):=fun j hj=>
            jgI R1 hl (r.set (by rw [e1,e2]; exact p.mono s1) j) hs
          have fin:∀ j,ixN ds.length k=some j→(∀ s',(S1[i]? =some (.loc ds)→s'= .loc (ds.set j d))→(∀ n,S1[i]? =some (.own n (.lst ds))→s'= .own n (.lst (ds.set j d)))→jh6 F W (vis F S1 σ H1) Q (.ok () (S1.set i s')))→
              rSetL (.ref l) (.int k) v H1 fun H3=>Q σ H3:=fun j hj ho=>by
            obtain ⟨s',h1,h2,h3,h4⟩:=core j hj
            exact ⟨l,vs,k,j,rfl,rfl,eh,by rw [r.length]; exact hj,ho s' h1 h2 σ _ h3 h4⟩
          rcases hs with hs | ⟨n,hs,_⟩
          · rw [hs] at h1
            dsimp only at h1
            cases hj:ixN ds.length k with
            | none=>rw [hj] at h1; exact h1.elim
            | some j=>
              rw [hj] at h1
              exact fin j hj fun s' a _=>by rw [a hs]; exact h1
          · rw [hs] at h1
            dsimp only at h1
            cases hj:ixN ds.length k with
            | none=>rw [hj] at h1; exact h1.elim
            | some j=>
              rw [hj] at h1
              exact fin j hj fun s' _ a=>by rw [a n hs]; exact h1
        · rw [if_neg hz1] at h1; exact h1.elim
      | _=>exact False.elim h1
    · rw [if_neg hz] at h; exact h.elim
theorem jj7 (he:PE X e (tE cm X.K W ma)) (hg:PG X tg (tGt cm X.K W g)) (hs:swapsWithSole [tg] e pos.line X.env=pure false:=by rfl) (hw:swappedStores [tg] e X.env=pure none:=by rfl)
    (h1:(assignEach [tg] X.env).map (·.2)= [assign tg X.env]:=by rfl):PS X (.Assign [tg] e pos) (tS cm X.K W (Vb ma g)):=
  PS.weak (ps_asg he hg hs hw h1) fun D σ H ⟨F,S,e1,e2,R,h⟩=>Vd e1 e2 R h fun F x H1 da S1 e1 e2 R1 s1 p1 h1=>⟨F,S1,da,e1,e2,R1,p1,by
    cases hg:g da S1 with
    | bad=>rw [hg] at h1; exact h1
    | exc c fs S2=>rw [hg] at h1; exact h1
    | ok u S2=>rw [hg] at h1; exact h1⟩
theorem vf {i:Nat} {x:Str} {pos':Pos} (hN:X.N.Nodup) (hi:X.N[i]? =some x) (hx:L2.Loc X.env.scope x) (he:PE X e (tE cm X.K W ma)) (hs:swapsWith e (some (.Name x pos')) pos.line X.env=pure false:=by rfl)
    (hf:X.fn x=true∨X.env.scope.names.lookup x=some .local:=by first | exact .inl rfl | exact .inr rfl | assumption):PS X (.Assign [.Name x pos'] e pos) (tS cm X.K W (Vb ma (gNm i))):=
  PS.weak (ps_set hN hi hx he hs hf) fun D σ H ⟨F,S,e1,e2,R,h⟩=>Vd e1 e2 R h fun F x H1 da S1 e1 e2 R1 s1 p1 h1=>by
    obtain ⟨R',s'⟩:=R1.dat (i:=i) (v:=x) (d:=da) (by rw [e1,e2]; exact p1)
    exact h1 _ H1 R' s'
theorem jmb {i j:Nat} {x y:Str} {px py pt:Pos} {kt k2:Nat} {pt2:Pos} (hc:X.calm=true) (hN:X.N.Nodup) (hi:X.N[i]? =some x) (hj:X.N[j]? =some y) (hij:i ≠ j)
    (hx:X.env.scope.names.lookup x=some .local) (hy:X.env.scope.names.lookup y=some .local) (ha:PA X [a,b] (tA cm X.K W mr))
    (hw:swappedStores [.Tuple [.Name x px,.Name y py] kt pt] (.Tuple [a,b] k2 pt2) X.env=pure (some [x,y])) (hs:swapsWithSole [.Tuple [.Name x px,.Name y py] kt pt] (.Tuple [a,b] k2 pt2) pos.line X.env=pure false:=by rfl) :
    PS X (.Assign [.Tuple [.Name x px,.Name y py] kt pt] (.Tuple [a,b] k2 pt2) pos) (tS cm X.K W (jlW i j mr)):=
  PS.weak (ps_par hc hN hi hj hij hx hy ha hw hs) fun D σ H ⟨F,S,e1,e2,R,h⟩=>Vd e1 e2 R h fun F x H1 da S1 e1 e2 R1 s1 p1 h1=>by
    cases p1 with
    | nil=>exact False.elim h1
    | @cons v1 d1 _ _ q1 p2=>
      cases p2 with
      | nil=>exact False.elim h1
      | @cons v2 d2 _ _ q2 p3=>
        cases p3 with
        | cons _ _=>exact False.elim h1
        | nil=>
          obtain ⟨R2,t2⟩:=R1.dat (i:=i) (v:=v1) (d:=d1) (by rw [e1,e2]; exact q1)
          obtain ⟨R3,t3⟩:=R2.dat (i:=j) (v:=v2) (d:=d2) (by rw [e1,e2]; exact q2.mono t2)
          exact ⟨v1,v2,rfl,h1 _ H1 R3 (t2.trans t3)⟩
theorem WM {i:Nat} {o:Expr} {apos cpos:Pos} (ho:PE X o (tVar i)) (he:PE X e (tE cm X.K W ma)) (hab:attributeBase o "append" X.env (eval o X.env)=eval o X.env:=by rfl)
    (hst:starEach [e] X.env=(false,eval e X.env) :: starEach [] X.env:=by rfl) (hln:(apos.endLine == cpos.line)=true:=by rfl) (hs:swapsWith (.Call (.Attribute o "append" apos) [e] [] cpos) none pos.line X.env=pure false:=by rfl)
    (h4:(((backTo cpos (starEach [e] X.env)).all fun x=>!x.1) && ((backToKw cpos (keywordEach [] X.env)).all fun x=>x.1.isSome) && decide (([e].length + ([]:List Keyword).length + if ([]:List Keyword).isEmpty=true then 0 else 1) < 30))=true:=by rfl) :
    PS X (.Expr (.Call (.Attribute o "append" apos) [e] [] cpos) pos) (tS cm X.K W (jdF i ma)):=
  PS.weak (ps_expr (pe_bm PySem.F.plainAttrs_list PySem.F.slot_list_append PySem.F.type_list_append mt_append ho (pa_cons he pa_nil hst) hab h4 hln hst (by rfl)) hs) fun D σ H ⟨F,S,e1,e2,R,h⟩=>by
    unfold jdF at h
    by_cases hz:vG i S=true
    · rw [if_pos hz] at h
      obtain ⟨l,vs,ds,hl,eh,_,_⟩:=jcj R hz
      refine ⟨_,hl,.inl ⟨rfl,_,SqL.of eh⟩,Vd e1 e2 R h fun F x H1 d S1 e1 e2 R1 s1 p1 h1=>?_⟩
      by_cases hz1:vG i S1=true
      · rw [if_pos hz1] at h1
        obtain ⟨l',vs,ds,hl',eh,r,hs⟩:=jcj R1 hz1
        rw [hl] at hl'
        cases hl'
        obtain ⟨s',a1,a2,a3,a4⟩:=jgI R1 hl (r.append (.cons (by rw [e1,e2]; exact p1) .nil)) hs
        have fin:ds.length < lim→jjj F W (vis F S1 σ H1) D (.ok .nx (S1.set i s'))→rAppend (.ref l) [x] H1 fun _ H3=>D.nx σ H3:=fun hz ho=>⟨l,vs,x,rfl,rfl,eh,by rw [r.length]; exact jkl hz,ho σ _ a3 a4⟩
        unfold jd7 at h1
        rcases hs with hs | ⟨n,hs,_⟩
        · rw [hs] at h1
          dsimp only at h1
          by_cases hz:ds.length < lim
          · rw [if_pos hz] at h1
            rw [a1 hs] at fin
            exact fin hz h1
          · rw [if_neg hz] at h1; exact h1.elim
        · rw [hs] at h1
          dsimp only at h1
          by_cases hz:ds.length < lim
          · rw [if_pos hz] at h1
            rw [a2 n hs] at fin
            exact fin hz h1
          · rw [if_neg hz] at h1; exact h1.elim
      · rw [if_neg hz1] at h1; exact h1.elim
    · rw [if_neg hz] at h; exact h.elim
theorem jj6 {mi:Sg→Rs (List Dat)} {iter:Expr} (hp:PassesOwn (model X.prog X.w) X.A X.env X.xe) (hc:X.calm=true) (hi:PI X tg iter (tG cm X.K W (rIt cm X.K) mi)) (hg:PG X tg (tGt cm X.K W g)) (hb:PSs X sts (tS cm X.K W s1))
    (hs:∀ x,foldedSetIterable iter X.env x=pure x:=by intro _; rfl):PS X (.For tg iter sts [] pos) (tS cm X.K W (jk8 mi g s1)):=
  PS.weak (ps_for hp hc hi hg hb hs) fun D σ H ⟨F,S,e1,e2,R,h⟩=>Vd e1 e2 R h fun F J H1 ds S1 e1 e2 R1 s1' p1 h1=>by
    obtain ⟨j1,j2,j3⟩:=p1
    refine ⟨fun i m σ' H'=>i + m=ds.length∧∃ F' S',F'.cm=cm∧F'.K=X.K∧Rel F' S' σ' H'∧Same (vis F S1 σ H1) (vis F' S' σ' H')∧jjj F' W (vis F' S' σ' H') D (jaZ g s1 (ds.drop i) S'),⟨ds.length,by omega,F,S1,e1,e2,R1,.refl _,h1⟩,?_⟩
    rintro i m σ' H' ⟨em,F',S',f1,f2,R',s',h'⟩
    have sH:L2.Same (vis F S1 σ H1) H':=s'.h.trans Jk
    by_cases hi:i < ds.length
    · refine .inr ⟨j1 i H' sH hi,fun σ2 H2=> ∃ F2 S2,F2.cm=cm∧F2.K=X.K∧Rel F2 S2 σ2 H2∧Same (vis F S1 σ H1) (vis F2 S2 σ2 H2)∧jjj F2 W (vis F2 S2 σ2 H2) D (jaZ g s1 (ds.drop (i + 1)) S2),fun σ2 H2 ⟨F2,S2,c1,c2,b1,b2,b3⟩=>⟨m - 1,by omega,by omega,F2,S2,c1,c2,b1,b2,b3⟩,fun x H2 hy=>?_⟩
      obtain ⟨sy,d,hd,pd⟩:=j3 i H' x H2 _ s' R'.live hy hi
      have R2:=R'.grow sy
      have s2:Same (vis F' S' σ' H') (vis F' S' σ' H2):=vx sy
      have e3:ds.drop i=d :: ds.drop (i + 1):=by
        rw [List.drop_eq_getElem_cons hi]
        rw [List.getElem?_eq_getElem hi] at hd
        rw [Option.some.inj hd]
      rw [e3] at h'
      refine ⟨F',S',d,f1,f2,R2,pd,?_⟩
      have h2:jjj F' W (vis F' S' σ' H2) D ((g d S').bind fun _ S1=>match s1 S1 with
        | .ok .nx S2=>jaZ g s1 (ds.drop (i + 1)) S2
        | .ok .ct S2=>jaZ g s1 (ds.drop (i + 1)) S2
        | .ok .bk S2=> .ok .nx S2
        | r=>r):=V2 s2 h'
      cases hgd:g d S' with
      | bad=>rw [hgd] at h2; exact h2
      | exc c fs S3=>rw [hgd] at h2; exact h2
      | ok u S3=>
        rw [hgd,Rs.bind_ok] at h2
        intro F3 σ3 H3 R3 s3 t3
        refine ⟨F3,S3,t3.cm.trans f1,t3.K.trans f2,R3,?_⟩
        have h3:=jdO t3 (V2 s3 h2)
        have st:Same (vis F S1 σ H1) (vis F3 S3 σ3 H3):=(s'.trans s2).trans s3
        cases hb:s1 S3 with
        | bad=>rw [hb] at h3; exact h3
        | exc c fs S4=>rw [hb] at h3; exact h3
        | ok f S4=>
          rw [hb] at h3
          cases f with
          | nx=>exact fun F4 σ4 H4 R4 s4 t4=>⟨F4,S4,(t4.cm.trans t3.cm).trans f1,(t4.K.trans t3.K).trans f2,R4,st.trans s4,jdO t4 (V2 s4 h3)⟩
          | ct=>exact fun F4 σ4 H4 R4 s4 t4=>⟨F4,S4,(t4.cm.trans t3.cm).trans f1,(t4.K.trans t3.K).trans f2,R4,st.trans s4,jdO t4 (V2 s4 h3)⟩
          | bk=>exact h3
          | rt d=>exact h3
    · have ei:i=ds.length:=by omega
      refine .inl ⟨by rw [ei]; exact j2 H' sH,?_⟩
      rw [List.drop_of_length_le (by omega)] at h'
      exact h' σ' H' R' (.refl _)
end
end Mir
namespace Mir
open PySem L2
def jg2:Dat→Option (List Dat)
  | .lst ds=>some ds
  | .ro ds=>some ds
  | .tup ds=>some ds
  | _=>none
def jfD:List Dat→Option (List Dat)
  | [.int j]=>if -(2 ^ 62)≤j∧j < 2 ^ 62 then some ((List.range j.toNat).map fun (k:Nat)=>Dat.int (0 + (k:Int))) else none
  | _=>none
def Va (n:Nat):List Dat→List Dat
  | []=>[]
  | d :: ds=> .tup [.int (n:Int),d] :: Va (n + 1) ds
def jkE:List Dat→Option (List Dat)
  | [.lst ds]=>some (Va 0 ds)
  | _=>none
def jnC:List Dat→Option (List Dat)
  | [.lst xs,.lst ys]=>some (List.zipWith (fun x y=>Dat.tup [x,y]) xs ys)
  | _=>none
def jfV (m:ME):Sg→Rs (List Dat):=fun S=>(m S).bind fun d S1=>Rs.of (jg2 d) S1
def jh5 (f:List Dat→Option (List Dat)) (m:MA):Sg→Rs (List Dat):=fun S=>(m S).bind fun d S1=>Rs.of (f d) S1
section
variable {X:Cx} {cm:CM} {W:WX} {a b e tg:Expr} {es:List Expr} {ma:ME} {mr:MA} {p pos:Pos}
theorem jdV {F:Fm} {S:Sg} {σ:St} {H:Hp} {β α:Type} {R:Rep β α} {Q:β→Hp→Prop} {o:Option α} (h:out F W σ (vis F S σ H) R Q (Rs.of o S)):∃ d,o=some d∧out F W σ (vis F S σ H) R Q (.ok d S):=by
  cases o with
  | none=>exact False.elim h
  | some d=>exact ⟨d,rfl,h⟩
theorem jiq {σ:St} {G:VH} {a:Addr} {vs:List V} {ds:List Dat} {K:PySem.W.Frag} (h:SqL K G a vs) (r:RpAll cm K G vs ds):rIt cm K σ G (Itl K a) ds:=by
  refine ⟨fun i H s hi=>?_,fun H s=>⟨vs,s.seq h,by rw [r.length]; exact Nat.le_refl _⟩,fun i H x H' M s lv y hi=>?_⟩
  · have hi':i < vs.length:=by rw [r.length]; exact hi
    exact ⟨vs,vs[i],s.seq h,List.getElem?_eq_getElem hi'⟩
  · obtain ⟨rfl,y⟩:=y
    obtain ⟨d,e1,e2⟩:=r.get' (y vs ((s.h.trans Jk).seq h))
    exact ⟨.refl _,d,e1,e2.mono s⟩
theorem jmw {σ:St} {G:VH} {a:Addr} {vs:List V} {ds:List Dat} {K:PySem.W.Frag} (h:SqT K G a vs) (r:RpAll cm K G vs ds):rIt cm K σ G (Itt K a) ds:=by
  refine ⟨fun i H s hi=>?_,fun H s=>⟨vs,yp s h,by rw [r.length]; exact Nat.le_refl _⟩,fun i H x H' M s lv y hi=>?_⟩
  · have hi':i < vs.length:=by rw [r.length]; exact hi
    exact ⟨vs,vs[i],yp s h,List.getElem?_eq_getElem hi'⟩
  · obtain ⟨rfl,y⟩:=y
    obtain ⟨d,e1,e2⟩:=r.get' (y vs (yp (s.h.trans Jk) h))
    exact ⟨.refl _,d,e1,e2.mono s⟩
theorem jjL {σ:St} {G:VH} {K:PySem.W.Frag} (lo:Int) (n:Nat):rIt cm K σ G (Itr lo n) ((List.range n).map fun (k:Nat)=>Dat.int (lo + (k:Int))):=by
  have el:((List.range n).map fun (k:Nat)=>Dat.int (lo + (k:Int))).length=n:=by rw [List.length_map,List.length_range]
  refine ⟨fun i H s hi=>by rw [el] at hi; exact hi,fun H s=>by rw [el]; exact Nat.le_refl _,fun i H x H' M s lv y hi=>?_⟩
  obtain ⟨rfl,rfl⟩:=y
  rw [el] at hi
  exact ⟨.refl _,.int (lo + (i:Int)),by rw [List.getElem?_map,List.getElem?_range hi]; rfl,.int _⟩
theorem Wc {β α β' α':Type} {cm:CM} {K:PySem.W.Frag} {W:WX} {R:Rep β α} {R':Rep β' α'} {m:Sg→Rs α} {k:α→Sg→Rs α'} {σ:St} {H:Hp} {Q:β'→Hp→Prop} {Q':β→Hp→Prop} {F:Fm} {S:Sg}
    (e1:F.cm=cm) (e2:F.K=K) (r:Rel F S σ H) (h:out F W σ (vis F S σ H) R' Q ((m S).bind k))
    (q:∀ (F1:Fm) x H1 a S1,m S= .ok a S1→F1.cm=cm→F1.K=K→Rel F1 S1 σ H1→Same (vis F S σ H) (vis F1 S1 σ H1)→R σ (vis F1 S1 σ H1) x a→out F1 W σ (vis F1 S1 σ H1) R' Q (k a S1)→Q' x H1):tG cm K W R m σ H Q':=by
  refine ⟨F,S,e1,e2,r,?_⟩
  cases hm:m S with
  | ok a S1=>rw [hm] at h; exact fun F1 v H1 a1 a2 a3 t=>q F1 v H1 a S1 hm (t.cm.trans e1) (t.K.trans e2) a1 a2 a3 (jjl t (jdH a2 h))
  | exc c fs S1=>rw [hm] at h; exact h
  | bad=>rw [hm] at h; exact h
theorem jmS (h:PE X e (tE cm X.K W ma)):PI X tg e (tG cm X.K W (rIt cm X.K) (jfV ma)):=by
  refine ⟨fun pins s σ H R I ⟨F,S,e1,e2,Rl,ho⟩=>?_⟩
  by_cases ht:∃ ds S1,ma S= .ok (.tup ds) S1
  · obtain ⟨ds,S1,ht⟩:=ht
    refine (pi_tup h).run pins s σ H R I (Wc e1 e2 Rl ho fun F x H1 da S2 hm e1 e2 R1 s1 p1 h1=>?_)
    rw [ht] at hm
    cases hm
    cases p1 with
    | tup hs hr=>exact ⟨_,rfl,⟨_,yp Jk hs⟩,h1 _ H1 R1 (.refl _) (jmw hs hr)⟩
  · refine (pi_list h).run pins s σ H R I (Wc e1 e2 Rl ho fun F x H1 da S2 hm e1 e2 R1 s1 p1 h1=>?_)
    obtain ⟨d,hd,h1⟩:=jdV h1
    cases p1 with
    | lst hs hr=>cases hd; exact ⟨_,rfl,⟨_,SqL.of (Jk _ _ hs)⟩,h1 _ H1 R1 (.refl _) (jiq (SqL.of hs) hr)⟩
    | ro hs hr=>cases hd; exact ⟨_,rfl,⟨_,L2.Same.seq Jk hs⟩,h1 _ H1 R1 (.refl _) (jiq hs hr)⟩
    | tup hs hr=>exact absurd ⟨_,_,hm⟩ ht
    | _=>cases hd
theorem jfU (hg:Gl X "range") (hm:X.mg "range" =none) (ha:PA X [a] (tA cm X.K W mr)) (hs:starEach [a] X.env= [(false,eval a X.env)]:=by rfl):PI X tg (.Call (.Name "range" p) [a] [] pos) (tG cm X.K W (rIt cm X.K) (jh5 jfD mr)):=
  PI.weak (pi_range1 hg hm ha hs) fun σ H Q ⟨F,S,e1,e2,R,h⟩=>Wc e1 e2 R h fun F x H1 da S2 hm e1 e2 R1 s1 p1 h1=>by
    obtain ⟨d,hd,h1⟩:=jdV h1
    cases p1 with
    | nil=>cases hd
    | cons q1 q2=>
      cases q2 with
      | cons _ _=>cases q1 <;> cases hd
      | nil=>
        cases q1 with
        | int j=>
          unfold jfD at hd
          dsimp only at hd
          by_cases hz: -(2 ^ 62)≤j∧j < 2 ^ 62
          · rw [if_pos hz] at hd; cases hd
            exact ⟨j,rfl,hz.1,hz.2,h1 _ H1 R1 (.refl _) (jjL 0 j.toNat)⟩
          · rw [if_neg hz] at hd; cases hd
        | _=>cases hd
theorem jgY:∀ (ds:List Dat) (n i:Nat) (d:Dat),ds[i]? =some d→(Va n ds)[i]? =some (.tup [.int ((n + i:Nat):Int),d])
  | [],n,i,d,h=>by simp at h
  | x :: ds,n,0,d,h=>by simp at h; subst h; rfl
  | x :: ds,n,i + 1,d,h=>by
    have q:=jgY ds (n + 1) i d (by simpa using h)
    show (Va (n + 1) ds)[i]? =_
    rw [q,show n + 1 + i=n + (i + 1) by omega]
theorem jfp:∀ (ds:List Dat) (n:Nat),(Va n ds).length=ds.length
  | [],n=>rfl
  | x :: ds,n=>congrArg Nat.succ (jfp ds (n + 1))
theorem jkR {elts:List Expr} {kk:Nat} {tpos:Pos} (hg:Gl X "enumerate") (hm:X.mg "enumerate" =none) (ha:PA X [e] (tA cm X.K W mr)) (hs:starEach [e] X.env= [(false,eval e X.env)]:=by rfl) :
    PI X (.Tuple elts kk tpos) (.Call (.Name "enumerate" p) [e] [] pos) (tG cm X.K W (rIt cm X.K) (jh5 jkE mr)):=
  PI.weak (pi_enum hg hm ha hs) fun σ H Q ⟨F,S,e1,e2,R,h⟩=>Wc e1 e2 R h fun F x H1 da S2 hm e1 e2 R1 s1 p1 h1=>by
    obtain ⟨d,hd,h1⟩:=jdV h1
    cases p1 with
    | nil=>cases hd
    | cons q1 q2=>
      cases q2 with
      | cons _ _=>cases q1 <;> cases hd
      | nil=>
        cases q1 with
        | @lst a vs ds hs hr=>
          cases hd
          refine ⟨_,_,rfl,SqL.of (Jk _ _ hs),h1 _ H1 R1 (.refl _) ⟨fun i H' s hi=>?_,fun H' s=>⟨vs,s.seq (SqL.of hs),by rw [hr.length,jfp]; exact Nat.le_refl _⟩,fun i H' x H2 M s lv y hi=>?_⟩⟩
          · have hi':i < vs.length:=by rw [hr.length]; rw [jfp] at hi; exact hi
            exact ⟨vs,vs[i],s.seq (SqL.of hs),List.getElem?_eq_getElem hi'⟩
          · obtain ⟨T,z,rfl,nT,rfl,y⟩:=y
            obtain ⟨d,k1,k2⟩:=hr.get' (y vs ((s.h.trans Jk).seq (SqL.of hs)))
            refine ⟨jZ nT,_,jgY ds 0 i d k1,.tup (SqT.of (wK lv nT)) (.cons ?_ (.cons ((k2.mono s).mono (w5 (jZ nT))) .nil))⟩
            rw [Nat.zero_add]
            exact .int _
        | _=>cases hd
theorem jmQ {e2':Expr} {elts:List Expr} {kk:Nat} {tpos:Pos} (hg:Gl X "zip") (hm:X.mg "zip" =none) (ha:PA X [e,e2'] (tA cm X.K W mr)) (hs:starEach [e,e2'] X.env=(false,eval e X.env) :: starEach [e2'] X.env:=by rfl) (hpl:(backTo pos (starEach [e2'] X.env)).any (·.1)=false:=by rfl) :
    PI X (.Tuple elts kk tpos) (.Call (.Name "zip" p) [e,e2'] [] pos) (tG cm X.K W (rIt cm X.K) (jh5 jnC mr)):=
  PI.weak (pi_zip hg hm ha hs hpl) fun σ H Q ⟨F,S,e1,e2,R,h⟩=>Wc e1 e2 R h fun F x H1 da S2 hm e1 e2 R1 s1 p1 h1=>by
    obtain ⟨d,hd,h1⟩:=jdV h1
    cases p1 with
    | nil=>cases hd
    | cons q1 q2=>
      cases q2 with
      | nil=>cases q1 <;> cases hd
      | cons q2 q3=>
        cases q3 with
        | cons _ _=>cases q1 <;> cases q2 <;> cases hd
        | nil=>
          cases q1 with
          | @lst a vs ds hs hr=>
            cases q2 with
            | @lst b us cs ks kr=>
              cases hd
              have el:(List.zipWith (fun x y=>Dat.tup [x,y]) ds cs).length=min vs.length us.length:=by rw [List.length_zipWith,hr.length,kr.length]
              refine ⟨_,_,_,_,rfl,SqL.of (Jk _ _ hs),SqL.of (Jk _ _ ks),h1 _ H1 R1 (.refl _) ⟨fun i H' s hi=>?_,fun H' s=>⟨vs,us,s.seq (SqL.of hs),s.seq (SqL.of ks),by rw [el]; omega⟩,fun i H' x H2 M s lv y hi=>?_⟩⟩
              · rw [el] at hi
                exact ⟨vs,us,vs[i]'(by omega),us[i]'(by omega),s.seq (SqL.of hs),s.seq (SqL.of ks),List.getElem?_eq_getElem _,List.getElem?_eq_getElem _⟩
              · obtain ⟨T,z,z',rfl,nT,rfl,y,y'⟩:=y
                obtain ⟨d,k1,k2⟩:=hr.get' (y vs ((s.h.trans Jk).seq (SqL.of hs)))
                obtain ⟨d',k1',k2'⟩:=kr.get' (y' us ((s.h.trans Jk).seq (SqL.of ks)))
                refine ⟨jZ nT,.tup [d,d'],by rw [List.getElem?_zipWith,k1,k1'],.tup (SqT.of (wK lv nT)) (.cons ((k2.mono s).mono (w5 (jZ nT))) (.cons ((k2'.mono s).mono (w5 (jZ nT))) .nil))⟩
            | _=>cases hd
          | _=>cases hd
end
def zD (S:Sg):List Nat→Sg
  | []=>S
  | v :: vs=>(zD S vs).set v .no
def Rs.calm {α:Type}:Rs α→Rs α
  | .exc _ _ _=> .bad
  | r=>r
@[simp] theorem Rs.calm_ok {α:Type} (a:α) (S:Sg):(Rs.ok a S).calm= .ok a S:=rfl
@[simp] theorem Rs.calm_bad {α:Type}:(Rs.bad:Rs α).calm= .bad:=rfl
def jcb (g:Dat→Sg→Option Sg) (c:MT) (e:ME) (vs:List Nat):List Dat→List Dat→Sg→Rs (List Dat)
  | [],acc,S=> .ok acc S
  | d :: ds,acc,S=>(Rs.of (g d S) S).bind fun S1 _=>(c S1).calm.bind fun t S2=>if t=true then (e S2).calm.bind fun y S3=>if acc.length < lim then jcb g c e vs ds (acc ++ [y]) (zD S3 vs) else .bad else jcb g c e vs ds acc (zD S2 vs)
def mLc (mi:Sg→Rs (List Dat)) (g:Dat→Sg→Option Sg) (c:MT) (e:ME) (vs:List Nat):ME:=fun S=>(mi S).bind fun ds S1=>(jcb g c e vs ds [] (zD S1 vs)).bind fun acc S2=> .ok (.lst acc) S2
def jl7:MT:=fun S=> .ok true S
def cgN (j:Nat):Dat→Sg→Option Sg:=fun d S=>some (S.set j (.dat d))
def jnV (i j:Nat):Dat→Sg→Option Sg:=fun d S=>match d with
  | .tup [a,b]=>some ((S.set i (.dat a)).set j (.dat b))
  | _=>none
abbrev W0:WX:=fun _ _ _ _=>False
section
variable {F:Fm} {S:Sg} {σ:St} {H:Hp}
theorem Rel.wipe (R:Rel F S σ H):∀ vs:List Nat,Rel F (zD S vs) (L2.wipe σ vs) H∧Same (vis F S σ H) (vis F (zD S vs) (L2.wipe σ vs) H)
  | []=>⟨R,.refl _⟩
  | v :: vs=>by
    obtain ⟨a,b⟩:=Rel.wipe R vs
    obtain ⟨c,d⟩:=a.no (i:=v) (v:=none)
    exact ⟨c,b.trans d⟩
theorem jdI:∀ (vs:List Nat) {v:Nat} {s:vW},v ∈ vs→(zD S vs)[v]? =some s→s= .no
  | [],v,s,h,_=>by cases h
  | w :: vs,v,s,h,e=>by
    unfold zD at e
    rcases jO e with ⟨_,z⟩ | ⟨ne,z⟩
    · exact z
    · rcases List.mem_cons.mp h with h | h
      · exact absurd h ne
      · exact jdI vs h z
theorem jdM:∀ (vs:List Nat) {σ:St} {v:Nat},v ∉ vs→(L2.wipe σ vs)[v]? =σ[v]?
  | [],σ,v,_=>rfl
  | w :: vs,σ,v,h=>by
    unfold L2.wipe
    rw [List.getElem?_set_ne (fun z=>h (by rw [z]; exact List.mem_cons_self ..)),jdM vs fun z=>h (List.mem_cons_of_mem _ z)]
theorem jb4:∀ (vs:List Nat) {σ:St} {v:Nat} {x:Option V},v ∈ vs→L2.wipe (σ.set v x) vs=L2.wipe σ vs
  | [],σ,v,x,h=>by cases h
  | w :: vs,σ,v,x,h=>by
    unfold L2.wipe
    by_cases hv:v ∈ vs
    · rw [jb4 vs hv]
    · have e:v=w:=(List.mem_cons.mp h).resolve_right hv
      subst e
      refine List.ext_getElem? fun k=>?_
      by_cases ek:k=v
      · subst ek
        rw [List.getElem?_set,List.getElem?_set,if_pos rfl,if_pos rfl,L2.wipe_length,L2.wipe_length,List.length_set]
      · rw [List.getElem?_set_ne (fun z=>ek z.symm),List.getElem?_set_ne (fun z=>ek z.symm)]
        by_cases hk:k ∈ vs
        · have h1:∀ (us:List Nat) (τ:St),k ∈ us→(L2.wipe τ us)[k]? =if k < τ.length then some none else none:=by
            intro us
            induction us with
            | nil=>intro τ h; cases h
            | cons u us ih=>
              intro τ h
              unfold L2.wipe
              by_cases eu:u=k
              · subst eu
                rw [List.getElem?_set,if_pos rfl,L2.wipe_length]
              · rw [List.getElem?_set_ne eu]
                exact ih τ ((List.mem_cons.mp h).resolve_left fun z=>eu z.symm)
          rw [h1 vs _ hk,h1 vs _ hk,List.length_set]
        · rw [jdM vs hk,jdM vs hk,List.getElem?_set_ne (fun z=>ek z.symm)]
theorem Rel.other {τ:St} (R:Rel F S τ H) (hl:σ.length=τ.length) (h:∀ (v:Nat) (s:vW),S[v]? =some s→σ[v]? =τ[v]?∨s=vW.no):Rel F S σ H∧vis F S σ H=vis F S τ H:=by
  have key:∀ (S:Sg) (σ τ:St),σ.length=τ.length→(∀ (v:Nat) (s:vW),S[v]? =some s→σ[v]? =τ[v]?∨s=vW.no)→jP S σ=jP S τ:=by
    intro S
    induction S with
    | nil=>intro σ τ _ _; cases σ <;> cases τ <;> rfl
    | cons s S ih=>
      intro σ τ hl h
      cases σ with
      | nil=>
        cases τ with
        | nil=>rfl
        | cons _ _=>cases hl
      | cons x σ=>
        cases τ with
        | nil=>cases hl
        | cons y τ=>
          have i2:=ih σ τ (by simpa using hl) fun v s e=>by
            have:=h (v + 1) s (by simpa using e)
            simpa using this
          rcases h 0 s rfl with e | e
          · have exy:x=y:=by simpa using e
            subst exy
            cases s with
            | loc ds=>
              cases x with
              | none=>exact i2
              | some x=>
                cases x with
                | ref l=>simp [jP,i2]
                | _=>exact i2
            | _=>simpa [jP] using i2
          · subst e
            simpa [jP] using i2
  have eL:=key S σ τ hl h
  have eV:vis F S σ H=vis F S τ H:=by unfold vis; rw [eL]
  refine ⟨⟨by rw [R.len,hl],fun i s v a b=>?_,by rw [eL]; exact R.nd,fun l x=>R.new l (by rw [← eL]; exact x),R.ond,R.and_,R.ain,R.liv,fun l x=>R.lom l (by rw [← eL]; exact x),R.tmp,R.keep,R.hp⟩,eV⟩
  rw [eV]
  rcases h i s a with e | e
  · exact R.sl i s v a (by rw [← e]; exact b)
  · subst e; exact .no
def jkx (cm:CM) (K:PySem.W.Frag) (t:TG) (vs:List Nat) (g:Dat→Sg→Option Sg):Prop:=
  ∀ (F:Fm) (S:Sg) (σ:St) (H:Hp) (x:V) (d:Dat) (S':Sg) (Q:St→Hp→Prop),F.cm=cm→F.K=K→Rel F S σ H→Rp cm K (vis F S σ H) x d→g d S=some S'→
    (∀ σ2,L2.wipe σ2 vs=L2.wipe σ vs→Rel F S' σ2 H→Same (vis F S σ H) (vis F S' σ2 H)→Q σ2 H)→t x σ H Q
theorem jie {cm:CM} {K:PySem.W.Frag} (j:Nat):jkx cm K (L2.gName j) [j] (cgN j):=fun F S σ H x d S' Q e1 e2 R p e k=>by
  cases e
  obtain ⟨a,b⟩:=R.dat (i:=j) (v:=x) (d:=d) (by rw [e1,e2]; exact p)
  exact k _ (jb4 _ (List.mem_cons_self ..)) a b
theorem jkh {cm:CM} {K:PySem.W.Frag} (i j:Nat):jkx cm K (gTup K 2 (gCons (L2.gName i) (gCons (L2.gName j) gNil))) [i,j] (jnV i j):=fun F S σ H x d S' Q e1 e2 R p e k=>by
  cases p with
  | tup hs hr=>
    cases hr with
    | nil=>cases e
    | cons p1 hr=>
      cases hr with
      | nil=>cases e
      | cons p2 hr=>
        cases hr with
        | cons _ _=>cases e
        | nil=>
          cases e
          obtain ⟨a,b⟩:=R.dat (i:=i) (by rw [e1,e2]; exact p1)
          obtain ⟨a2,b2⟩:=a.dat (i:=j) (by rw [e1,e2]; exact p2.mono b)
          refine ⟨_,_,rfl,yp Jk hs,rfl,_,_,rfl,_,_,rfl,rfl,k _ ?_ a2 (b.trans b2)⟩
          rw [jb4 _ (List.mem_cons_of_mem _ (List.mem_cons_self ..)),jb4 _ (List.mem_cons_self ..)]
  | _=>cases e
end
theorem jcr (vs:List Nat):∀ (us:List Nat) (τ:St),(∀ v,v ∈ us→v ∈ vs)→L2.wipe (L2.wipe τ us) vs=L2.wipe τ vs
  | [],τ,_=>rfl
  | u :: us,τ,hu=>by
    show L2.wipe ((L2.wipe τ us).set u none) vs=_
    rw [jb4 vs (hu u (List.mem_cons_self ..)),jcr vs us τ fun v hv=>hu v (List.mem_cons_of_mem _ hv)]
theorem jky {cm:CM} {K:PySem.W.Frag} {W:WX} {mi:Sg→Rs (List Dat)} {t:TG} {g:Dat→Sg→Option Sg} {c:MT} {e:ME} {vs:List Nat} {σ:St} {H:Hp} {Q:VK}
    (tk:jkx cm K t vs g)
    (h:tG cm K W (rIt cm K) mi σ H fun J H1=> ∃ F ds S1,F.cm=cm∧F.K=K∧Rel F S1 σ H1∧rIt cm K σ (vis F S1 σ H1) J ds∧∃ acc S2,jcb g c e vs ds [] (zD S1 vs)= .ok acc S2∧
      ∀ D us H2 Fx,H1 D=none→(F.hide D (.lst us)).to Fx→Rel Fx S2 σ H2→Same (vis F S1 σ H1) (vis Fx S2 σ H2)→RpAll cm K (vis Fx S2 σ H2) us acc→Q (.ref D) H2) :
    tLc (tG cm K W (rIt cm K) mi) t (tT cm K W0 c) (tE cm K W0 e) vs σ H Q:=by
  obtain ⟨F',S',a1,a2,R',h⟩:=h
  refine ⟨F',S',a1,a2,R',jiJ h fun J H1 ⟨F,ds,S1,e1,e2,R1,⟨j1,j2,j3⟩,acc,S2,hl,hq⟩ D hD=>?_⟩
  have h0D:F.H0 D=none:=R1.fresh0 hD
  have hTD:=R1.tnew hD
  obtain ⟨Rh,sh⟩:=R1.hide (o:= .lst []) hD
  obtain ⟨Rw,sw⟩:=Rel.wipe Rh vs
  refine ⟨fun i m H'=>i + m=ds.length∧∃ Fx Sx us ac,(F.hide D (.lst us)).to Fx∧Rel Fx Sx (L2.wipe σ vs) H'∧(∀ (v:Nat) (s:vW),v ∈ vs→Sx[v]? =some s→s= .no)∧Same (vis F S1 σ H1) (vis Fx Sx (L2.wipe σ vs) H')∧RpAll cm K (vis Fx Sx (L2.wipe σ vs) H') us ac∧jcb g c e vs (ds.drop i) ac Sx= .ok acc S2,
    ⟨ds.length,by omega,_,_,[],[],Fm.rf _,Rw,fun v s hv=>jdI vs hv,sh.trans sw,.nil,hl⟩,?_⟩
  rintro i m H' ⟨em,Fx,Sx,us,ac,tx,Rx,nx,sx,rx,lx⟩
  have f1:Fx.cm=cm:=tx.cm.trans e1
  have f2:Fx.K=K:=tx.K.trans e2
  have sH:L2.Same (vis F S1 σ H1) H':=sx.h.trans Jk
  by_cases hi:i < ds.length
  · refine .inr ⟨j1 i H' sH hi,fun H2=> ∃ Fx Sx us ac,(F.hide D (.lst us)).to Fx∧Rel Fx Sx (L2.wipe σ vs) H2∧(∀ (v:Nat) (s:vW),v ∈ vs→Sx[v]? =some s→s= .no)∧Same (vis F S1 σ H1) (vis Fx Sx (L2.wipe σ vs) H2)∧RpAll cm K (vis Fx Sx (L2.wipe σ vs) H2) us ac∧jcb g c e vs (ds.drop (i + 1)) ac Sx= .ok acc S2,
      fun H2 q=>⟨m - 1,by omega,by omega,q⟩,fun x H2 hy=>?_⟩
    obtain ⟨sy,d,hd,pd⟩:=j3 i H' x H2 _ sx Rx.live hy hi
    have R2:=Rx.grow sy
    have s2:Same (vis Fx Sx (L2.wipe σ vs) H') (vis Fx Sx (L2.wipe σ vs) H2):=vx sy
    have e3:ds.drop i=d :: ds.drop (i + 1):=by
      rw [List.drop_eq_getElem_cons hi]
      rw [List.getElem?_eq_getElem hi] at hd
      rw [Option.some.inj hd]
    rw [e3] at lx
    unfold jcb at lx
    cases hg:g d Sx with
    | none=>rw [hg] at lx; cases lx
    | some S3=>
      rw [hg,Rs.of_some,Rs.bind_ok] at lx
      refine tk Fx Sx (L2.wipe σ vs) H2 x d S3 _ f1 f2 R2 pd hg fun σ2 ew R3 s3=>?_
      have ew2:L2.wipe σ2 vs=L2.wipe σ vs:=by
        rw [ew]
        exact jcr vs vs σ fun v hv=>hv
      refine ⟨ew2,Fx,S3,f1,f2,R3,?_⟩
      have st3:Same (vis Fx Sx (L2.wipe σ vs) H') (vis Fx S3 σ2 H2):=s2.trans s3
      cases hc:c S3 with
      | bad=>rw [hc] at lx; cases lx
      | exc _ _ _=>rw [hc] at lx; cases lx
      | ok tt S4=>
        rw [hc,Rs.calm_ok,Rs.bind_ok] at lx
        intro F4 bv H4 R4 s4 eb t4
        have eb':bv=tt:=eb
        subst eb'
        have st4:=st3.trans s4
        cases bv with
        | false=>
          rw [if_neg Bool.false_ne_true] at lx ⊢
          obtain ⟨R5,s5⟩:=Rel.wipe R4 vs
          rw [ew2] at R5 s5
          exact ⟨F4,_,us,ac,tx.trans t4,R5,fun v s hv=>jdI vs hv,(sx.trans st4).trans s5,(rx.mono st4).mono s5,lx⟩
        | true=>
          rw [if_pos rfl] at lx ⊢
          refine ⟨F4,S4,t4.cm.trans f1,t4.K.trans f2,R4,?_⟩
          cases he:e S4 with
          | bad=>rw [he] at lx; cases lx
          | exc _ _ _=>rw [he] at lx; cases lx
          | ok y S5=>
            rw [he,Rs.calm_ok,Rs.bind_ok] at lx
            intro F5 yv H5 R5 s5 py t5
            have tt5:(F.hide D (.lst us)).to F5:=(tx.trans t4).trans t5
            have st5:=st4.trans s5
            by_cases hz:ac.length < lim
            · rw [if_pos hz] at lx
              have hD5:H5 D=some (.lst us):=(R5.tmp (D,.lst us) (by rw [tt5.T]; exact List.mem_cons_self ..)).1
              refine ⟨us,hD5,by rw [rx.length]; exact jkl hz,?_⟩
              obtain ⟨R6,s6⟩:=Rel.wipe R5 vs
              rw [ew2] at R6 s6
              obtain ⟨R7,eG⟩:=R6.hidden (o':= .lst (us ++ [yv])) tt5 h0D hTD
              refine ⟨_,_,us ++ [yv],ac ++ [y],tt5.hid,R7,fun v s hv=>jdI vs hv,?_,?_,lx⟩
              · rw [eG]; exact (sx.trans st5).trans s6
              · rw [eG]
                have py':Rp cm K (vis F5 S5 σ2 H5) yv y:=py
                exact ((rx.mono st5).mono s6).append (.cons (py'.mono s6) .nil)
            · rw [if_neg hz] at lx; cases lx
  · have ei:i=ds.length:=by omega
    rw [List.drop_of_length_le (by omega)] at lx
    cases lx
    refine .inl ⟨by rw [ei]; exact j2 H' sH,?_⟩
    have lw:σ.length=(L2.wipe σ vs).length:=(L2.wipe_length σ vs).symm
    obtain ⟨R8,eV⟩:=Rx.other (σ:=σ) lw fun v s hs=>by
      by_cases hv:v ∈ vs
      · exact .inr (nx v s hv hs)
      · exact .inl (jdM vs hv).symm
    exact hq D us H' Fx hD tx R8 (by rw [eV]; exact sx) (by rw [eV]; exact rx)
section
variable {X:Cx} {cm:CM} {W:WX} {elt tg iter:Expr} {ifs:List Expr} {scope:Scope} {own:List (Str×Nat)} {pos:Pos} {mi:Sg→Rs (List Dat)} {t:TG} {g:Dat→Sg→Option Sg} {c:MT} {e:ME}
theorem jmx {F Fx:Fm} {S1 S2:Sg} {σ:St} {H1 H2:Hp} {D:Addr} {us:List V} {acc:List Dat} {K:PySem.W.Frag} (R1:Rel F S1 σ H1) (hD:H1 D=none) (t:(F.hide D (.lst us)).to Fx) (R:Rel Fx S2 σ H2) (r:RpAll cm K (vis Fx S2 σ H2) us acc) :
    F.to (Fx.unhide D)∧Rel (Fx.unhide D) S2 σ H2∧Same (vis Fx S2 σ H2) (vis (Fx.unhide D) S2 σ H2)∧Rp cm K (vis (Fx.unhide D) S2 σ H2) (.ref D) (.lst acc):=by
  obtain ⟨R3,s3⟩:=Rel.unhide R1 hD t R
  refine ⟨t.unh (R1.freshM hD),R3,s3,.lst ?_ (r.mono s3)⟩
  have hx:=R.tmp (D,.lst us) (by rw [t.T]; exact List.mem_cons_self ..)
  unfold vis
  rw [vQ]
  · exact hx.1
  · intro z
    rcases Hd.mem_app.mp z with z | z
    · exact (Wu.mp z).2 rfl
    · exact R.lom D z hx.2.1
theorem jkr {X:Cx} {cm:CM} {K:PySem.W.Frag} (hK:X.K=K):PTs X [] (tT cm K W0 jl7):=⟨fun pins s σ H Q I ⟨F,S,e1,e2,R,h⟩=>(pts_nil (X:=X)).run pins s σ H Q I (h true H R (.refl _) rfl)⟩
theorem jjD (hc:X.calm=true) (hN:X.N.Nodup) (hi:PI X tg iter (tG cm X.K W (rIt cm X.K) mi)) (ok:BlkOk X.N X.env.scope scope own) (tk:jkx cm X.K t (own.map (·.2)) g)
    (hg:∀ (s:Shared) (H:Hp) (C:Addr) (cl:List (Str×Addr)) (fp:List Addr),PG (X.blk s H scope (compEnvC scope cl C X.env) fp) tg t)
    (ht:∀ (s:Shared) (H:Hp) (C:Addr) (cl:List (Str×Addr)) (fp:List Addr),PTs (X.blk s H scope (compEnvC scope cl C X.env) fp) ifs (tT cm X.K W0 c))
    (he:∀ (s:Shared) (H:Hp) (C:Addr) (cl:List (Str×Addr)) (fp:List Addr),PE (X.blk s H scope (compEnvC scope cl C X.env) fp) elt (tE cm X.K W0 e)) (hs:∀ x,foldedSetIterable iter X.env x=pure x:=by intro _; rfl) :
    PE X (.ListComp elt [⟨tg,iter,ifs,0⟩] scope pos) (tE cm X.K W (mLc mi g c e (own.map (·.2)))):=
  PE.weak (pe_lc hc hN hi ok hg ht he hs) fun σ H Q ⟨F,S,e1,e2,R,h⟩=>jky tk (Wc e1 e2 R h fun F J H1 ds S1 hm e1 e2 R1 s1 p1 h1=>⟨F,ds,S1,e1,e2,R1,p1,by
    cases hl:jcb g c e (own.map (·.2)) ds [] (zD S1 (own.map (·.2))) with
    | bad=>rw [hl] at h1; exact False.elim h1
    | exc _ _ _=>
      exfalso
      have no:∀ (ds ac:List Dat) (S:Sg) c0 fs S',jcb g c e (own.map (·.2)) ds ac S ≠ .exc c0 fs S':=by
        intro ds
        induction ds with
        | nil=>intro ac S c0 fs S' z; cases z
        | cons d ds ih=>
          intro ac S c0 fs S' z
          unfold jcb at z
          cases h1:g d S with
          | none=>rw [h1] at z; cases z
          | some S1=>
            rw [h1,Rs.of_some,Rs.bind_ok] at z
            cases h2:c S1 with
            | bad=>rw [h2] at z; cases z
            | exc _ _ _=>rw [h2] at z; cases z
            | ok t S2=>
              rw [h2,Rs.calm_ok,Rs.bind_ok] at z
              cases t with
              | false=>exact ih _ _ _ _ _ z
              | true=>
                rw [if_pos rfl] at z
                cases h3:e S2 with
                | bad=>rw [h3] at z; cases z
                | exc _ _ _=>rw [h3] at z; cases z
                | ok y S3=>
                  rw [h3,Rs.calm_ok,Rs.bind_ok] at z
                  by_cases hz:ac.length < lim
                  · rw [if_pos hz] at z; exact ih _ _ _ _ _ z
                  · rw [if_neg hz] at z; cases z
      exact no _ _ _ _ _ _ hl
    | ok acc S2=>
      rw [hl,Rs.bind_ok] at h1
      refine ⟨acc,S2,rfl,fun D us H2 Fx hD tx R2 s2 r2=>?_⟩
      obtain ⟨t3,R3,s3,r3⟩:=jmx (cm:=cm) R1 hD tx R2 r2
      exact h1 _ H2 R3 (s2.trans s3) r3 t3⟩)
end
end Mir
namespace Mir
open PySem PySem.Spec PyProof.Rows L2
inductive FA where
  | dat (d:Dat)
  | own (o:Own)
inductive RF where
  | ok (d:Dat) (outs:List Own)
  | exc (c:Str) (fs:List (Str×Dat)) (outs:List Own)
  | bad
inductive vO (cm:CM) (K:PySem.W.Frag) (G:VH) (H:Hp):List V→List FA→List Addr→Prop
  | nil:vO cm K G H [] [] []
  | dat {v:V} {d:Dat} {vs:List V} {as:List FA} {ls:List Addr}:Rp cm K G v d→vO cm K G H vs as ls→vO cm K G H (v :: vs) (.dat d :: as) ls
  | own {l:Addr} {o:Own} {vs:List V} {as:List FA} {ls:List Addr}:w8 cm K G H l o→vO cm K G H vs as ls→vO cm K G H (.ref l :: vs) (.own o :: as) (l :: ls)
inductive wa (cm:CM) (K:PySem.W.Frag) (G:VH) (H:Hp):List Addr→List Own→Prop
  | nil:wa cm K G H [] []
  | cons {l:Addr} {o:Own} {ls:List Addr} {os:List Own}:w8 cm K G H l o→wa cm K G H ls os→wa cm K G H (l :: ls) (o :: os)
theorem wa.get {cm:CM} {K:PySem.W.Frag} {G:VH} {H:Hp}:∀ {ls:List Addr} {os:List Own},wa cm K G H ls os→∀ {t:Nat} {l:Addr},ls[t]? =some l→∃ o,os[t]? =some o∧w8 cm K G H l o
  | _,_,.nil,t,l,e=>by simp at e
  | _,_,.cons a b,0,l,e=>by simp at e; subst e; exact ⟨_,rfl,a⟩
  | _,_,.cons a b,t + 1,l,e=>wa.get b (t:=t) (by simpa using e)
theorem wa.length {cm:CM} {K:PySem.W.Frag} {G:VH} {H:Hp}:∀ {ls:List Addr} {os:List Own},wa cm K G H ls os→ls.length=os.length
  | _,_,.nil=>rfl
  | _,_,.cons _ b=>congrArg Nat.succ (wa.length b)
def jou (cm:CM) (K:PySem.W.Frag) (M:Hd) (ls:List Addr) (H:Hp) (Q:VK) (E:XK):RF→Prop
  | .ok d outs=> ∀ v H',(∀ a o,H a=some o→a ∉ ls→H' a=some o)→wa cm K (hid M H') H' ls outs→Rp cm K (hid M H') v d→Q v H'
  | .exc c fs outs=> ∀ da gs H',(∀ a o,H a=some o→a ∉ ls→H' a=some o)→wa cm K (hid M H') H' ls outs→hid M H' da=some (.xd gs)→RpF cm K (hid M H') gs fs→E (.ref (cm c)) (some da) H'
  | .bad=>False
def spF (cm:CM) (K:PySem.W.Frag) (Fn:List FA→RF):Sp:=fun vs H Q E=> ∃ M as ls,live M H∧(∀ l,l ∈ ls→l ∈ M)∧ls.Nodup∧vO cm K (hid M H) H vs as ls∧jou cm K M ls H Q E (Fn as)
def Ja:Nat→List FA→Sg
  | _,[]=>[]
  | j,.dat d :: r=> .dat d :: Ja j r
  | j,.own o :: r=> .own j o :: Ja (j + 1) r
def yu (j:Nat):Sg→Option Own
  | []=>none
  | .own k o :: S=>if k=j then some o else yu j S
  | _ :: S=>yu j S
def vI (j:Nat):Nat→Sg→Option (List Own)
  | 0,_=>some []
  | n + 1,S=>match yu j S,vI (j + 1) n S with
    | some o,some r=>some (o :: r)
    | _,_=>none
def jh7:List FA→Nat
  | []=>0
  | .dat _ :: r=>jh7 r
  | .own _ :: r=>jh7 r + 1
def endF (k:Nat):Rs Fl→RF
  | .ok (.rt d) S=>match vI 0 k S with
    | some outs=> .ok d outs
    | none=> .bad
  | .ok .nx S=>match vI 0 k S with
    | some outs=> .ok .non outs
    | none=> .bad
  | .exc c fs S=>match vI 0 k S with
    | some outs=> .exc c fs outs
    | none=> .bad
  | _=> .bad
def wj (np n:Nat) (m:MS) (as:List FA):RF:=if as.length=np then endF (jh7 as) (m (Ja 0 as ++ List.replicate (n - np) .no)) else .bad
section
variable {cm:CM} {K:PySem.W.Frag} {G:VH} {H:Hp}
theorem vO.length:∀ {vs:List V} {as:List FA} {ls:List Addr},vO cm K G H vs as ls→vs.length=as.length
  | _,_,_,.nil=>rfl
  | _,_,_,.dat _ b=>congrArg Nat.succ (vO.length b)
  | _,_,_,.own _ b=>congrArg Nat.succ (vO.length b)
theorem vO.nown:∀ {vs:List V} {as:List FA} {ls:List Addr},vO cm K G H vs as ls→jh7 as=ls.length
  | _,_,_,.nil=>rfl
  | _,_,_,.dat (as:=as) _ b=>by show jh7 as=_; exact vO.nown b
  | _,_,_,.own _ b=>congrArg Nat.succ (vO.nown b)
theorem YG:∀ (j:Nat) (as:List FA),(Ja j as).length=as.length
  | _,[]=>rfl
  | j,.dat d :: r=>congrArg Nat.succ (YG j r)
  | j,.own o :: r=>congrArg Nat.succ (YG (j + 1) r)
theorem jc0 {F:Fm} (e1:F.cm=cm) (e2:F.K=K):∀ {vs:List V} {as:List FA} {ls:List Addr} (j:Nat),vO cm K G H vs as ls→(∀ t l,ls[t]? =some l→F.A0[j + t]? =some l)→∀ {i:Nat} {s:vW} {v:V},(Ja j as)[i]? =some s→vs[i]? =some v→Ye F G H s (some v)
  | _,_,_,j,.nil,_,i,s,v,h,_=>by simp [Ja] at h
  | _,_,_,j,.dat a b,hl,0,s,v,h,h'=>by
    simp [Ja] at h h'; subst h; subst h'
    exact .dat (by rw [e1,e2]; exact a)
  | _,_,_,j,.own a b,hl,0,s,v,h,h'=>by
    simp [Ja] at h h'; subst h; subst h'
    exact .own (by have:=hl 0 _ rfl; simpa using this) (by rw [e1,e2]; exact a)
  | _,_,_,j,.dat a b,hl,i + 1,s,v,h,h'=>jc0 e1 e2 j b hl (i:=i) (by simpa [Ja] using h) (by simpa using h')
  | _,_,_,j,.own a b,hl,i + 1,s,v,h,h'=>jc0 e1 e2 (j + 1) b (fun t l e=>by have:=hl (t + 1) l (by simpa using e); rw [show j + 1 + t=j + (t + 1) by omega]; exact this) (i:=i) (by simpa [Ja] using h) (by simpa using h')
theorem jax:∀ (j:Nat) (as:List FA) (k:Nat),k ∈ wP (Ja j as)→j≤k
  | _,[],k,h=>by simp [Ja,wP] at h
  | j,.dat d :: r,k,h=>jax j r k (by simpa [Ja,wP] using h)
  | j,.own o :: r,k,h=>by
    rcases List.mem_cons.mp (show k ∈ j :: wP (Ja (j + 1) r) from h) with e | e
    · omega
    · have:=jax (j + 1) r k e; omega
theorem jbh:∀ (j:Nat) (as:List FA),(wP (Ja j as)).Nodup
  | _,[]=>by simp [Ja,wP]
  | j,.dat d :: r=>by have:=jbh j r; simpa [Ja,wP] using this
  | j,.own o :: r=>List.nodup_cons.mpr ⟨fun z=>by have:=jax (j + 1) r j z; omega,jbh (j + 1) r⟩
theorem jbY:∀ (S T:Sg),wP (S ++ T)=wP S ++ wP T
  | [],T=>rfl
  | s :: S,T=>by
    have ih:=jbY S T
    cases s <;> simp [wP,ih]
theorem jgu:∀ n:Nat,wP (List.replicate n vW.no)= []
  | 0=>rfl
  | n + 1=>by rw [List.replicate_succ]; exact jgu n
theorem jaP:∀ {S:Sg},(∀ s,s ∈ S→s.isLoc=false)→∀ σ:L2.St,jP S σ= []
  | [],_,σ=>by cases σ <;> rfl
  | s :: S,h,[]=>by cases s <;> rfl
  | s :: S,h,v :: σ=>by
    have hs:=h s (List.mem_cons_self ..)
    have ih:=jaP (S:=S) (fun t ht=>h t (List.mem_cons_of_mem _ ht)) σ
    cases s with
    | loc ds=>cases hs
    | _=>simpa [jP] using ih
theorem jb3:∀ (j:Nat) (as:List FA) s,s ∈ Ja j as→s.isLoc=false
  | _,[],s,h=>by simp [Ja] at h
  | j,.dat d :: r,s,h=>by
    rcases List.mem_cons.mp (show s ∈ vW.dat d :: Ja j r from h) with e | e
    · rw [e]; rfl
    · exact jb3 j r s e
  | j,.own o :: r,s,h=>by
    rcases List.mem_cons.mp (show s ∈ vW.own j o :: Ja (j + 1) r from h) with e | e
    · rw [e]; rfl
    · exact jb3 (j + 1) r s e
theorem jfo:∀ (j:Nat) (as:List FA) {n:Nat} (i:Nat) (T:Ths),(Ja j as ++ List.replicate n vW.no)[i]? ≠ some (.heap T)
  | j,[],n,i,T,h=>by
    have h:(List.replicate n vW.no)[i]? =some (.heap T):=h
    rw [List.getElem?_replicate] at h
    split at h
    · cases h
    · cases h
  | j,.dat d :: r,n,0,T,h=>by cases h
  | j,.own o :: r,n,0,T,h=>by cases h
  | j,.dat d :: r,n,i + 1,T,h=>jfo j r i T (by simpa [Ja] using h)
  | j,.own o :: r,n,i + 1,T,h=>jfo (j + 1) r i T (by simpa [Ja] using h)
theorem jbU:∀ {S:Sg} {j:Nat} {o:Own},yu j S=some o→∃ i:Nat,S[i]? =some (.own j o)
  | [],j,o,h=>by cases h
  | s :: S,j,o,h=>by
    cases s with
    | own k u=>
      unfold yu at h
      by_cases e:k=j
      · rw [if_pos e] at h; cases h; subst e; exact ⟨0,rfl⟩
      · rw [if_neg e] at h
        obtain ⟨i,hi⟩:=jbU h
        exact ⟨i + 1,by simpa using hi⟩
    | _=>
      obtain ⟨i,hi⟩:=jbU (S:=S) (j:=j) (o:=o) (by simpa [yu] using h)
      exact ⟨i + 1,by simpa using hi⟩
theorem Rel.outs {F:Fm} {S:Sg} {σ:L2.St} {H:Hp} (R:Rel F S σ H):∀ (ls:List Addr) (j:Nat) (outs:List Own),(∀ t l,ls[t]? =some l→F.A0[j + t]? =some l)→vI j ls.length S=some outs→wa F.cm F.K (hid F.M H) H ls outs
  | [],j,outs,_,h=>by cases h; exact .nil
  | l :: ls,j,outs,hl,h=>by
    have h':(match yu j S,vI (j + 1) ls.length S with | some o,some r=>some (o :: r) | _,_=>none)=some outs:=h
    cases h1:yu j S with
    | none=>rw [h1] at h'; cases h'
    | some o=>
      cases h2:vI (j + 1) ls.length S with
      | none=>rw [h1,h2] at h'; cases h'
      | some r=>
        rw [h1,h2] at h'; cases h'
        obtain ⟨i,hi⟩:=jbU h1
        have hlt:i < σ.length:=by rw [← R.len]; exact (List.getElem?_eq_some_iff.mp hi).1
        have hv:σ[i]? =some σ[i]:=List.getElem?_eq_getElem hlt
        have q:=R.sl i _ _ hi hv
        have hj:F.A0[j]? =some l:=by have:=hl 0 l rfl; simpa using this
        refine .cons ?_ (Rel.outs R ls (j + 1) r (fun t x e=>by have:=hl (t + 1) x (by simpa using e); rw [show j + 1 + t=j + (t + 1) by omega]; exact this) h2)
        generalize σ[i]=w at hv q
        cases q with
        | own e0 ok=>
          rw [hj] at e0; cases e0
          exact ok.mono (ya fun a h=>Hd.mem_left _ h) fun _ z=>z
end
structure FnG (P:Program) (w:World) (K:PySem.W.Frag) (mg:Str→Option Value) (base:Heap) (CX:CXT) (k:Nat) (f:Addr) (fd:FuncData) (ps:List Str) (sp:Sp):Prop where
  len:∀ vs H Q E,sp vs H Q E→vs.length=ps.length
  run:∀ (A:Around) (outer:List Env) (s:Shared) (H:Hp) (args:Args) (us:List Value) (vs:List V) (Q:VK) (E:XK),Room k A→A.guards=some []→Env0 P w K mg base A outer s H→BindsTo s fd args (ps.zip us)→Vals vs us→sp vs H Q E→
    codeAny (model P w) A (.call (.ref f) args) (CR CX outer P w H s Q E) s
theorem FnG.mono {P:Program} {w:World} {K:PySem.W.Frag} {mg:Str→Option Value} {base:Heap} {CX:CXT} {j k:Nat} {f:Addr} {fd:FuncData} {ps:List Str} {sp:Sp} (F:FnG P w K mg base CX j f fd ps sp) (h:j≤k):FnG P w K mg base CX k f fd ps sp:=
  ⟨F.len,fun A outer s H args us vs Q E hr=>F.run A outer s H args us vs Q E (hr.mono h)⟩
theorem Yn {A:Around} {env:Env} (h:A.guards=some []):(A.deeper env).guards=some []:=h
section
variable {P:Program} {w:World} {K:PySem.W.Frag} {mg:Str→Option Value} {base:Heap} {cm:CM}
theorem WH {x qual:Str} {params:Arguments} {body:List Stmt} {scope:Scope} {dvs:List V} {kws:List (Str×V)} {f:Addr} {fd:FuncData} {N ps:List Str} {k n np:Nat} {m:MS} (F:FunD K x qual params body scope dvs kws f fd) (S:FnScope N ps scope) (hn:N.length=n) (hp:ps.length=np)
    (hbody:∀ (cdv:Value) (A:Around) (outer:List Env) (s:Shared) (H:Hp) (E:XK),Room k (A.deeper (envOfC qual scope s.heap.objs.size f cdv))→(A.deeper (envOfC qual scope s.heap.objs.size f cdv)).guards=some []→
      PSs (cxOf (L2.CX P w) P w K mg base N qual scope f cdv A outer s H E) body (tS cm K (fun cls d _ H'=>E cls d H') m)):FnG P w K mg base (L2.CX P w) (k + 1) f fd ps (spF cm K (wj np n m)):=by
  have len:∀ vs H Q E,spF cm K (wj np n m) vs H Q E→vs.length=ps.length:=fun vs H Q E ⟨M,as,ls,_,_,_,a,o⟩=>by
    unfold wj at o
    by_cases hl:as.length=np
    · rw [a.length,hl,hp]
    · rw [if_neg hl] at o; exact o.elim
  obtain ⟨oc,od,dV,kV,doc,pm,an,cdv,ct,osl,rfl,lk,hcd,_,_⟩:=F.ex
  refine ⟨len,fun A outer s H args us vs Q E hr hg e0 hb r hsp=>?_⟩
  have hl:=len _ _ _ _ hsp
  have KX:K.In s.heap:=e0.mod.kin.keeps fun b o e=>(e0.bs b o e).1
  have lim0:s.heap.NoLimit:=e0.mod.nolimit.keeps fun b o e=>(e0.bs b o e).1
  refine codeAny_call_function hr.depth (KX _ _ lk) rfl S.co S.gen rfl (PySem.W.codeRec_of KX hcd) (hb _ _ _ _ (wpAny_newFunctionEnv_cells S.kind (fun ⟨nm,v⟩ hy=>?_) fun env he s1 y=>?_))
  · rcases S.par nm (List.of_mem_zip hy).1 with q | q
    · exact Or.inl q
    · exact Or.inr ⟨q,PySem.W.cellsFrom_some _ _ _ (Or.inl q)⟩
  · subst he
    refine ⟨lim0.keeps y.toInCall.keep,codeAny_func ?_⟩
    have I:L2.Inv (cxOf (L2.CX P w) P w K mg base N qual scope f cdv A outer s H E) [] (L2.start N vs) H s1:=inv_start S hr.hd e0 hl r y
    have ht:=hbody cdv A outer s H E (hr.deeper _) (Yn hg)
    obtain ⟨M,as,ls,lv,lm,ln,ao,of⟩:=hsp
    have hla:as.length=np:=by rw [← ao.length,hl,hp]
    unfold wj at of
    rw [if_pos hla,ao.nown] at of
    have F0:Rel (Fm.at cm K M H ls) (Ja 0 as ++ List.replicate (n - np) .no) (L2.start N vs) H:=by
      have lc:∀ σ:L2.St,jP (Ja 0 as ++ List.replicate (n - np) .no) σ= []:=jaP fun s hs=>by
        rcases List.mem_append.mp hs with h | h
        · exact jb3 0 as s h
        · rw [(List.mem_replicate.mp h).2]; rfl
      refine ⟨?_,fun i s v a b=>?_,?_,fun l h=>?_,?_,ln,lm,lv.v,fun l h=>?_,fun p h=>?_,fun a o q _=>q,jhc.start lv (jfo 0 as)⟩
      · unfold L2.start
        rw [List.length_append,List.length_append,List.length_map,YG,List.length_replicate,List.length_replicate,hn,ao.length,hla]
      · have eV:vis (Fm.at cm K M H ls) (Ja 0 as ++ List.replicate (n - np) .no) (L2.start N vs) H=hid M H:=by
          unfold vis; rw [lc,Hd.app_nil]
        rw [eV]
        unfold L2.start at b
        by_cases hi:i < as.length
        · have hi':i < vs.length:=by rw [ao.length]; exact hi
          rw [List.getElem?_append_left (by rw [YG]; exact hi)] at a
          rw [List.getElem?_append_left (by rw [List.length_map]; exact hi'),List.getElem?_map,List.getElem?_eq_getElem hi'] at b
          cases b
          exact jc0 (F:=(Fm.at cm K M H ls)) rfl rfl 0 ao (fun t l e=>by rw [Nat.zero_add]; exact e) a (List.getElem?_eq_getElem hi')
        · rw [List.getElem?_append_right (by rw [YG]; omega),List.getElem?_replicate] at a
          split at a
          · cases a; exact .no
          · cases a
      · rw [lc]; exact List.nodup_nil
      · rw [lc] at h; cases h
      · rw [jbY,jgu,List.append_nil]; exact jbh 0 as
      · rw [lc] at h; cases h
      · cases h
    have la:∀ (t:Nat) (l:Addr),ls[t]? =some l→(Fm.at cm K M H ls).A0[0 + t]? =some l:=fun t l e=>by rw [Nat.zero_add]; exact e
    have hq:tS cm K (fun cls d _ H'=>E cls d H') m { nx:=fun _ H'=>Q .non H',rt:=Q } (L2.start N vs) H:=by
      refine ⟨Fm.at cm K M H ls,_,rfl,rfl,F0,?_⟩
      cases hm:m (Ja 0 as ++ List.replicate (n - np) .no) with
      | bad=>rw [hm] at of; exact of
      | exc c fs S'=>
        rw [hm] at of
        intro σ' F' da gs H' R' _ hda hgs t
        obtain rfl:=t.pure rfl
        unfold endF at of
        dsimp only at of
        cases ho:vI 0 ls.length S' with
        | none=>rw [ho] at of; exact of.elim
        | some outs=>
          rw [ho] at of
          exact of da gs H' (fun a o e n=>R'.keep a o e n) (Rel.outs R' ls 0 outs la ho) ((ya fun a h=>Hd.mem_left _ h).h _ _ hda) (hgs.mono (ya fun a h=>Hd.mem_left _ h))
      | ok fl S'=>
        rw [hm] at of
        cases fl with
        | nx=>
          intro F' σ' H' R' _ t
          obtain rfl:=t.pure rfl
          unfold endF at of
          dsimp only at of
          cases ho:vI 0 ls.length S' with
          | none=>rw [ho] at of; exact of.elim
          | some outs=>
            rw [ho] at of
            exact of .non H' (fun a o e n=>R'.keep a o e n) (Rel.outs R' ls 0 outs la ho) .non
        | rt d=>
          intro F' v σ' H' R' _ rv t
          obtain rfl:=t.pure rfl
          unfold endF at of
          dsimp only at of
          cases ho:vI 0 ls.length S' with
          | none=>rw [ho] at of; exact of.elim
          | some outs=>
            rw [ho] at of
            exact of v H' (fun a o e n=>R'.keep a o e n) (Rel.outs R' ls 0 outs la ho) (rv.mono (ya fun a h=>Hd.mem_left _ h))
        | bk=>exact of.elim
        | ct=>exact of.elim
    refine wpAny_mono (ht.run [] s1 (L2.start N vs) H _ I hq) (fun fl s' hs=>?_) fun e s' hs=>hs
    cases fl with
    | ret u=>obtain ⟨v,σ',H',J,rv,q⟩:=hs; exact ⟨v,H',J.os,J.bare,J.base,J.hok,rv,q⟩
    | next=>obtain ⟨σ',H',J,q⟩:=hs; exact ⟨V.non,H',J.os,J.bare,J.base,J.hok,(rfl:Value.none=Value.none),q⟩
    | brk=>obtain ⟨_,_,_,q⟩:=hs; exact q.elim
    | cont=>obtain ⟨_,_,_,q⟩:=hs; exact q.elim
end
end Mir
namespace Mir
open PySem PySem.Spec L2
inductive AV where
  | dat (d:Dat)
  | slot (i:Nat)
abbrev MAv:=Sg→Rs (List AV)
inductive jo (cm:CM) (K:PySem.W.Frag) (σ:L2.St) (G:VH):List V→List AV→Prop
  | nil:jo cm K σ G [] []
  | dat {v:V} {d:Dat} {vs:List V} {as:List AV}:Rp cm K G v d→jo cm K σ G vs as→jo cm K σ G (v :: vs) (.dat d :: as)
  | slot {v:V} {i:Nat} {vs:List V} {as:List AV}:σ[i]? =some (some v)→jo cm K σ G vs as→jo cm K σ G (v :: vs) (.slot i :: as)
theorem jo.mono {cm:CM} {K:PySem.W.Frag} {σ:L2.St} {G G':VH} (e:Same G G'):∀ {vs:List V} {as:List AV},jo cm K σ G vs as→jo cm K σ G' vs as
  | _,_,.nil=> .nil
  | _,_,.dat a b=> .dat (a.mono e) (jo.mono e b)
  | _,_,.slot a b=> .slot a (jo.mono e b)
theorem jo.length {cm:CM} {K:PySem.W.Frag} {σ:L2.St} {G:VH}:∀ {vs:List V} {as:List AV},jo cm K σ G vs as→vs.length=as.length
  | _,_,.nil=>rfl
  | _,_,.dat _ b=>congrArg Nat.succ (jo.length b)
  | _,_,.slot _ b=>congrArg Nat.succ (jo.length b)
abbrev rAv (cm:CM) (K:PySem.W.Frag):Rep (List V) (List AV):=fun σ G vs as=>jo cm K σ G vs as
abbrev tAv (cm:CM) (K:PySem.W.Frag) (W:WX) (m:MAv):TA:=tG cm K W (rAv cm K) m
def WP (i:Nat) (S:Sg):Bool:=match S[i]? with
  | some (.loc _)=>true
  | some (.own _ _)=>true
  | _=>false
def jn:MAv:=fun S=> .ok [] S
def jQ (ma:ME) (mr:MAv):MAv:=fun S=>(ma S).bind fun d S1=>(mr S1).bind fun r S2=> .ok (.dat d :: r) S2
def jfN (i:Nat) (mr:MAv):MAv:=fun S=>if WP i S then (mr S).bind fun r S2=> .ok (.slot i :: r) S2 else .bad
def Y4 (S:Sg):List AV→Option (List FA×List Nat)
  | []=>some ([],[])
  | .dat d :: r=>match Y4 S r with
    | some (fs,is)=>some (.dat d :: fs,is)
    | none=>none
  | .slot i :: r=>match S[i]?,Y4 S r with
    | some (.own _ o),some (fs,is)=>some (.own o :: fs,i :: is)
    | some (.loc ds),some (fs,is)=>some (.own (.lst ds) :: fs,i :: is)
    | _,_=>none
def jh8 (s:vW) (o:Own):Option vW:=match s with
  | .own j _=>some (.own j o)
  | .loc _=>match o with
    | .lst ds=>some (.loc ds)
    | _=>none
  | _=>none
def wb:Sg→List Nat→List Own→Option Sg
  | S,[],[]=>some S
  | S,i :: is,o :: os=>match S[i]? with
    | some s=>match jh8 s o with
      | some s'=>wb (S.set i s') is os
      | none=>none
    | none=>none
  | _,_,_=>none
def yr:List Nat→Bool
  | []=>true
  | i :: is=>!is.contains i && yr is
theorem jdX:∀ {is:List Nat},yr is=true→is.Nodup
  | [],_=>List.nodup_nil
  | i :: is,h=>by
    unfold yr at h
    rw [Bool.and_eq_true] at h
    refine List.nodup_cons.mpr ⟨fun z=>?_,jdX h.2⟩
    have:=h.1
    simp [z] at this
def Vc (Fn:List FA→RF) (as:List AV) (S:Sg):Rs Dat:=match Y4 S as with
  | none=> .bad
  | some (fs,is)=>if yr is then (match Fn fs with
    | .ok d outs=>(match wb S is outs with
      | some S'=> .ok d S'
      | none=> .bad)
    | .exc c es outs=>(match wb S is outs with
      | some S'=> .exc c es S'
      | none=> .bad)
    | .bad=> .bad) else .bad
theorem jcd {α:Type}:∀ {xs:List α},(∀ (t u:Nat) (l:α),xs[t]? =some l→xs[u]? =some l→t=u)→xs.Nodup
  | [],_=>List.nodup_nil
  | x :: xs,h=>List.nodup_cons.mpr ⟨fun z=>by
      obtain ⟨t,ht,e⟩:=List.getElem_of_mem z
      have:=h 0 (t + 1) x rfl (by rw [List.getElem?_cons_succ,List.getElem?_eq_getElem ht,e])
      omega,jcd fun t u l a b=>by
      have:=h (t + 1) (u + 1) l (by rw [List.getElem?_cons_succ]; exact a) (by rw [List.getElem?_cons_succ]; exact b)
      omega⟩
def WJ (F:Fm) (S:Sg) (σ:L2.St) (i:Nat) (l:Addr):Prop:=σ[i]? =some (some (.ref l))∧((∃ ds,S[i]? =some (.loc ds))∨∃ j o,S[i]? =some (.own j o)∧F.A0[j]? =some l)
section
variable {F:Fm} {S S':Sg} {σ:L2.St} {H H':Hp}
theorem Rel.lentAt (R:Rel F S σ H) {i:Nat} (h:WP i S=true):∃ l,WJ F S σ i l:=by
  unfold WP at h
  cases hs:S[i]? with
  | none=>rw [hs] at h; cases h
  | some s=>
    have hl:i < σ.length:=by rw [← R.len]; exact (List.getElem?_eq_some_iff.mp hs).1
    have hv:σ[i]? =some σ[i]:=List.getElem?_eq_getElem hl
    have q:=R.sl i s _ hs hv
    generalize σ[i]=w at hv q
    cases q with
    | no=>rw [hs] at h; cases h
    | dat _=>rw [hs] at h; cases h
    | exn _ _ _=>rw [hs] at h; cases h
    | heap _ _=>rw [hs] at h; cases h
    | loc _ _=>exact ⟨_,hv,.inl ⟨_,hs⟩⟩
    | own e0 _=>exact ⟨_,hv,.inr ⟨_,_,hs,e0⟩⟩
theorem Rel.lent1 (R:Rel F S σ H) {i k:Nat} {l:Addr} (a:WJ F S σ i l) (b:WJ F S σ k l):i=k:=by
  obtain ⟨a0,a1⟩:=a
  obtain ⟨b0,b1⟩:=b
  rcases a1 with ⟨ds,a1⟩ | ⟨j,o,a1,a2⟩
  · rcases b1 with ⟨es,b1⟩ | ⟨j',o',b1,b2⟩
    · exact jgG R.nd a1 a0 b1 b0
    · exact absurd (R.ain l (List.mem_of_getElem? b2)) (R.lom l (J6.mpr ⟨i,ds,a1,a0⟩))
  · rcases b1 with ⟨es,b1⟩ | ⟨j',o',b1,b2⟩
    · exact absurd (R.ain l (List.mem_of_getElem? a2)) (R.lom l (J6.mpr ⟨k,es,b1,b0⟩))
    · have ej:j=j':=nd_ix R.and_ a2 b2
      subst ej
      exact jfl R.ond a1 b1
theorem Rel.lentIn (R:Rel F S σ H) {i:Nat} {l:Addr} (a:WJ F S σ i l):l ∈ F.M ++ jP S σ:=by
  obtain ⟨a0,a1⟩:=a
  rcases a1 with ⟨ds,a1⟩ | ⟨j,o,a1,a2⟩
  · exact List.mem_append_right _ (J6.mpr ⟨i,ds,a1,a0⟩)
  · exact List.mem_append_left _ (R.ain l (List.mem_of_getElem? a2))
theorem jfH {i j:Nat} {o u:Own} (h:S[i]? =some (.own j o)):jP (S.set i (.own j u)) σ=jP S σ:=by
  have key:∀ (S:Sg) (σ:L2.St) (i:Nat),S[i]? =some (.own j o)→jP (S.set i (.own j u)) σ=jP S σ:=by
    intro S
    induction S with
    | nil=>intro σ i h; simp at h
    | cons s S ih=>
      intro σ i h
      cases σ with
      | nil=>
        have:∀ T:Sg,jP T []= []:=fun T=>by cases T with
          | nil=>rfl
          | cons x r=>cases x <;> rfl
        simp [this]
      | cons v σ=>
        cases i with
        | zero=>simp at h; subst h; rfl
        | succ i=>
          have:=ih σ i (by simpa using h)
          show jP (s :: S.set i _) (v :: σ)=jP (s :: S) (v :: σ)
          cases s with
          | loc ds=>
            cases v with
            | none=>exact this
            | some v=>
              cases v with
              | ref l=>simp [jP,this]
              | _=>exact this
          | _=>simpa [jP] using this
  exact key S σ i h
theorem jd0:∀ {is:List Nat} {os:List Own} {S S':Sg},is.Nodup→wb S is os=some S'→S'.length=S.length∧jP S' σ=jP S σ∧wP S'=wP S∧(∀ k:Nat,k ∉ is→S'[k]? =S[k]?)∧
    ∀ (t k:Nat),is[t]? =some k→∃ s o s',S[k]? =some s∧os[t]? =some o∧jh8 s o=some s'∧S'[k]? =some s'
  | [],[],S,S',_,h=>by cases h; exact ⟨rfl,rfl,rfl,fun _ _=>rfl,fun t k e=>by simp at e⟩
  | [],_ :: _,S,S',_,h=>by cases h
  | _ :: _,[],S,S',_,h=>by cases h
  | i :: is,o :: os,S,S',nd,h=>by
    obtain ⟨n1,n2⟩:=List.nodup_cons.mp nd
    unfold wb at h
    cases hs:S[i]? with
    | none=>rw [hs] at h; cases h
    | some s=>
      rw [hs] at h
      dsimp only at h
      cases hp:jh8 s o with
      | none=>rw [hp] at h; cases h
      | some s1=>
        rw [hp] at h
        obtain ⟨a1,a2,a3,a4,a5⟩:=jd0 n2 h
        have hi:i < S.length:=(List.getElem?_eq_some_iff.mp hs).1
        have el:jP (S.set i s1) σ=jP S σ∧wP (S.set i s1)=wP S:=by
          unfold jh8 at hp
          cases s with
          | no=>cases hp
          | dat d=>cases hp
          | exn c fs=>cases hp
          | heap T=>cases hp
          | loc ds=>
            cases o with
            | lst es=>
              cases hp
              refine ⟨Wh hs,?_⟩
              have key:∀ (S:Sg) (i:Nat),S[i]? =some (.loc ds)→wP (S.set i (.loc es))=wP S:=by
                intro S
                induction S with
                | nil=>intro i h; simp at h
                | cons s S ih=>
                  intro i h
                  cases i with
                  | zero=>simp at h; subst h; rfl
                  | succ i=>
                    have:=ih i (by simpa using h)
                    show wP (s :: S.set i _)=wP (s :: S)
                    cases s with
                    | own j o=>simp [wP,this]
                    | _=>simpa [wP] using this
              exact key S i hs
            | obj _ _=>cases hp
            | dic _=>cases hp
            | dit _=>cases hp
            | gone _=>cases hp
            | tab _ _=>cases hp
          | own j u=>cases hp; exact ⟨jfH hs,V7 hs⟩
        refine ⟨by rw [a1,List.length_set],by rw [a2,el.1],by rw [a3,el.2],fun k hk=>?_,fun t k e=>?_⟩
        · rw [a4 k fun z=>hk (List.mem_cons_of_mem _ z),List.getElem?_set_ne fun z=>hk (by rw [z]; exact List.mem_cons_self ..)]
        · cases t with
          | zero=>
            simp at e; subst e
            refine ⟨s,o,s1,hs,rfl,hp,?_⟩
            rw [a4 i n1,List.getElem?_set,if_pos rfl,if_pos hi]
          | succ t=>
            have e':is[t]? =some k:=by simpa using e
            obtain ⟨s2,o2,s3,b1,b2,b3,b4⟩:=a5 t k e'
            have hne:i ≠ k:=fun z=>n1 (by rw [z]; exact List.mem_of_getElem? e')
            rw [List.getElem?_set_ne hne] at b1
            exact ⟨s2,o2,s3,b1,by simpa using b2,b3,b4⟩
theorem Rel.lent (R:Rel F S σ H) {is:List Nat} {ls:List Addr} {outs:List Own} (nd:is.Nodup) (ha:∀ (t i:Nat),is[t]? =some i→∃ l,ls[t]? =some l∧WJ F S σ i l) (hb:∀ (t:Nat) (l:Addr),ls[t]? =some l→∃ i:Nat,is[t]? =some i)
    (keep:∀ a o,H a=some o→a ∉ ls→H' a=some o) (oo:wa F.cm F.K (hid (F.M ++ jP S σ) H') H' ls outs) (hw:wb S is outs=some S'):Rel F S' σ H'∧Same (vis F S σ H) (vis F S' σ H'):=by
  obtain ⟨a1,a2,a3,a4,a5⟩:=jd0 (σ:=σ) nd hw
  have eV:vis F S' σ H'=hid (F.M ++ jP S σ) H':=by unfold vis; rw [a2]
  have mem:∀ l,l ∈ ls→∃ i,i ∈ is∧WJ F S σ i l:=fun l hl=>by
    obtain ⟨t,ht,e⟩:=List.getElem_of_mem hl
    have et:ls[t]? =some l:=by rw [List.getElem?_eq_getElem ht,e]
    obtain ⟨i,hi⟩:=hb t l et
    obtain ⟨l',e2,q⟩:=ha t i hi
    rw [et] at e2; cases e2
    exact ⟨i,List.mem_of_getElem? hi,q⟩
  have g:Same (vis F S σ H) (vis F S' σ H'):=by
    rw [eV]
    exact jdK fun a o na q=>keep a o q fun z=>by
      obtain ⟨i,_,q⟩:=mem a z
      exact na (R.lentIn q)
  have outl:∀ l,l ∈ ls→Lv (H' l):=fun l hl=>by
    obtain ⟨t,ht,e⟩:=List.getElem_of_mem hl
    obtain ⟨o,_,ok⟩:=oo.get (show ls[t]? =some l by rw [List.getElem?_eq_getElem ht,e])
    exact ok.lv
  have lvH:∀ a,H a ≠ none→H' a ≠ none:=fun a h=>by
    by_cases hl:a ∈ ls
    · exact (outl a hl).ne
    · cases q:H a with
      | none=>exact absurd q h
      | some o=>rw [keep a o q hl]; simp
  have back:∀ (k:Nat) (s':vW),S'[k]? =some s'→S[k]? =some s'∨(∃ ds ds',S[k]? =some (.loc ds)∧s'= .loc ds')∨∃ j u u',S[k]? =some (.own j u)∧s'= .own j u':=fun k s' hk=>by
    by_cases hi:k ∈ is
    · obtain ⟨t,ht,e⟩:=List.getElem_of_mem hi
      obtain ⟨s0,o,s1,b1,b2,b3,b4⟩:=a5 t k (by rw [List.getElem?_eq_getElem ht,e])
      rw [hk] at b4; cases b4
      unfold jh8 at b3
      cases s0 with
      | loc ds=>
        cases o with
        | lst es=>cases b3; exact .inr (.inl ⟨_,_,b1,rfl⟩)
        | _=>cases b3
      | own j u=>cases b3; exact .inr (.inr ⟨_,_,_,b1,rfl⟩)
      | _=>cases b3
    · rw [a4 k hi] at hk; exact .inl hk
  refine ⟨⟨by rw [a1,R.len],fun k s v hs hv=>?_,by rw [a2]; exact R.nd,fun l h=>R.new l (by rw [← a2]; exact h),by rw [a3]; exact R.ond,R.and_,R.ain,fun a h=>?_,fun l h=>R.lom l (by rw [← a2]; exact h),fun p h=>?_,fun a o q n=>?_,R.hp.of (fun i T z=>?_) (fun j m u z=>?_) lvH⟩,g⟩
  · rw [eV]
    by_cases hk:k ∈ is
    · obtain ⟨t,ht,e⟩:=List.getElem_of_mem hk
      have et:is[t]? =some k:=by rw [List.getElem?_eq_getElem ht,e]
      obtain ⟨s0,o,s1,b1,b2,b3,b4⟩:=a5 t k et
      rw [hs] at b4; cases b4
      obtain ⟨l,el,lv,lk⟩:=ha t k et
      rw [hv] at lv; cases lv
      obtain ⟨o',eo,ok⟩:=oo.get el
      rw [b2] at eo; cases eo
      rcases lk with ⟨ds,lk⟩ | ⟨j,u,lk,lj⟩
      · rw [b1] at lk; cases lk
        cases o with
        | lst es=>
          cases b3
          cases ok with
          | lst h r=>exact .loc h r
        | obj _ _=>cases b3
        | dic _=>cases b3
        | dit _=>cases b3
        | gone _=>cases b3
        | tab _ _=>cases b3
      · rw [b1] at lk; cases lk
        cases b3
        exact .own lj ok
    · rw [a4 k hk] at hs
      have y:=R.sl k s v hs hv
      rw [← eV]
      refine y.mono g fun l x hd q=>keep l x q fun z=>?_
      obtain ⟨i,hi,l0,lk⟩:=mem l z
      have e:i=k:=by
        rcases lk with ⟨ds,lk⟩ | ⟨j,u,lk,lj⟩
        · exact R.apart lk l0 hs hv rfl hd
        · exact R.apart lk l0 hs hv rfl hd
      exact hk (by rw [← e]; exact hi)
  · by_cases hl:a ∈ ls
    · exact outl a hl
    · have y:=R.liv a h
      cases q:H a with
      | none=>exact absurd q y.ne
      | some o=>rw [keep a o q hl]; rw [q] at y; exact y
  · obtain ⟨t1,t2,t3⟩:=R.tmp p h
    refine ⟨keep _ _ t1 fun z=>?_,t2,t3⟩
    obtain ⟨i,_,l0,lk⟩:=mem p.1 z
    rcases lk with ⟨ds,lk⟩ | ⟨j,u,lk,lj⟩
    · exact R.lom p.1 (J6.mpr ⟨i,ds,lk,l0⟩) t2
    · exact t3 (List.mem_of_getElem? lj)
  · refine keep a o (R.keep a o q n) fun z=>?_
    obtain ⟨i,_,l0,lk⟩:=mem a z
    rcases lk with ⟨ds,lk⟩ | ⟨j,u,lk,lj⟩
    · rw [R.new a (J6.mpr ⟨i,ds,lk,l0⟩)] at q; cases q
    · exact n (List.mem_of_getElem? lj)
  · rcases back i _ z with z | ⟨_,_,_,z⟩ | ⟨_,_,_,_,z⟩
    · exact z
    · cases z
    · cases z
  · rcases back j _ z with z | ⟨_,_,_,z⟩ | ⟨_,_,_,y,z⟩
    · exact ⟨_,z⟩
    · cases z
    · cases z; exact ⟨_,y⟩
theorem jdG {cm:CM} {K:PySem.W.Frag} (e1:F.cm=cm) (e2:F.K=K) (R:Rel F S σ H):∀ {vs:List V} {as:List AV} {fs:List FA} {is:List Nat},jo cm K σ (vis F S σ H) vs as→Y4 S as=some (fs,is)→
    ∃ ls,vO cm K (vis F S σ H) H vs fs ls∧(∀ (t i:Nat),is[t]? =some i→∃ l,ls[t]? =some l∧WJ F S σ i l)∧∀ (t:Nat) (l:Addr),ls[t]? =some l→∃ i:Nat,is[t]? =some i
  | _,_,fs,is,.nil,h=>by cases h; exact ⟨[],.nil,fun t i e=>by simp at e,fun t l e=>by simp at e⟩
  | _,_,fs,is,.dat (as:=as) a b,h=>by
    unfold Y4 at h
    cases hf:Y4 S as with
    | none=>rw [hf] at h; cases h
    | some q=>
      obtain ⟨q1,q2⟩:=q
      rw [hf] at h; cases h
      obtain ⟨ls,c1,c2,c3⟩:=jdG e1 e2 R b hf
      exact ⟨ls,.dat a c1,c2,c3⟩
  | _,_,fs,is,.slot (i:=i) (as:=as) a b,h=>by
    unfold Y4 at h
    cases hs:S[i]? with
    | none=>rw [hs] at h; cases h
    | some s=>
      have y:=R.sl i s _ hs a
      cases hf:Y4 S as with
      | none=>rw [hs,hf] at h; cases s <;> cases h
      | some q=>
        obtain ⟨q1,q2⟩:=q
        rw [hs,hf] at h
        obtain ⟨ls,c1,c2,c3⟩:=jdG e1 e2 R b hf
        have fin:∀ {l:Addr} {o:Own},WJ F S σ i l→w8 cm K (vis F S σ H) H l o→(FA.own o :: q1,i :: q2)=(fs,is)→∃ ls,vO cm K (vis F S σ H) H (V.ref l :: _) fs ls∧(∀ (t i:Nat),is[t]? =some i→∃ l,ls[t]? =some l∧WJ F S σ i l)∧∀ (t:Nat) (l:Addr),ls[t]? =some l→∃ i:Nat,is[t]? =some i:=fun {l o} la ok e=>by
          cases e
          refine ⟨l :: ls,.own ok c1,fun t k e=>?_,fun t x e=>?_⟩
          · cases t with
            | zero=>simp at e; subst e; exact ⟨l,rfl,la⟩
            | succ t=>obtain ⟨x,d1,d2⟩:=c2 t k (by simpa using e); exact ⟨x,by simpa using d1,d2⟩
          · cases t with
            | zero=>exact ⟨i,rfl⟩
            | succ t=>obtain ⟨k,d⟩:=c3 t x (by simpa using e); exact ⟨k,by simpa using d⟩
        cases y with
        | no=>cases h
        | dat _=>cases h
        | exn _ _ _=>cases h
        | heap _ _=>cases h
        | loc eh r=>exact fin ⟨a,.inl ⟨_,hs⟩⟩ (.lst eh (by rw [← e1,← e2]; exact r)) (Option.some.inj h)
        | own e0 ok=>exact fin ⟨a,.inr ⟨_,_,hs,e0⟩⟩ (by rw [← e1,← e2]; exact ok) (Option.some.inj h)
theorem jjF {cm:CM} {K:PySem.W.Frag} {W:WX} {Fn:List FA→RF} {vs:List V} {as:List AV} {Q:VK} (e1:F.cm=cm) (e2:F.K=K) (R:Rel F S σ H) (av:jo cm K σ (vis F S σ H) vs as) (h:out F W σ (vis F S σ H) (rE cm K) Q (Vc Fn as S)) :
    spF cm K Fn vs H Q (WE W σ):=by
  unfold Vc at h
  cases hf:Y4 S as with
  | none=>rw [hf] at h; exact h.elim
  | some q=>
    obtain ⟨fs,is⟩:=q
    rw [hf] at h
    dsimp only at h
    by_cases hn:yr is=true
    · rw [if_pos hn] at h
      have nd:=jdX hn
      obtain ⟨ls,c1,c2,c3⟩:=jdG e1 e2 R av hf
      have lin:∀ l,l ∈ ls→l ∈ F.M ++ jP S σ:=fun l hl=>by
        obtain ⟨t,ht,e⟩:=List.getElem_of_mem hl
        have et:ls[t]? =some l:=by rw [List.getElem?_eq_getElem ht,e]
        obtain ⟨i,hi⟩:=c3 t l et
        obtain ⟨l',e3,q⟩:=c2 t i hi
        rw [et] at e3; cases e3
        exact R.lentIn q
      have lnd:ls.Nodup:=jcd fun t u l ht hl=>by
        obtain ⟨i,hi⟩:=c3 u l hl
        obtain ⟨k,hk⟩:=c3 t l ht
        obtain ⟨l1,d1,d2⟩:=c2 u i hi
        obtain ⟨l2,d3,d4⟩:=c2 t k hk
        rw [hl] at d1; cases d1
        rw [ht] at d3; cases d3
        have ik:=R.lent1 d2 d4
        subst ik
        exact nd_ix nd hk hi
      refine ⟨F.M ++ jP S σ,fs,ls,R.live,lin,lnd,c1,?_⟩
      cases hF:Fn fs with
      | bad=>rw [hF] at h; exact h
      | ok d outs=>
        rw [hF] at h
        intro v H' kp oo rv
        dsimp only at h
        cases hw:wb S is outs with
        | none=>rw [hw] at h; exact h.elim
        | some S'=>
          rw [hw] at h
          obtain ⟨R',s'⟩:=R.lent nd c2 c3 kp (by rw [e1,e2]; exact oo) hw
          refine h v H' R' s' ?_
          have eV:vis F S' σ H'=hid (F.M ++ jP S σ) H':=by unfold vis; rw [(jd0 (σ:=σ) nd hw).2.1]
          rw [eV]
          exact rv
      | exc c es outs=>
        rw [hF] at h
        intro da gs H' kp oo hda rg
        dsimp only at h
        cases hw:wb S is outs with
        | none=>rw [hw] at h; exact h.elim
        | some S'=>
          rw [hw] at h
          obtain ⟨R',s'⟩:=R.lent nd c2 c3 kp (by rw [e1,e2]; exact oo) hw
          have eV:vis F S' σ H'=hid (F.M ++ jP S σ) H':=by unfold vis; rw [(jd0 (σ:=σ) nd hw).2.1]
          have z:=h da gs H' R' s' (by rw [eV]; exact hda) (by rw [eV,e1,e2]; exact rg)
          rw [e1] at z
          exact z
    · rw [if_neg hn] at h; exact h.elim
end
end Mir
namespace Mir
open PySem PySem.Spec L2
inductive jmk (cm:CM) (K:PySem.W.Frag) (σ:L2.St) (G:VH):V→AV→Prop
  | dat {v:V} {d:Dat}:Rp cm K G v d→jmk cm K σ G v (.dat d)
  | slot {v:V} {i:Nat}:σ[i]? =some (some v)→jmk cm K σ G v (.slot i)
section
variable {cm:CM} {K:PySem.W.Frag} {σ:L2.St} {G:VH}
theorem jo.cons {v:V} {a:AV} {vs:List V} {as:List AV} (h:jmk cm K σ G v a) (r:jo cm K σ G vs as):jo cm K σ G (v :: vs) (a :: as):=by
  cases h with
  | dat p=>exact .dat p r
  | slot p=>exact .slot p r
theorem jo.at:∀ {vs:List V} {as:List AV},jo cm K σ G vs as→∀ i:Nat,jmk cm K σ G (vs.getD i .non) (as.getD i (.dat .non))
  | _,_,.nil,i=>by simpa using jmk.dat Rp.non
  | _,_,.dat a b,0=> .dat a
  | _,_,.slot a b,0=> .slot a
  | _,_,.dat a b,i + 1=>by have:=jo.at b i; simpa using this
  | _,_,.slot a b,i + 1=>by have:=jo.at b i; simpa using this
end
theorem Vals.at:∀ {vs:List V} {us:List Value},Vals vs us→∀ i:Nat,RelV (vs.getD i .non) (us.getD i .none)
  | _,_,.nil,i=>by simp [RelV]
  | _,_,.cons a b,0=>a
  | _,_,.cons a b,i + 1=>by have:=Vals.at b i; simpa using this
structure Arr (K:PySem.W.Frag) (n m:Nat) (gV:List V→List V→List V) (arr:List AV→List AV→List AV):Prop where
  ok:∀ {cm:CM} {σ:L2.St} {G:VH} {vs zs:List V} {as bs:List AV},vs.length=n→zs.length=m→jo cm K σ G vs as→jo cm K σ G zs bs→jo cm K σ G (gV vs zs) (arr as bs)
def jA (Fn:List FA→RF) (n m:Nat) (arr:List AV→List AV→List AV) (ma mk:MAv):ME:=fun S=>(ma S).bind fun as S1=>(mk S1).bind fun bs S2=>if as.length=n∧bs.length=m then Vc Fn (arr as bs) S2 else .bad
section
variable {K:PySem.W.Frag} {x qual:Str} {params:Arguments} {body:List Stmt} {scope:Scope} {dvs:List V} {kws:List (Str×V)} {f:Addr} {fd:FuncData} {ps:List Str}
theorem jd (F:FunD K x qual params body scope [] kws f fd) (n:Nat) (ks:List Str) (g:List Value→List Value→List Value) (gV:List V→List V→List V)
    (hrel:∀ {vs:List V} {us:List Value} {zs:List V} {ws:List Value},Vals vs us→Vals zs ws→Vals (gV vs zs) (g us ws))
    (h:∀ (kV doc pm:Value) (an:Option Addr) (cdv ct:Value) (us ws:List Value),us.length=n→ws.length=ks.length→bindArgs (PySem.W.fnOf x qual params body scope .none kV doc pm an cdv ct) ⟨us,ks.zip ws⟩=pure (ps.zip (g us ws))):∃ g,KBn K fd ps n ks g gV:=by
  obtain ⟨oc,od,dV,kV,doc,pm,an,cdv,ct,osl,rfl,lk,hcd,hD,hK⟩:=F.ex
  rcases hD with ⟨_,rfl⟩ | ⟨e,_⟩
  · exact ⟨g,⟨fun s us ws _ l1 l2=> .of_eq (h kV doc pm an cdv ct us ws l1 l2),hrel⟩⟩
  · exact absurd rfl e
end
section
variable {X:Cx} {cm:CM} {W:WX} {e o:Expr} {es:List Expr} {ma:ME} {mr mk:MAv} {pos p:Pos} {kwl:List Keyword}
theorem jJ:PA X [] (tAv cm X.K W jn):=PA.weak pa_nil fun σ H Q ⟨F,S,e1,e2,R,h⟩=>h [] H R (.refl _) .nil
theorem jB (ha:PE X e (tE cm X.K W ma)) (hr:PA X es (tAv cm X.K W mr)) (hs:starEach (e :: es) X.env=(false,eval e X.env) :: starEach es X.env:=by rfl):PA X (e :: es) (tAv cm X.K W (jQ ma mr)):=
  PA.weak (pa_cons ha hr hs) fun σ H Q ⟨F,S,e1,e2,R,h⟩=>jD e1 e2 R h fun F x H1 da S1 e1 e2 R1 s1 p1 h1=>jD e1 e2 R1 h1 fun F y H2 db S2 e1 e2 R2 s2 p2 h2=>h2 _ H2 R2 (.refl _) (.dat (Rp.mono s2 p1) p2)
theorem jgq {i:Nat} (ho:PE X e (tVar i)) (hr:PA X es (tAv cm X.K W mr)) (hs:starEach (e :: es) X.env=(false,eval e X.env) :: starEach es X.env:=by rfl):PA X (e :: es) (tAv cm X.K W (jfN i mr)):=
  PA.weak (pa_cons ho hr hs) fun σ H Q ⟨F,S,e1,e2,R,h⟩=>by
    unfold jfN at h
    by_cases hz:WP i S=true
    · rw [if_pos hz] at h
      obtain ⟨l,hl,_⟩:=R.lentAt hz
      exact ⟨_,hl,jD e1 e2 R h fun F y H2 db S2 e1 e2 R2 s2 p2 h2=>h2 _ H2 R2 (.refl _) (.slot hl p2)⟩
    · rw [if_neg hz] at h; exact h.elim
theorem PK.weak {kws:List Keyword} {t t':TA} (h:PK X kws t) (i:∀ σ H Q,t' σ H Q→t σ H Q):PK X kws t':=⟨fun pos pins s σ H Q I q=>h.run pos pins s σ H Q I (i σ H Q q)⟩
theorem JW:PK X [] (tAv cm X.K W jn):=PK.weak pk_nil fun σ H Q ⟨F,S,e1,e2,R,h⟩=>h [] H R (.refl _) .nil
theorem Jv {kpos:Pos} {nm:Option Str} (ha:PE X e (tE cm X.K W ma)) (hr:PK X kwl (tAv cm X.K W mr)):PK X (⟨nm,e,kpos⟩ :: kwl) (tAv cm X.K W (jQ ma mr)):=
  PK.weak (pk_cons ha hr) fun σ H Q ⟨F,S,e1,e2,R,h⟩=>jD e1 e2 R h fun F x H1 da S1 e1 e2 R1 s1 p1 h1=>jD e1 e2 R1 h1 fun F y H2 db S2 e1 e2 R2 s2 p2 h2=>h2 _ H2 R2 (.refl _) (.dat (Rp.mono s2 p1) p2)
variable {k n m:Nat} {f:Addr} {fd:FuncData} {ps ks:List Str} {Fn:List FA→RF} {x:Str} {gV:List V→List V→List V} {arr:List AV→List AV→List AV}
theorem jkO {sp:Sp} {pins:List (Addr×Obj)} {σ:L2.St} {H:Hp} {s:Shared} {Q:VK} {us:List Value} {kw:List (Str×Value)} {ys:List Value} {xs:List V} (Fk:FnG X.prog X.w X.K X.mg X.base (L2.CX X.prog X.w) k f fd ps sp) (hr:Room k X.A) (hgd:X.A.guards=some []) (tk:Takes X W)
    (I:L2.Inv X pins σ H s) (hb:BindsTo s fd ⟨us,kw⟩ (ps.zip ys)) (r:Vals xs ys) (h:sp xs H Q (WE W σ)):wpAny (model X.prog X.w) X.A (call (.ref f) us kw) (EP X pins σ Q) X.xe s:=by
  refine wpAny_call (codeAny_mono (Fk.run X.A X.stack s H ⟨us,kw⟩ ys xs Q (WE W σ) hr hgd I.env0 hb r h) fun res s' hq=>?_)
  rcases res with e | fl
  · exact passAt tk σ pins H s e s' I hq
  · rcases fl with _ | _ | _ | u
    · exact False.elim hq
    · exact False.elim hq
    · exact False.elim hq
    · exact I.after hq
theorem JV (Fk:FnG X.prog X.w X.K X.mg X.base (L2.CX X.prog X.w) k f fd ps (spF cm X.K Fn)) (hr:Room k X.A) (hgd:X.A.guards=some []) (tk:Takes X W) (hg:Gl X x) (hm:X.mg x=some (.ref f)) (hk:PySem.W.keepIn X.K (.ref f)=true) (hb:∃ g,KBn X.K fd ps n [] g gV) (hA:Arr X.K n 0 gV arr)
    (ha:PA X (e :: es) (tAv cm X.K W mr)) (hdb:(x == ("__debug__" :Str))=false:=by decide) (he:starEach (e :: es) X.env=(false,eval e X.env) :: starEach es X.env:=by rfl) (hpl:(backTo pos (starEach es X.env)).any (·.1)=false:=by rfl) :
    PE X (.Call (.Name x p) (e :: es) [] pos) (tE cm X.K W (jA Fn n 0 arr mr jn)):=by
  obtain ⟨g,hb⟩:=hb
  refine ⟨fun pins s σ H Q I ⟨F,S,e1,e2,R,h⟩=>wpAny_Call_Name_kw (ld_glob I hg hm (PySem.W.callWith_K (h₀:=X.base) I.ok.mod.kin hk (thn (ha.run pos pins s σ H (fun vs H1=> ∃ F:Fm,∃ as S1,F.cm=cm∧F.K=X.K∧Rel F S1 σ H1∧jo cm X.K σ (vis F S1 σ H1) vs as∧as.length=n∧out F W σ (vis F S1 σ H1) (rE cm X.K) Q (Vc Fn (arr as []) S1)) I
      (jD e1 e2 R h fun F vs H1 as S1 e1 e2 R1 s1 p1 h1=>?_)) fun us s1 ⟨vs,H1,I1,r,F,as,S1,e1,e2,R1,p1,hl,h1⟩=>⟨I1.kIn,?_⟩) he hpl) hdb)⟩
  · have h1':out F W σ (vis F S1 σ H1) (rE cm X.K) Q (if as.length=n∧([]:List AV).length=0 then Vc Fn (arr as []) S1 else .bad):=h1
    by_cases hz:as.length=n
    · rw [if_pos ⟨hz,rfl⟩] at h1'
      exact ⟨F,as,S1,e1,e2,R1,p1,hz,h1'⟩
    · rw [if_neg fun z=>hz z.1] at h1'; exact h1'.elim
  · have lv:vs.length=n:=by rw [jo.length p1]; exact hl
    exact jkO (us:=us) (kw:=[]) Fk hr hgd tk I1 (hb.to s1 us [] I1.kIn (by rw [← r.length]; exact lv) rfl) (hb.rel r .nil) (jjF e1 e2 R1 (hA.ok lv rfl p1 .nil) h1)
def jkt (c:Str) (Fn:List FA→RF) (as:List AV) (S:Sg):Rs Dat:=match Y4 S as with
  | none=> .bad
  | some (fs,is)=>if yr is then (match Fn (.own (.obj c []) :: fs) with
    | .ok .non (.obj c' gs :: os)=>if c'=c then (match wb S is os with
      | some S'=> .ok (.ins c gs) S'
      | none=> .bad) else .bad
    | .exc c' es (_ :: os)=>(match wb S is os with
      | some S'=> .exc c' es S'
      | none=> .bad)
    | _=> .bad) else .bad
def jnj (c:Str) (Fn:List FA→RF) (n m:Nat) (arr:List AV→List AV→List AV) (ma mk:MAv):ME:=fun S=>(ma S).bind fun as S1=>(mk S1).bind fun bs S2=>if as.length=n∧bs.length=m then jkt c Fn (arr as bs) S2 else .bad
theorem w8.grow {K:PySem.W.Frag} {G G':VH} {H H':Hp} (e:Same G G') (e':L2.Same H H') {l:Addr} {o:Own} (h:w8 cm K G H l o):w8 cm K G' H' l o:=h.mono e fun _ q=>e' _ _ q
theorem vO.grow {K:PySem.W.Frag} {G G':VH} {H H':Hp} (e:Same G G') (e':L2.Same H H'):∀ {vs:List V} {fs:List FA} {ls:List Addr},vO cm K G H vs fs ls→vO cm K G' H' vs fs ls
  | _,_,_,.nil=> .nil
  | _,_,_,.dat a b=> .dat (a.mono e) (vO.grow e e' b)
  | _,_,_,.own a b=> .own (a.grow e e') (vO.grow e e' b)
theorem wa.grow {K:PySem.W.Frag} {G G':VH} {H:Hp} (e:Same G G'):∀ {ls:List Addr} {os:List Own},wa cm K G H ls os→wa cm K G' H ls os
  | _,_,.nil=> .nil
  | _,_,.cons a b=> .cons (a.grow e (.refl _)) (wa.grow e b)
end
end Mir
namespace Mir
open PySem PySem.Spec L2
structure joc (K:PySem.W.Frag) (C:Addr):Prop where
  cl:Cls K C
  kc:PySem.W.findIn K (.ref C) "__class__" =some (some (.builtin "object.__class__"))
  sp:PySem.W.specialIn K (.builtin "object.__class__") "__get__" =some (some (.builtin "getset_descriptor.__get__"))
  tk:PySem.W.takesIn K (.builtin "object.__class__")=some true
  mo:PySem.W.mroIn K C (.type "object")=some true
section
variable {X:Cx} {cm:CM} {W:WX} {e o:Expr} {es:List Expr} {ma:ME} {mr mk:MAv} {pos p:Pos} {kwl:List Keyword} {k n m:Nat} {f:Addr} {fd:FuncData} {ps ks:List Str} {Fn:List FA→RF} {x c nm:Str} {gV gW:List V→List V→List V} {arr:List AV→List AV→List AV}
def stF (cs:List Str) (i:Nat) (nm:Str) (d:Dat) (S:Sg):Rs Unit:=match S[i]? with
  | some (.own j (.obj c fs))=>if cs.contains c∧fs.length < 1000 then .ok () (S.set i (.own j (.obj c (jm4 nm d fs)))) else .bad
  | _=> .bad
def joq (cs:List Str) (i:Nat) (nm:Str) (m:ME):MS:=fun S=>(m S).bind fun d S1=>(stF cs i nm d S1).bind fun _ S2=> .ok .nx S2
def jnJ (cs:List Str) (Fn:List FA→RF) (m:ME):ME:=fun S=>(m S).bind fun d S1=>match d with
  | .ins c fs=>if cs.contains c then (Vc Fn [.dat (.ins c fs)] S1).calm else .bad
  | _=> .bad
end
end Mir
namespace Mir
open PySem PySem.Spec L2
def jgj:Dat→Dat→Option Dat
  | .str a,.lst ds=>match jdj ds with
    | some ys=>if (ys.map (·.length)).sum + ys.length * a.length≤16777216 then some (.str (Txt.join a ys)) else none
    | none=>none
  | _,_=>none
def mJn (ma mb:ME):ME:=fun S=>(ma S).bind fun a S1=>match a with
  | .str x=>(mb S1).bind fun b S2=>Rs.of (jgj (.str x) b) S2
  | _=> .bad
def jd1:List ME→Str→Sg→Rs Str
  | [],acc,S=> .ok acc S
  | m :: ms,acc,S=>(m S).bind fun d S1=>match d with
    | .str y=>if (acc ++ y).length≤sizeLine then jd1 ms (acc ++ y) S1 else .bad
    | _=> .bad
def vH (ms:List ME):ME:=fun S=>(jd1 ms Str.empty S).bind fun x S1=> .ok (.str x) S1
section
variable {X:Cx} {cm:CM} {W:WX} {a b e o:Expr} {es:List Expr} {ma mb:ME} {mr mk:MAv} {pos p:Pos} {kwl:List Keyword} {k n m:Nat} {f:Addr} {fd:FuncData} {ps ks:List Str} {Fn:List FA→RF} {x c nm:Str} {gV gW:List V→List V→List V} {arr:List AV→List AV→List AV}
theorem jkD {apos:Pos} (ho:PE X a (tE cm X.K W ma)) (he:PE X b (tE cm X.K W mb)) (hs:starEach [b] X.env= [(false,eval b X.env)]:=by rfl) (hab:attributeBase a "join" X.env (eval a X.env)=eval a X.env:=by rfl) (hl:(apos.endLine == pos.line)=true:=by rfl) :
    PE X (.Call (.Attribute a "join" apos) [b] [] pos) (tE cm X.K W (mJn ma mb)):=
  PE.weak (pe_join ho he hs hab hl) fun σ H Q ⟨F,S,e1,e2,R,h⟩=>jD e1 e2 R h fun F x H1 da S1 e1 e2 R1 s1 p1 h1=>by
    cases p1 with
    | str z=>
      refine ⟨⟨z,rfl⟩,jD e1 e2 R1 h1 fun F y H2 db S2 e1 e2 R2 s2 p2 h2=>?_⟩
      obtain ⟨d,hd,hq⟩:=yR R2 h2
      cases p2 with
      | @lst l vs ds hh hr=>
        unfold jgj at hd
        dsimp only at hd
        cases hy:jdj ds with
        | none=>rw [hy] at hd; cases hd
        | some ys=>
          rw [hy] at hd
          dsimp only at hd
          by_cases hz:(ys.map (·.length)).sum + ys.length * z.length≤16777216
          · rw [if_pos hz] at hd; cases hd
            have ev:=jiD hr hy
            subst ev
            exact ⟨z,l,ys,rfl,rfl,.inl (SqL.of (Jk _ _ hh)),hz,hq _ H2 (.refl _) (.str _)⟩
          · rw [if_neg hz] at hd; cases hd
      | _=>cases hd
    | _=>exact False.elim h1
theorem jjf {F:Fm} {σ:L2.St} {Q:Str→Hp→Prop} (e1:F.cm=cm) (e2:F.K=X.K):∀ (ms:List ME) (acc:Str) (S:Sg) (H:Hp),Rel F S σ H→out F W σ (vis F S σ H) (fun _ _ (y:Str) z=>y=z) Q (jd1 ms acc S)→tJs (ms.map fun m=>tE cm X.K W m) acc σ H Q
  | [],acc,S,H,R,h=>h acc H R (.refl _) rfl
  | m :: ms,acc,S,H,R,h=>jD e1 e2 R h fun F x H1 da S1 e1 e2 R1 s1 p1 h1=>by
    cases p1 with
    | str y=>
      dsimp only at h1
      by_cases hz:(acc ++ y).length≤sizeLine
      · rw [if_pos hz] at h1
        exact ⟨y,rfl,hz,jjf e1 e2 ms (acc ++ y) S1 H1 R1 h1⟩
      · rw [if_neg hz] at h1; exact h1.elim
    | _=>exact False.elim h1
theorem JY:PJ X [] (([]:List ME).map fun m=>tE cm X.K W m):= .nil
theorem jj {m:ME} {ms:List ME} (h:PE X e (tE cm X.K W m)) (r:PJ X es (ms.map fun m=>tE cm X.K W m)):PJ X (e :: es) ((m :: ms).map fun m=>tE cm X.K W m):= .cons h r
theorem Je {v1 v2:Expr} {ms:List ME} (h:PJ X (v1 :: v2 :: es) (ms.map fun m=>tE cm X.K W m)):PE X (.JoinedStr (v1 :: v2 :: es) pos) (tE cm X.K W (vH ms)):=
  PE.weak (pe_joined h) fun σ H Q ⟨F,S,e1,e2,R,h⟩=>jjf e1 e2 ms Str.empty S H R (by
    have h':out F W σ (vis F S σ H) (rE cm X.K) Q ((jd1 ms Str.empty S).bind fun x S1=> .ok (.str x) S1):=h
    cases hj:jd1 ms Str.empty S with
    | bad=>rw [hj] at h'; exact h'
    | exc c fs S1=>rw [hj] at h'; exact h'
    | ok z S1=>
      rw [hj,Rs.bind_ok] at h'
      intro F' y H1 R1 s1 ey t
      have ey':y=z:=ey
      subst ey'
      exact h' _ H1 R1 s1 (.str y) t)
end
end Mir
namespace Mir
open PySem PySem.Spec PyProof.Rows L2
def jmB (Fn:List FA→RF) (ds:List Dat):Option Dat:=match Fn (ds.map .dat) with
  | .ok d []=>some d
  | _=>none
section
variable {X:Cx} {cm:CM} {W:WX} {k:Nat} {f:Addr} {fd:FuncData} {ps:List Str} {Fn:List FA→RF} {gV:List V→List V→List V} {pins:List (Addr×Obj)} {σ:L2.St} {H:Hp} {s:Shared}
def tyN:Dat→Option String
  | .non=>some "NoneType"
  | .bl _=>some "bool"
  | .int _=>some "int"
  | .str _=>some "str"
  | .lst _=>some "list"
  | .tup _=>some "tuple"
  | .dic _=>some "dict"
  | _=>none
def jkw (cs:List Str):Dat→Bool
  | .ins c _=>cs.contains c
  | d=>(tyN d).isSome
def eqO (c:Str) (cs:List Str) (Fn:List FA→RF) (a b:Dat):Option Dat:=match a with
  | .ins c' fs=>if c'=c∧jkw cs b=true then (match jmB Fn [.ins c' fs,b] with
    | some (.bl t)=>some (.bl t)
    | _=>none) else none
  | a=>eqD a b
structure EqF (K:PySem.W.Frag) (C f:Addr):Prop where
  eq:PySem.W.findIn K (.ref C) "__eq__" =some (some (.ref f))
  fn:PySem.W.isFn K (.ref f)=true
  ne:PySem.W.findIn K (.ref C) "__ne__" =some (some (.builtin "object.__ne__"))
  mo:PySem.W.mroIn K C (.type "object")=some true
end
end Mir
namespace Mir
open PySem PySem.Spec PyProof.Rows L2
def wd (i:Nat) (S:Sg):Option (List Dat):=match S[i]? with
  | some (.loc ds)=>some ds
  | some (.own _ (.lst ds))=>some ds
  | _=>none
def scal:Dat→Bool
  | .non=>true
  | .bl _=>true
  | .int _=>true
  | .str _=>true
  | _=>false
def Hd.wo (M:Hd) (l:Addr):Hd:=⟨M.as.filter (fun a=>decide (a ≠ l)),M.ρ⟩
theorem Hd.mem_wo {M:Hd} {l a:Addr}:a ∈ M.wo l ↔ a ∈ M∧a ≠ l:=by
  show a ∈ M.as.filter (fun a=>decide (a ≠ l)) ↔ a ∈ M.as∧a ≠ l
  rw [List.mem_filter]
  simp
theorem Rel.peek {F:Fm} {S:Sg} {σ:L2.St} {H:Hp} {i:Nat} (R:Rel F S σ H) (h:vG i S=true):∃ l ds vs M,σ[i]? =some (some (.ref l))∧wd i S=some ds∧H l=some (.lst vs)∧RpAll F.cm F.K (vis F S σ H) vs ds∧Mir.live M H∧Same (vis F S σ H) (hid M H)∧Rp F.cm F.K (hid M H) (.ref l) (.lst ds):=by
  obtain ⟨l,vs,ds,hl,eh,r,hs⟩:=jcj R h
  have la:wd i S=some ds:=by
    unfold wd
    rcases hs with hs | ⟨j,hs,_⟩ <;> rw [hs]
  have sm:Same (vis F S σ H) (hid ((F.M ++ jP S σ).wo l) H):=ya (fun a ha=>(Hd.mem_wo.mp ha).1) rfl
  refine ⟨l,ds,vs,(F.M ++ jP S σ).wo l,hl,la,eh,r,⟨fun m hm=>R.hlv (Hd.mem_wo.mp hm).1⟩,sm,.lst ?_ (RpAll.mono sm r)⟩
  rw [vQ fun z=>(Hd.mem_wo.mp z).2 rfl]
  exact eh
section
variable {X:Cx} {cm:CM} {W:WX} {a b e o:Expr} {es:List Expr} {ma mb:ME} {mr mk:MAv} {mrA:MA} {pos p:Pos} {kwl:List Keyword} {k n m:Nat} {f:Addr} {fd:FuncData} {ps ks:List Str} {Fn:List FA→RF} {x c nm:Str} {gV gW:List V→List V→List V} {arr:List AV→List AV→List AV}
def jkc (i:Nat) (mi:ME):ME:=fun S=>if vG i S=true then (mi S).bind fun k S1=>(match wd i S1 with
  | some ds=>Rs.of (ixD (.lst ds) k) S1
  | none=> .bad) else m2 ixD (jh i) mi S
theorem jgO {F:Fm} {S:Sg} {σ:L2.St} {H:Hp} {β:Type} {R':Rep β Dat} {i:Nat} {k:Dat→Sg→Rs Dat} {Q:β→Hp→Prop} (e1:F.cm=cm) (e2:F.K=X.K) (R:Rel F S σ H) (h:out F W σ (vis F S σ H) R' Q ((jh i S).bind k)) {Q':VK} (q:∀ (F1:Fm) x H1 d S1,F1.cm=cm→F1.K=X.K→Rel F1 S1 σ H1→Same (vis F S σ H) (vis F1 S1 σ H1)→Rp cm X.K (vis F1 S1 σ H1) x d→out F1 W σ (vis F1 S1 σ H1) R' Q (k d S1)→Q' x H1):tVar i σ H Q':=by
  have key:=jD (m:=jh i) (R:=rE cm X.K) e1 e2 R h q
  obtain ⟨F',S',a1,a2,a3,a4⟩:=key
  unfold jh at a4
  cases hs:S'[i]? with
  | none=>rw [hs] at a4; exact a4.elim
  | some s=>
    rw [hs] at a4
    have hl:i < σ.length:=by rw [← a3.len]; exact (List.getElem?_eq_some_iff.mp hs).1
    have hv:σ[i]? =some σ[i]:=List.getElem?_eq_getElem hl
    have sl:=a3.sl i s _ hs hv
    generalize σ[i]=w at hv sl
    cases s with
    | no=>exact a4.elim
    | own j u=>exact a4.elim
    | exn c fs=>exact a4.elim
    | heap T=>exact a4.elim
    | dat d=>
      cases sl with
      | dat r=>exact ⟨_,hv,a4 _ H a3 (.refl _) (by rw [← a1,← a2]; exact r)⟩
    | loc ds=>
      obtain ⟨v,hv',q1,q2,q3⟩:∃ v,σ[i]? =some (some v)∧Rel F' (S'.set i (.dat (.lst ds))) σ H∧Same (vis F' S' σ H) (vis F' (S'.set i (.dat (.lst ds))) σ H)∧Rp F'.cm F'.K (vis F' (S'.set i (.dat (.lst ds))) σ H) v (.lst ds):=by
        cases sl with
        | loc eh r=>
          obtain ⟨z1,z2,z3⟩:=a3.freeze hs hv
          exact ⟨_,hv,z1,z2,z3⟩
      exact ⟨v,hv',a4 _ H q1 q2 (by rw [← a1,← a2]; exact q3)⟩
theorem jfZ {i:Nat} (ho:PE X o (tVar i)) (hi:PE X e (tE cm X.K W ma)) (hm:PlainIx e):PE X (.Subscript o e pos) (tE cm X.K W (jkc i ma)):=
  PE.weak (pe_ix (ix_list.or jnI) ho hi hm) fun σ H Q ⟨F,S,e1,e2,R,h⟩=>by
    unfold jkc at h
    by_cases hz:vG i S=true
    · rw [if_pos hz] at h
      obtain ⟨l,ds,vs,M,hl,la,eh,r,_⟩:=R.peek hz
      refine ⟨_,hl,jD e1 e2 R h fun F y H1 k S1 e1 e2 R1 s1 p1 h1=>?_⟩
      cases hd:wd i S1 with
      | none=>rw [hd] at h1; exact h1.elim
      | some ds1=>
        rw [hd] at h1
        have hz1:vG i S1=true:=by
          unfold wd at hd
          unfold vG
          cases hs:S1[i]? with
          | none=>rw [hs] at hd; cases hd
          | some s=>
            rw [hs] at hd
            cases s with
            | loc _=>rfl
            | own j u=>cases u with
              | lst _=>rfl
              | obj _ _=>cases hd
              | dic _=>cases hd
              | dit _=>cases hd
              | gone _=>cases hd
              | tab _ _=>cases hd
            | _=>cases hd
        obtain ⟨l',ds',vs',M',hl',la',eh',r',_⟩:=R1.peek hz1
        rw [hl] at hl'; cases hl'
        rw [hd] at la'; cases la'
        obtain ⟨d,hx,hq⟩:=yR R1 h1
        cases k with
        | int j=>
          cases p1
          obtain ⟨v,w1,w2⟩:=jjE r' (show atI ds1 j=some d from hx)
          exact .inl ⟨l,vs',j,v,rfl,rfl,SqL.of eh',w1,hq v H1 (.refl _) (by rw [← e1,← e2]; exact w2)⟩
        | _=>cases hx
    · rw [if_neg hz] at h
      exact jgO e1 e2 R h fun F x H1 d S1 e1 e2 R1 s1 p1 h1=>jD e1 e2 R1 h1 fun F y H2 db S2 e1 e2 R2 s2 p2 h2=>by
        obtain ⟨c,e,q⟩:=yR R2 h2
        exact .inr ⟨_,d,db,c,R2.live,p1.mono s2,p2,e,q⟩
def joh (g:Dat→Dat→Option Dat) (i:Nat) (mb:ME):ME:=fun S=>if vG i S=true then (mb S).bind fun b S1=>(match wd i S1 with
  | some ds=>(match g (.lst ds) b with
    | some d=>if scal d=true then .ok d S1 else .bad
    | none=> .bad)
  | none=> .bad) else m2 g (jh i) mb S
theorem jgK {i:Nat} {S:Sg} {ds:List Dat} (hd:wd i S=some ds):vG i S=true:=by
  unfold wd at hd
  unfold vG
  cases hs:S[i]? with
  | none=>rw [hs] at hd; cases hd
  | some s=>
    rw [hs] at hd
    cases s with
    | loc _=>rfl
    | own j u=>cases u with
      | lst _=>rfl
      | obj _ _=>cases hd
      | dic _=>cases hd
      | dit _=>cases hd
      | gone _=>cases hd
      | tab _ _=>cases hd
    | _=>cases hd
end
end Mir
namespace Mir
open PySem PySem.Spec PyProof.Rows L2
def jkb (F:Fm) (W:WX) (σ:L2.St) (G:VH) (Q:VK):Rs (List Dat)→Prop
  | .ok ds S=> ∀ ⦃F':Fm⦄ l xs H,Rel F' S σ H→Same G (vis F' S σ H)→H l=none→RpAll F'.cm F'.K (vis F' S σ H) xs ds→(_:F.to F':=by exact Fm.rf _)→Q (.ref l) (upd H l (.lst xs))
  | .exc c fs S=>jkg F W σ G c fs S
  | .bad=>False
def tL (cm:CM) (K:PySem.W.Frag) (W:WX) (m:Sg→Rs (List Dat)):TE:=fun σ H Q=> ∃ F S,F.cm=cm∧F.K=K∧Rel F S σ H∧jkb F W σ (vis F S σ H) Q (m S)
theorem ji9 {F:Fm} {W:WX} {σ:L2.St} {G G':VH} {Q:VK} {r:Rs (List Dat)} (e:Same G G') (h:jkb F W σ G Q r):jkb F W σ G' Q r:=by
  cases r with
  | ok a S=>exact fun _ l xs H a b c d t=>h l xs H a (e.trans b) c d t
  | exc c fs S=>exact jcm e h
  | bad=>exact h
theorem jk5 {F F1:Fm} {W:WX} {σ:L2.St} {G:VH} {Q:VK} {r:Rs (List Dat)} (e:F.to F1) (h:jkb F W σ G Q r):jkb F1 W σ G Q r:=by
  cases r with
  | ok a S=>exact fun _ l xs H a b c d t=>h l xs H a b c d (e.trans t)
  | exc c fs S=>exact jfr e h
  | bad=>exact h
theorem jff {β α:Type} {cm:CM} {K:PySem.W.Frag} {W:WX} {R:Rep β α} {m:Sg→Rs α} {k:α→Sg→Rs (List Dat)} {σ:L2.St} {H:Hp} {Q:VK} {Q':β→Hp→Prop} {F:Fm} {S:Sg}
    (e1:F.cm=cm) (e2:F.K=K) (r:Rel F S σ H) (h:jkb F W σ (vis F S σ H) Q ((m S).bind k))
    (q:∀ (F1:Fm) x H1 a S1,F1.cm=cm→F1.K=K→Rel F1 S1 σ H1→Same (vis F S σ H) (vis F1 S1 σ H1)→R σ (vis F1 S1 σ H1) x a→jkb F1 W σ (vis F1 S1 σ H1) Q (k a S1)→Q' x H1):tG cm K W R m σ H Q':=by
  refine ⟨F,S,e1,e2,r,?_⟩
  cases hm:m S with
  | ok a S1=>rw [hm] at h; exact fun F1 v H1 a1 a2 a3 t=>q F1 v H1 a S1 (t.cm.trans e1) (t.K.trans e2) a1 a2 a3 (jk5 t (ji9 a2 h))
  | exc c fs S1=>rw [hm] at h; exact h
  | bad=>rw [hm] at h; exact h
section
variable {X:Cx} {cm:CM} {W:WX} {a b e o:Expr} {es:List Expr} {ma mb:ME} {mr mk:MAv} {mrA:MA} {mL:Sg→Rs (List Dat)} {pos p:Pos} {k n m:Nat} {f:Addr} {fd:FuncData} {ps ks:List Str} {Fn:List FA→RF} {x c nm:Str} {gV gW:List V→List V→List V} {arr:List AV→List AV→List AV}
def jkn (m:MA):Sg→Rs (List Dat):=fun S=>(m S).bind fun ds S1=>if ds.length≤lim then .ok ds S1 else .bad
theorem jg1 (ha:PA X es (tA cm X.K W mrA)):PE X (.List es pos) (tL cm X.K W (jkn mrA)):=
  PE.weak (pe_lst ha) fun σ H Q ⟨F,S,e1,e2,R,h⟩=>jff e1 e2 R h fun F xs H1 ds S1 e1 e2 R1 s1 p1 h1=>by
    by_cases hl:ds.length≤lim
    · rw [if_pos hl] at h1
      exact ⟨by rw [RpAll.length p1]; exact wm hl,fun q hq=>h1 q xs H1 R1 (.refl _) hq (by rw [e1,e2]; exact p1)⟩
    · rw [if_neg hl] at h1; exact h1.elim
def jnv (m:ME):Sg→Rs (List Dat):=fun S=>(m S).bind fun d S1=>match d with
  | .lst ds=> .ok ds S1
  | .tup ds=> .ok ds S1
  | .ro ds=> .ok ds S1
  | _=> .bad
def jdt (i:Nat) (mL:Sg→Rs (List Dat)):MS:=fun S=>(mL S).bind fun ds S1=> .ok .nx (S1.set i (.loc ds))
theorem jb1 {i:Nat} {pos':Pos} (hN:X.N.Nodup) (hi:X.N[i]? =some x) (hx:L2.Loc X.env.scope x) (he:PE X e (tL cm X.K W mL)) (hs:swapsWith e (some (.Name x pos')) pos.line X.env=pure false:=by rfl)
    (hf:X.fn x=true∨X.env.scope.names.lookup x=some .local:=by first | exact .inl rfl | exact .inr rfl | assumption):PS X (.Assign [.Name x pos'] e pos) (tS cm X.K W (jdt i mL)):=
  PS.weak (ps_set hN hi hx he hs hf) fun D σ H ⟨F,S,e1,e2,R,h⟩=>by
    refine ⟨F,S,e1,e2,R,?_⟩
    unfold jdt at h
    cases hm:mL S with
    | bad=>rw [hm] at h; exact h
    | exc c fs S1=>rw [hm] at h; exact h σ
    | ok ds S1=>
      rw [hm] at h
      intro F' l xs H1 R1 s1 hl rx t
      obtain ⟨R',s'⟩:=R1.newLoc (i:=i) (ds:=ds) hl rx
      exact h _ _ R' (s1.trans s') t
def jlP (F:Fm) (W:WX) (G:VH) (D:Ends):Rs (List Dat)→Prop
  | .ok ds S=> ∀ ⦃F':Fm⦄ l xs σ H,Rel F' S σ H→Same G (vis F' S σ H)→H l=none→RpAll F'.cm F'.K (vis F' S σ H) xs ds→(_:F.to F':=by exact Fm.rf _)→D.rt (.ref l) (upd H l (.lst xs))
  | _=>False
def tSL (cm:CM) (K:PySem.W.Frag) (W:WX) (m:Sg→Rs (List Dat)):TS:=fun D σ H=> ∃ F S,F.cm=cm∧F.K=K∧Rel F S σ H∧jlP F W (vis F S σ H) D (m S)
theorem jkU (he:PE X e (tL cm X.K W mL)):PS X (.Return (some e) pos) (tSL cm X.K W mL):=
  PS.weak (ps_ret he) fun D σ H ⟨F,S,e1,e2,R,h⟩=>by
    refine ⟨F,S,e1,e2,R,?_⟩
    cases hm:mL S with
    | bad=>rw [hm] at h; exact h
    | exc c fs S1=>rw [hm] at h; exact False.elim h
    | ok ds S1=>
      rw [hm] at h
      exact fun _ l xs H1 R1 s1 hl rx t=>h l xs σ H1 R1 s1 hl rx t
def jhM (s:MS) (m:Sg→Rs (List Dat)):Sg→Rs (List Dat):=fun S=>match s S with
  | .ok .nx S1=>m S1
  | _=> .bad
theorem jk6 {st:Stmt} (h:PS X st (tSL cm X.K W mL)):PSs X [st] (tSL cm X.K W mL):=pss_one h
theorem jgz {st:Stmt} {sts:List Stmt} {s1:MS} (h1:PS X st (tS cm X.K W s1)) (h2:PSs X sts (tSL cm X.K W mL)):PSs X (st :: sts) (tSL cm X.K W (jhM s1 mL)):=
  PSs.weak (pss_cons h1 h2) fun D σ H ⟨F,S,e1,e2,R,h⟩=>⟨F,S,e1,e2,R,by
    unfold jhM at h
    cases hm:s1 S with
    | bad=>rw [hm] at h; exact h.elim
    | exc c fs S1=>rw [hm] at h; exact h.elim
    | ok f S1=>
      rw [hm] at h
      cases f with
      | nx=>exact fun F' σ' H' R' s' t=>⟨F',S1,t.cm.trans e1,t.K.trans e2,R',by
          have h:jlP F W (vis F S σ H) D (mL S1):=h
          cases hm2:mL S1 with
          | bad=>rw [hm2] at h; exact h.elim
          | exc c fs S2=>rw [hm2] at h; exact h.elim
          | ok ds S2=>rw [hm2] at h; exact fun _ l xs σ2 H2 R2 s2 y z t2=>h l xs σ2 H2 R2 (s'.trans s2) y z (t.trans t2)⟩
      | _=>exact h.elim⟩
def spL (cm:CM) (K:PySem.W.Frag) (L:List Dat→Option (List Dat)):Sp:=fun vs H Q E=> ∃ M as ds,live M H∧RpAll cm K (hid M H) vs as∧L as=some ds∧∀ l xs H1,L2.Same H H1→H1 l=none→RpAll cm K (hid M H1) xs ds→Q (.ref l) (upd H1 l (.lst xs))
def jlz (np n:Nat) (m:Sg→Rs (List Dat)) (as:List Dat):Option (List Dat):=if as.length=np then (match m (as.map vW.dat ++ List.replicate (n - np) .no) with
  | .ok ds _=>some ds
  | _=>none) else none
end
theorem jcR:∀ (j:Nat) (as:List Dat),Ja j (as.map FA.dat)=as.map vW.dat
  | _,[]=>rfl
  | j,d :: r=>congrArg (vW.dat d :: ·) (jcR j r)
section
variable {P:Program} {w:World} {K:PySem.W.Frag} {mg:Str→Option Value} {base:Heap} {cm:CM}
theorem ji6 {M:Hd} {as:List Dat} {vs:List V} {H:Hp} {N:List Str} {n np:Nat} (hn:N.length=n) (hla:as.length=np) (lv:live M H) (ao:RpAll cm K (hid M H) vs as):Rel (Fm.at cm K M H []) (as.map vW.dat ++ List.replicate (n - np) .no) (L2.start N vs) H:=by
  have lc:∀ σ:L2.St,jP (as.map vW.dat ++ List.replicate (n - np) .no) σ= []:=jaP fun s hs=>by
    rcases List.mem_append.mp hs with h | h
    · obtain ⟨d,_,rfl⟩:=List.mem_map.mp h; rfl
    · rw [(List.mem_replicate.mp h).2]; rfl
  have eV:vis (Fm.at cm K M H []) (as.map vW.dat ++ List.replicate (n - np) .no) (L2.start N vs) H=hid M H:=by
    unfold vis; rw [lc,Hd.app_nil]
  have hlv:=RpAll.length ao
  refine ⟨?_,fun i s v a b=>?_,?_,fun l h=>?_,?_,List.nodup_nil,fun l h=>(by cases h),lv.v,fun l h=>?_,fun p h=>(by cases h),fun a o q _=>q,jhc.start lv (by rw [← jcR 0 as]; exact jfo 0 _)⟩
  · unfold L2.start
    rw [List.length_append,List.length_append,List.length_map,List.length_map,List.length_replicate,List.length_replicate,hn,hlv,hla]
  · rw [eV]
    unfold L2.start at b
    by_cases hi:i < as.length
    · have hi':i < vs.length:=by rw [hlv]; exact hi
      rw [List.getElem?_append_left (by rw [List.length_map]; exact hi),List.getElem?_map,List.getElem?_eq_getElem hi] at a
      rw [List.getElem?_append_left (by rw [List.length_map]; exact hi'),List.getElem?_map,List.getElem?_eq_getElem hi'] at b
      cases a
      cases b
      obtain ⟨v',z1,z2⟩:=RpAll.get ao (List.getElem?_eq_getElem hi)
      rw [List.getElem?_eq_getElem hi'] at z1
      cases z1
      exact .dat z2
    · rw [List.getElem?_append_right (by rw [List.length_map]; omega),List.getElem?_replicate] at a
      split at a
      · cases a; exact .no
      · cases a
  · rw [lc]; exact List.nodup_nil
  · rw [lc] at h; cases h
  · rw [jbY,jgu,List.append_nil]
    have:=jbh 0 (as.map FA.dat)
    rw [jcR] at this
    exact this
  · rw [lc] at h; cases h
theorem jmy {x qual:Str} {params:Arguments} {body:List Stmt} {scope:Scope} {dvs:List V} {kws:List (Str×V)} {f:Addr} {fd:FuncData} {N ps:List Str} {k n np:Nat} {m:Sg→Rs (List Dat)} (F:FunD K x qual params body scope dvs kws f fd) (S:FnScope N ps scope) (hn:N.length=n) (hp:ps.length=np)
    (hbody:∀ (cdv:Value) (A:Around) (outer:List Env) (s:Shared) (H:Hp) (E:XK),Room k (A.deeper (envOfC qual scope s.heap.objs.size f cdv))→(A.deeper (envOfC qual scope s.heap.objs.size f cdv)).guards=some []→
      PSs (cxOf (L2.CX P w) P w K mg base N qual scope f cdv A outer s H E) body (tSL cm K (fun cls d _ H'=>E cls d H') m)):FnG P w K mg base (L2.CX P w) (k + 1) f fd ps (spL cm K (jlz np n m)):=by
  have len:∀ vs H Q E,spL cm K (jlz np n m) vs H Q E→vs.length=ps.length:=fun vs H Q E ⟨M,as,ds,_,a,o,_⟩=>by
    unfold jlz at o
    by_cases hl:as.length=np
    · rw [RpAll.length a,hl,hp]
    · rw [if_neg hl] at o; cases o
  obtain ⟨oc,od,dV,kV,doc,pm,an,cdv,ct,osl,rfl,lk,hcd,_,_⟩:=F.ex
  refine ⟨len,fun A outer s H args us vs Q E hr hg e0 hb r hsp=>?_⟩
  have hl:=len _ _ _ _ hsp
  have KX:K.In s.heap:=e0.mod.kin.keeps fun b o e=>(e0.bs b o e).1
  have lim0:s.heap.NoLimit:=e0.mod.nolimit.keeps fun b o e=>(e0.bs b o e).1
  refine codeAny_call_function hr.depth (KX _ _ lk) rfl S.co S.gen rfl (PySem.W.codeRec_of KX hcd) (hb _ _ _ _ (wpAny_newFunctionEnv_cells S.kind (fun ⟨nm,v⟩ hy=>?_) fun env he s1 y=>?_))
  · rcases S.par nm (List.of_mem_zip hy).1 with q | q
    · exact Or.inl q
    · exact Or.inr ⟨q,PySem.W.cellsFrom_some _ _ _ (Or.inl q)⟩
  · subst he
    refine ⟨lim0.keeps y.toInCall.keep,codeAny_func ?_⟩
    have I:L2.Inv (cxOf (L2.CX P w) P w K mg base N qual scope f cdv A outer s H E) [] (L2.start N vs) H s1:=inv_start S hr.hd e0 hl r y
    have ht:=hbody cdv A outer s H E (hr.deeper _) (Yn hg)
    obtain ⟨M,as,ds,lv,ao,hL,hq⟩:=hsp
    have hla:as.length=np:=by rw [← RpAll.length ao,hl,hp]
    unfold jlz at hL
    rw [if_pos hla] at hL
    have ha:tSL cm K (fun cls d _ H'=>E cls d H') m { nx:=fun _ H'=>Q .non H',rt:=Q } (L2.start N vs) H:=by
      refine ⟨Fm.at cm K M H [],_,rfl,rfl,ji6 hn hla lv ao,?_⟩
      cases hm:m (as.map vW.dat ++ List.replicate (n - np) .no) with
      | bad=>rw [hm] at hL; cases hL
      | exc c fs S'=>rw [hm] at hL; cases hL
      | ok ds' S'=>
        rw [hm] at hL
        cases hL
        intro F' l xs σ1 H1 R1 s1 hl rx t
        obtain rfl:=t.pure rfl
        exact hq l xs H1 (fun a o q=>R1.keep a o q (by simp)) hl (RpAll.mono (ya fun a h=>Hd.mem_left _ h) rx)
    refine wpAny_mono (ht.run [] s1 (L2.start N vs) H _ I ha) (fun fl s' hs=>?_) fun e s' hs=>hs
    cases fl with
    | ret u=>obtain ⟨v,σ',H',J,rv,q⟩:=hs; exact ⟨v,H',J.os,J.bare,J.base,J.hok,rv,q⟩
    | next=>obtain ⟨σ',H',J,q⟩:=hs; exact ⟨V.non,H',J.os,J.bare,J.base,J.hok,(rfl:Value.none=Value.none),q⟩
    | brk=>obtain ⟨_,_,_,q⟩:=hs; exact q.elim
    | cont=>obtain ⟨_,_,_,q⟩:=hs; exact q.elim
end
def jdN:List AV→Option (List Dat)
  | []=>some []
  | .dat d :: r=>(jdN r).map (d :: ·)
  | _=>none
theorem jfz {cm:CM} {K:PySem.W.Frag} {σ:L2.St} {G:VH}:∀ {vs:List V} {as:List AV} {ds:List Dat},jo cm K σ G vs as→jdN as=some ds→RpAll cm K G vs ds
  | _,_,_,.nil,h=>by cases h; exact .nil
  | _,_,_,.dat (as:=as) a b,h=>by
    unfold jdN at h
    cases hd:jdN as with
    | none=>rw [hd] at h; cases h
    | some r=>rw [hd] at h; cases h; exact .cons a (jfz b hd)
  | _,_,_,.slot a b,h=>by cases h
section
variable {X:Cx} {cm:CM} {W:WX} {a b e o:Expr} {es:List Expr} {ma mb:ME} {mr mk:MAv} {mrA:MA} {mL:Sg→Rs (List Dat)} {pos p:Pos} {k n m:Nat} {f:Addr} {fd:FuncData} {ps ks:List Str} {Fn:List FA→RF} {L:List Dat→Option (List Dat)} {x c nm:Str} {gV gW:List V→List V→List V} {arr:List AV→List AV→List AV}
def jjU (L:List Dat→Option (List Dat)) (n:Nat) (mr:MAv):Sg→Rs (List Dat):=fun S=>(mr S).bind fun as S1=>if as.length=n then (match jdN as with
  | some ds=>Rs.of (L ds) S1
  | none=> .bad) else .bad
theorem jkv (Fk:FnG X.prog X.w X.K X.mg X.base (L2.CX X.prog X.w) k f fd ps (spL cm X.K L)) (hr:Room k X.A) (hgd:X.A.guards=some []) (tk:Takes X W) (hg:Gl X x) (hm:X.mg x=some (.ref f)) (hk:PySem.W.keepIn X.K (.ref f)=true) (hb:∃ g,KBn X.K fd ps n [] g (fun vs _=>vs))
    (ha:PA X (e :: es) (tAv cm X.K W mr)) (hdb:(x == ("__debug__" :Str))=false:=by decide) (he:starEach (e :: es) X.env=(false,eval e X.env) :: starEach es X.env:=by rfl) (hpl:(backTo pos (starEach es X.env)).any (·.1)=false:=by rfl) :
    PE X (.Call (.Name x p) (e :: es) [] pos) (tL cm X.K W (jjU L n mr)):=by
  obtain ⟨g,hb⟩:=hb
  refine ⟨fun pins s σ H Q I ⟨F,S,e1,e2,R,h⟩=>wpAny_Call_Name_kw (ld_glob I hg hm (PySem.W.callWith_K (h₀:=X.base) I.ok.mod.kin hk (thn (ha.run pos pins s σ H (fun vs H1=> ∃ F:Fm,∃ as S1 ds es,F.cm=cm∧F.K=X.K∧Rel F S1 σ H1∧as.length=n∧jo cm X.K σ (vis F S1 σ H1) vs as∧jdN as=some ds∧L ds=some es∧jkb F W σ (vis F S1 σ H1) Q (.ok es S1)) I
      (jff e1 e2 R h fun F vs H1 as S1 e1 e2 R1 s1 p1 h1=>?_)) fun us s1 ⟨vs,H1,I1,r,F,as,S1,ds,es',e1,e2,R1,hl,p1,hd,hL,h1⟩=>⟨I1.kIn,?_⟩) he hpl) hdb)⟩
  · by_cases hz:as.length=n
    · rw [if_pos hz] at h1
      cases hd:jdN as with
      | none=>rw [hd] at h1; exact h1.elim
      | some ds=>
        rw [hd] at h1
        dsimp only at h1
        cases hL:L ds with
        | none=>rw [hL] at h1; exact h1.elim
        | some es'=>rw [hL] at h1; exact ⟨F,as,S1,ds,es',e1,e2,R1,hz,p1,hd,hL,h1⟩
    · rw [if_neg hz] at h1; exact h1.elim
  · have lv:vs.length=n:=by rw [jo.length p1]; exact hl
    refine jkO (us:=us) (kw:=[]) Fk hr hgd tk I1 (hb.to s1 us [] I1.kIn (by rw [← r.length]; exact lv) rfl) (hb.rel r .nil) ⟨F.M ++ jP S1 σ,ds,es',R1.live,jfz p1 hd,hL,fun l xs H2 s2 hl2 rx=>?_⟩
    exact h1 l xs H2 (R1.grow s2) (vx s2) hl2 (by rw [e1,e2]; exact rx)
def jh9 (Fn:List FA→RF) (mL:Sg→Rs (List Dat)):ME:=fun S=>(mL S).bind fun ds S1=>match Fn [.own (.lst ds)] with
  | .ok d [_]=> .ok d S1
  | .exc c es [_]=> .exc c es S1
  | _=> .bad
theorem jk1 (Fk:FnG X.prog X.w X.K X.mg X.base (L2.CX X.prog X.w) k f fd ps (spF cm X.K Fn)) (hr:Room k X.A) (hgd:X.A.guards=some []) (tk:Takes X W) (hg:Gl X x) (hm:X.mg x=some (.ref f)) (hk:PySem.W.keepIn X.K (.ref f)=true) (hb:∃ g,KBn X.K fd ps 1 [] g (fun vs _=>vs))
    (ha:PE X e (tL cm X.K W mL)) (hdb:(x == ("__debug__" :Str))=false:=by decide) (he:starEach [e] X.env=(false,eval e X.env) :: starEach [] X.env:=by rfl) (hpl:(backTo pos (starEach [] X.env)).any (·.1)=false:=by rfl) :
    PE X (.Call (.Name x p) [e] [] pos) (tE cm X.K W (jh9 Fn mL)):=by
  obtain ⟨g,hb⟩:=hb
  refine ⟨fun pins s σ H Q I ⟨F,S,e1,e2,R,h⟩=>wpAny_Call_Name_kw (ld_glob I hg hm (PySem.W.callWith_K (h₀:=X.base) I.ok.mod.kin hk (thn ((pa_cons ha pa_nil he).run pos pins s σ H (fun vs H1=> ∃ F:Fm,∃ l xs ds S1 H0,F.cm=cm∧F.K=X.K∧vs= [.ref l]∧H1=upd H0 l (.lst xs)∧H0 l=none∧Rel F S1 σ H0∧RpAll F.cm F.K (vis F S1 σ H0) xs ds∧out F W σ (vis F S1 σ H0) (rE cm X.K) Q (match Fn [.own (.lst ds)] with
      | .ok d [_]=> .ok d S1
      | .exc c es [_]=> .exc c es S1
      | _=> .bad)) I ?_) fun us s1 ⟨vs,H1,I1,r,F,l,xs,ds,S1,H0,e1,e2,ev,eH,hl,R1,p1,h1⟩=>⟨I1.kIn,?_⟩) he hpl) hdb)⟩
  · refine ⟨F,S,e1,e2,R,?_⟩
    unfold jh9 at h
    cases hm:mL S with
    | bad=>rw [hm] at h; exact h
    | exc c fs S1=>rw [hm] at h; exact h
    | ok ds S1=>
      rw [hm] at h
      intro F' l xs H1 R1 s1 hl rx t
      exact ⟨F',l,xs,ds,S1,H1,t.cm.trans e1,t.K.trans e2,rfl,rfl,hl,R1,rx,jjl t (jdH s1 h)⟩
  · subst ev
    subst eH
    have sn:L2.Same H0 (upd H0 l (.lst xs)):=jZ hl
    have lv:live ((F.M ++ jP S1 σ).cons l) (upd H0 l (.lst xs)):=⟨fun m hm=>by
      rcases Hd.mem_cons.mp hm with e | e
      · rw [e,upd_same]; exact trivial
      · exact (R1.hlv e).upd trivial⟩
    have gM:Same (vis F S1 σ H0) (hid ((F.M ++ jP S1 σ).cons l) (upd H0 l (.lst xs))):=jdS (fun a o ha q=>⟨fun z=>(Hd.mem_cons.mp z).elim (ne_of_none q hl) ha,sn a o q⟩) fun _ _ z=>z
    have keepH:∀ {H':Hp},(∀ a o,(upd H0 l (.lst xs)) a=some o→a ∉ [l]→H' a=some o)→L2.Same H0 H':=fun kp a o q=>kp a o (sn a o q) fun z=>ne_of_none q hl (List.mem_singleton.mp z)
    refine jkO (us:=us) (kw:=[]) Fk hr hgd tk I1 (hb.to s1 us [] I1.kIn (by rw [← r.length]; rfl) rfl) (hb.rel r .nil) ⟨(F.M ++ jP S1 σ).cons l,[.own (.lst ds)],[l],lv,fun y hy=>Hd.mem_cons.mpr (.inl (List.mem_singleton.mp hy)),List.nodup_cons.mpr ⟨by simp,List.nodup_nil⟩,.own (.lst upd_same (by rw [← e1,← e2]; exact RpAll.mono gM p1)) .nil,?_⟩
    cases hF:Fn [.own (.lst ds)] with
    | bad=>rw [hF] at h1; exact h1
    | ok d outs=>
      rw [hF] at h1
      intro v H' kp oo rv
      cases outs with
      | nil=>cases oo
      | cons o1 rr=>
        cases rr with
        | cons _ _=>exact h1.elim
        | nil=>
          have sm:=keepH kp
          exact h1 v H' (R1.grow sm) (vx sm) (rv.mono (ya fun a ha=>Hd.mem_cons.mpr (.inr ha)))
    | exc c' es' outs=>
      rw [hF] at h1
      intro da gs H' kp oo hda rg
      cases outs with
      | nil=>cases oo
      | cons o1 rr=>
        cases rr with
        | cons _ _=>exact h1.elim
        | nil=>
          have sm:=keepH kp
          have z:=h1 da gs H' (R1.grow sm) (vx sm) ((ya fun a ha=>Hd.mem_cons.mpr (.inr ha)).h _ _ hda) (by rw [e1,e2]; exact rg.mono (ya fun a ha=>Hd.mem_cons.mpr (.inr ha)))
          rw [e1] at z
          exact z
end
theorem jje {P:Program} {w:World} {K:PySem.W.Frag} {mg mb:Str→Option Value} {k:Nat} {fa a:Addr} {fd:FuncData} {x:Str} {sp:Sp} {s₁:Shared} {vs:List Value} {ns:List Int}
    (kin:K.In s₁.heap) (gns:s₁.heap.Ns mainGlobals mg) (bns:s₁.heap.Ns builtinsNs mb) (bfix:∀ y:Str,y ≠ "__name__" →mb y=bootBuiltins y) (nol:s₁.heap.NoLimit) (gen0:s₁.gens= #[])
    (at_:s₁.heap.get? a=some { cls:= .type "list",data:= .seq vs.toArray }) (hin:IntsAre vs ns) (short:ns.length≤sizeLine) (room:Room k callerA)
    (FF:∀ base:Heap,K.In base→base.Ns mainGlobals mg→FnG P w K mg base (L2.CX P w) k fa fd [x] sp) (bnd:∀ (s:Shared) (u:Value),BindsTo s fd ⟨[u],[]⟩ [(x,u)])
    (good:∀ H:Hp,Only H→SqL K H a (ns.map V.int)→sp [.ref a] H (fun v _=>v= .bl true) fun _ _ _=>False) :
    codeAny (model P w) callerA (.call (.ref fa) ⟨[.ref a],[]⟩) (fun r s'=>r= .ok (.ret (.bool true))∧OldK s₁.heap s'.heap∧s'.os=s₁.os∧AllBare s'.gens) s₁:=by
  have vi:=vals_ints hin
  have li:=hin.length
  have main:∀ H:Hp,Only H→SqL K H a (ns.map V.int)→HOk P w H s₁.heap→(∀ y,H y ≠ none→y=a)→(H a ≠ none→K.lookup a=none)→
      codeAny (model P w) callerA (.call (.ref fa) ⟨[.ref a],[]⟩) (fun r s'=>r= .ok (.ret (.bool true))∧OldK s₁.heap s'.heap∧s'.os=s₁.os∧AllBare s'.gens) s₁:=fun H only sq hok sole offK=>by
    have dictN:∀ {y:Addr} {o:Obj} {es:Array DictEntry} {ep:Nat},s₁.heap.get? y=some o→o.data= .dict es ep→H y=none:=fun {y o es ep} q1 q2=>by
      cases hq:H y with
      | none=>rfl
      | some u=>
        have hy:y=a:=sole y (by rw [hq]; simp)
        subst hy
        rw [at_] at q1
        cases q1
        cases (show Data.seq vs.toArray _=Data.dict es ep from q2)
    have nsH:∀ {y:Addr} {m:Str→Option Value},s₁.heap.Ns y m→(hidT s₁.heap H).Ns y m:=fun {y m} ⟨o,es,ep,q1,q2,q3⟩=>⟨o,es,ep,hidT_get q1 (dictN q1 q2),q2,q3⟩
    have kinH:K.In (hidT s₁.heap H):=fun y o q1=>hidT_get (kin y o q1) (by
      cases hq:H y with
      | none=>rfl
      | some u=>
        have hy:y=a:=sole y (by rw [hq]; simp)
        subst hy
        rw [offK (by rw [hq]; simp)] at q1
        cases q1)
    have modH:Mod K mg (hidT s₁.heap H):=⟨kinH,nsH gns,⟨mb,nsH bns,bfix⟩,let ⟨mc,z1,z2⟩:=nol; ⟨mc,nsH z1,z2⟩⟩
    have env:Env0 P w K mg (hidT s₁.heap H) callerA [] s₁ H:=⟨rfl,modH,fun y o q1=>of_hidT q1,Nat.le_of_eq (hidT_size _ _),trivial,fun y hy=>(by cases (show y ∈ ([]:List Addr) from hy)),hok,.of_eq gen0⟩
    refine codeAny_mono ((FF _ kinH (nsH gns)).run callerA [] s₁ H ⟨[.ref a],[]⟩ [.ref a] [.ref a] _ _ room rfl env (bnd s₁ (.ref a)) (.cons rfl .nil) (good H only sq)) fun r s' z=>?_
    rcases r with er | fl
    · obtain ⟨_,_,_,_,_,_,_,_,_,_,_,_,y⟩:=z
      exact y.elim
    · rcases fl with _ | _ | _ | u
      · exact False.elim z
      · exact False.elim z
      · exact False.elim z
      · obtain ⟨v,H',z1,z2,un,hok',z3,z4⟩:=z
        obtain rfl:v= .bl true:=z4
        obtain rfl:u=Value.bool true:=z3
        refine ⟨rfl,OldK.of_keep fun y o q1=>?_,z1,z2⟩
        cases hq:H y with
        | none=>exact un.keep y o q1 hq (fun z=>by cases (show y ∈ ([]:List Addr) from z)) (by simp)
        | some u=>
          rcases only y with q2 | ⟨ob,xs,q2⟩
          · rw [hq] at q2; cases q2
          · obtain ⟨w1,_⟩:=hok y _ q2
            obtain ⟨w2,_⟩:=hok' y _ (un.frzs y ob _ q2)
            rw [q1] at w1
            cases w1
            exact w2
  cases look:K.lookup a with
  | some o=>
    have q1:=kin a o look
    rw [at_] at q1
    cases q1
    refine main (fun _=>none) (fun _=> .inl rfl) (.inr ⟨_,vs.toArray,_,look,rfl,rfl,rfl,by rw [List.size_toArray,li]; exact short,by simpa using vi⟩) (fun y u q=>by cases (show (none:Option HO)=some u from q)) (fun y q=>absurd rfl q) fun q=>absurd rfl q
  | none=>
    refine main (fun y=>if y=a then some (.frz { cls:= .type "list",data:= .seq vs.toArray } (.lst (ns.map V.int))) else none) (fun y=>?_) (.inl (.inr ⟨{ cls:= .type "list",data:= .seq vs.toArray },if_pos rfl⟩)) (fun y u q=>?_) (fun y q=>?_) fun _=>look
    · by_cases hy:y=a
      · exact .inr ⟨_,_,if_pos hy⟩
      · exact .inl (if_neg hy)
    · by_cases hy:y=a
      · cases (if_pos hy).symm.trans q
        subst hy
        exact ⟨at_,by rw [List.length_map]; exact short,vs,_,vi,at_⟩
      · cases (if_neg hy).symm.trans q
    · by_cases hy:y=a
      · exact hy
      · exact absurd (if_neg hy) q
theorem jiQ {cm:CM} {K:PySem.W.Frag} {G:VH}:∀ ns:List Int,RpAll cm K G (ns.map V.int) (ns.map Dat.int)
  | []=> .nil
  | n :: r=> .cons (.int n) (jiQ r)
end Mir
namespace Mir
open PySem PySem.Spec PyProof.Rows L2
inductive Tr where
  | b (T:String)
  | c (x:Str)
def Tr.v (K:PySem.W.Frag):Tr→Value
  | .b T=> .type T
  | .c x=> .ref (He.ga K x)
inductive Ad where
  | glo (x:Str)
  | mth (x m:Str)
  | get (x m:Str)
  | cmt (x m:Str)
def pAd (K:PySem.W.Frag) (x m:Str):Addr:=He.ma K (He.ga K x) m
def gAd (K:PySem.W.Frag) (x m:Str):Addr:=match PySem.W.recIn K (pAd K x m) "property" with
  | some (.ref g :: _)=>g
  | _=>0
def cAd (K:PySem.W.Frag) (x m:Str):Addr:=match PySem.W.recIn K (pAd K x m) "classmethod" with
  | some (.ref g :: _)=>g
  | _=>0
def Ad.a (K:PySem.W.Frag):Ad→Addr
  | .glo x=>He.ga K x
  | .mth x m=>He.ma K (He.ga K x) m
  | .get x m=>gAd K x m
  | .cmt x m=>cAd K x m
structure Bse where
  B:String
  nw:String
  ini:String
  bm:List Value
def jgr:Bse:=⟨"RuntimeError","RuntimeError.__new__","RuntimeError.__init__",[.type "RuntimeError",.type "Exception",.type "BaseException",.type "object"]⟩
def jmY:Bse:=⟨"ArithmeticError","ArithmeticError.__new__","ArithmeticError.__init__",[.type "ArithmeticError",.type "Exception",.type "BaseException",.type "object"]⟩
def jlx:Bse:=⟨"LookupError","LookupError.__new__","LookupError.__init__",[.type "LookupError",.type "Exception",.type "BaseException",.type "object"]⟩
inductive Fc where
  | he (f:He.Fa)
  | clsF (x:Str)
  | prop (x m:Str)
  | kit (a b:Tr) (r:Bool)
  | eqf (x:Str)
  | rep (x:Str)
  | nf (x y:Str)
  | tupc (x:Str) (vs:List He.Dv)
  | methI (x y m:Str)
  | propI (x y m:Str)
  | eqfI (x y:Str)
  | repI (x y:Str)
  | oex (x:Str)
  | xin (x:Str)
  | xbs (x:Str)
  | exmT (x:Str) (t:Tr) (b:Bool)
  | xc (x:Str)
  | xfl (x:Str)
  | kitA (a:Tr) (ts:List Tr) (r:Bool)
  | addI (x y:Str)
  | oeb (x:Str) (b:Bse)
  | xbt (b:Bse)
  | cmet (x m:Str)
  | strI (x y:Str)
  | g (f:PySem.W.Frag→Bool)
def jnl (K:PySem.W.Frag) (C:Addr):Bool:=match List.lookup C K with
  | some ob=>(match ob.cls,ob.data with
    | .type tn,.cls cd=>tn == "type" && (match cd.mro,ob.slots.toList with
      | .ref C1 :: more,[_,_,_,_,some (.builtin nw),_]=>C1 == C && (nw == "ValueError.__new__" && (!cd.hasDel && (cd.hasDict && PySem.HandSPX.refsVE more)))
      | _,_=>false)
    | _,_=>false)
  | none=>false
def jnL (b:Bse) (K:PySem.W.Frag) (C:Addr):Bool:=match List.lookup C K with
  | some ob=>(match ob.cls,ob.data with
    | .type tn,.cls cd=>tn == "type" && (match cd.mro,ob.slots.toList with
      | .ref C1 :: more,[_,_,_,_,some (.builtin nw),_]=>C1 == C && (nw == b.nw && (!cd.hasDel && (cd.hasDict && PySem.W.excTail b.bm more)))
      | _,_=>false)
    | _,_=>false)
  | none=>false
def Fc.ok (K:PySem.W.Frag):Fc→Bool
  | .g f=>f K
  | .he f=>f.ok K
  | .clsF x=>(He.Fa.cls x).ok K && (He.eqO (PySem.W.findIn K (.ref (He.ga K x)) "__class__") (some (some (.builtin "object.__class__"))) && (He.eqO (PySem.W.specialIn K (.builtin "object.__class__") "__get__") (some (some (.builtin "getset_descriptor.__get__"))) &&
      (decide (PySem.W.takesIn K (.builtin "object.__class__")=some true) && decide (PySem.W.mroIn K (He.ga K x) (.type "object")=some true))))
  | .prop x m=>He.eqO (PySem.W.findIn K (.ref (He.ga K x)) m) (some (some (.ref (pAd K x m)))) && (He.eqO (PySem.W.specialIn K (.ref (pAd K x m)) "__get__") (some (some (.builtin "property.__get__"))) &&
      (decide (PySem.W.takesIn K (.ref (pAd K x m))=some true) && (match PySem.W.recIn K (pAd K x m) "property" with
        | some (.ref _ :: _)=>true
        | _=>false)))
  | .kit a b r=>decide (PySem.W.kitOne K (a.v K) (b.v K)=some r)
  | .eqf x=>He.eqO (PySem.W.findIn K (.ref (He.ga K x)) "__eq__") (some (some (.ref (He.ma K (He.ga K x) "__eq__")))) && (PySem.W.isFn K (.ref (He.ma K (He.ga K x) "__eq__")) &&
      (He.eqO (PySem.W.findIn K (.ref (He.ga K x)) "__ne__") (some (some (.builtin "object.__ne__"))) && decide (PySem.W.mroIn K (He.ga K x) (.type "object")=some true)))
  | .rep x=>He.eqO (PySem.W.findIn K (.ref (He.ga K x)) "__repr__") (some (some (.ref (He.ma K (He.ga K x) "__repr__")))) && PySem.W.isFn K (.ref (He.ma K (He.ga K x) "__repr__"))
  | .nf x y=>PySem.W.notFirst K (He.ga K x) (.ref (He.ga K y))
  | .tupc x vs=>(He.Fa.glo x).ok K && He.tupB K x vs
  | .methI x y m=>He.eqO (PySem.W.findIn K (.ref (He.ga K x)) m) (some (some (.ref (He.ma K (He.ga K y) m)))) && (PySem.W.isFn K (.ref (He.ma K (He.ga K y) m)) && PySem.W.keepIn K (.ref (He.ma K (He.ga K y) m)))
  | .propI x y m=>He.eqO (PySem.W.findIn K (.ref (He.ga K x)) m) (some (some (.ref (pAd K y m)))) && (He.eqO (PySem.W.specialIn K (.ref (pAd K y m)) "__get__") (some (some (.builtin "property.__get__"))) &&
      (decide (PySem.W.takesIn K (.ref (pAd K y m))=some true) && (match PySem.W.recIn K (pAd K y m) "property" with
        | some (.ref _ :: _)=>true
        | _=>false)))
  | .eqfI x y=>He.eqO (PySem.W.findIn K (.ref (He.ga K x)) "__eq__") (some (some (.ref (He.ma K (He.ga K y) "__eq__")))) && (PySem.W.isFn K (.ref (He.ma K (He.ga K y) "__eq__")) &&
      (He.eqO (PySem.W.findIn K (.ref (He.ga K x)) "__ne__") (some (some (.builtin "object.__ne__"))) && decide (PySem.W.mroIn K (He.ga K x) (.type "object")=some true)))
  | .oex x=>jnl K (He.ga K x) && (He.eqO (PySem.W.findIn K (.ref (He.ga K x)) "__setattr__") (some (some (.builtin "object.__setattr__"))) && (decide (PySem.W.subIn K (.ref (He.ga K x)) (.type "BaseException")=some true) && (decide (PySem.W.typeIn K (.ref (He.ga K x))=some (.type "type")) && PySem.W.keepIn K (.ref (He.ga K x)))))
  | .xin x=>He.eqO (PySem.W.findIn K (.ref (He.ga K x)) "__init__") (some (some (.ref (He.ma K (He.ga K x) "__init__")))) && decide (PySem.W.typeIn K (.ref (He.ma K (He.ga K x) "__init__"))=some (.type "function"))
  | .xbs x=>He.eqO (PySem.W.specialIn K (.ref (He.ga K x)) "__getattribute__") (some (some (.builtin "type.__getattribute__"))) && (PySem.W.readsIn K (He.ga K x) (.type "type") && (match PySem.W.findCls K (.ref (He.ga K x)) (.type "type") "__init__" with
    | some (.val (.builtin id))=>id == "ValueError.__init__"
    | _=>false))
  | .exmT x t b=>decide (PySem.W.exmOne K (.ref (He.ga K x)) (t.v K)=some b)
  | .xc x=>(PySem.W.clsIn K (He.ga K x)).isSome && (He.eqO (PySem.W.findIn K (.ref (He.ga K x)) "__getattribute__") (some (some (.builtin "BaseException.__getattribute__"))) && (He.eqO (PySem.W.findIn K (.ref (He.ga K x)) "__getattr__") (some none) && (decide (PySem.W.subIn K (.ref (He.ga K x)) (.type "BaseException")=some true) &&
      (He.eqO (PySem.W.findIn K (.ref (He.ga K x)) "__class__") (some (some (.builtin "object.__class__"))) && (He.eqO (PySem.W.specialIn K (.builtin "object.__class__") "__get__") (some (some (.builtin "getset_descriptor.__get__"))) && (decide (PySem.W.takesIn K (.builtin "object.__class__")=some true) && decide (PySem.W.mroIn K (He.ga K x) (.type "object")=some true)))))))
  | .xfl x=>xfB K (He.ga K x)
  | .kitA a ts r=>decide (PySem.W.kitAny K (a.v K) (ts.map (Tr.v K))=some r)
  | .oeb x b=>jnL b K (He.ga K x) && (He.eqO (PySem.W.findIn K (.ref (He.ga K x)) "__setattr__") (some (some (.builtin "object.__setattr__"))) && (decide (PySem.W.subIn K (.ref (He.ga K x)) (.type "BaseException")=some true) && (decide (PySem.W.typeIn K (.ref (He.ga K x))=some (.type "type")) && PySem.W.keepIn K (.ref (He.ga K x)))))
  | .xbt b=>(match PySem.W.findCls K (.type b.B) (.type "type") "__init__" with
    | some (.val (.builtin id))=>id == b.ini
    | _=>false)
  | .cmet x m=>PySem.W.readsIn K (He.ga K x) (.type "type") && (He.eqO (PySem.W.specialIn K (.ref (He.ga K x)) "__getattribute__") (some (some (.builtin "type.__getattribute__"))) && ((match PySem.W.findCls K (.ref (He.ga K x)) (.type "type") m with
    | some (.get (.builtin id) (.ref p) .none (.ref C))=>id == "classmethod.__get__" && (p == pAd K x m && C == He.ga K x)
    | _=>false) && ((match PySem.W.recIn K (pAd K x m) "classmethod" with
    | some (.ref _ :: _)=>true
    | _=>false) && PySem.W.fnIn K (cAd K x m))))
  | .strI x y=>He.eqO (PySem.W.findIn K (.ref (He.ga K x)) "__str__") (some (some (.ref (He.ma K (He.ga K y) "__str__")))) && PySem.W.isFn K (.ref (He.ma K (He.ga K y) "__str__"))
  | .addI x y=>He.eqO (PySem.W.findIn K (.ref (He.ga K x)) "__add__") (some (some (.ref (He.ma K (He.ga K y) "__add__")))) && (PySem.W.isFn K (.ref (He.ma K (He.ga K y) "__add__")) && PySem.W.selfFirst K (He.ga K x))
  | .repI x y=>He.eqO (PySem.W.findIn K (.ref (He.ga K x)) "__repr__") (some (some (.ref (He.ma K (He.ga K y) "__repr__")))) && PySem.W.isFn K (.ref (He.ma K (He.ga K y) "__repr__"))
section
variable {K:PySem.W.Frag} {x y m:Str}
theorem jlc (c:(Fc.clsF x).ok K=true):joc K (He.ga K x):=by
  obtain ⟨c1,c⟩:=He.ba c
  obtain ⟨c2,c⟩:=He.ba c
  obtain ⟨c3,c⟩:=He.ba c
  obtain ⟨c4,c5⟩:=He.ba c
  exact ⟨He.cls_ok c1,He.eqO_ok c2,He.eqO_ok c3,of_decide_eq_true c4,of_decide_eq_true c5⟩
theorem jkJ (c:(Fc.prop x m).ok K=true):PropOf K (He.ga K x) m (pAd K x m) (gAd K x m):=by
  obtain ⟨c1,c⟩:=He.ba c
  obtain ⟨c2,c⟩:=He.ba c
  obtain ⟨c3,c4⟩:=He.ba c
  refine ⟨He.eqO_ok c1,He.eqO_ok c2,of_decide_eq_true c3,?_⟩
  unfold gAd
  cases h:PySem.W.recIn K (pAd K x m) "property" with
  | none=>rw [h] at c4; cases c4
  | some l=>
    rw [h] at c4
    cases l with
    | nil=>cases c4
    | cons v r=>
      cases v with
      | ref g=>exact ⟨r,rfl⟩
      | _=>cases c4
theorem jl0 {a b:Tr} {r:Bool} (c:(Fc.kit a b r).ok K=true):PySem.W.kitOne K (a.v K) (b.v K)=some r:=of_decide_eq_true c
theorem jmM (c:(Fc.eqf x).ok K=true):EqF K (He.ga K x) (He.ma K (He.ga K x) "__eq__"):=by
  obtain ⟨c1,c⟩:=He.ba c
  obtain ⟨c2,c⟩:=He.ba c
  obtain ⟨c3,c4⟩:=He.ba c
  exact ⟨He.eqO_ok c1,c2,He.eqO_ok c3,of_decide_eq_true c4⟩
theorem jl5 (c:(Fc.rep x).ok K=true):PySem.W.findIn K (.ref (He.ga K x)) "__repr__" =some (some (.ref (He.ma K (He.ga K x) "__repr__")))∧PySem.W.isFn K (.ref (He.ma K (He.ga K x) "__repr__"))=true:=by
  obtain ⟨c1,c2⟩:=He.ba c
  exact ⟨He.eqO_ok c1,c2⟩
theorem jjR (c:(Fc.propI x y m).ok K=true):PropOf K (He.ga K x) m (pAd K y m) (gAd K y m):=by
  obtain ⟨c1,c⟩:=He.ba c
  obtain ⟨c2,c⟩:=He.ba c
  obtain ⟨c3,c4⟩:=He.ba c
  refine ⟨He.eqO_ok c1,He.eqO_ok c2,of_decide_eq_true c3,?_⟩
  unfold gAd
  cases h:PySem.W.recIn K (pAd K y m) "property" with
  | none=>rw [h] at c4; cases c4
  | some l=>
    rw [h] at c4
    cases l with
    | nil=>cases c4
    | cons v r=>
      cases v with
      | ref g=>exact ⟨r,rfl⟩
      | _=>cases c4
theorem jkM (c:(Fc.eqfI x y).ok K=true):EqF K (He.ga K x) (He.ma K (He.ga K y) "__eq__"):=by
  obtain ⟨c1,c⟩:=He.ba c
  obtain ⟨c2,c⟩:=He.ba c
  obtain ⟨c3,c4⟩:=He.ba c
  exact ⟨He.eqO_ok c1,c2,He.eqO_ok c3,of_decide_eq_true c4⟩
theorem jkL (c:(Fc.repI x y).ok K=true):PySem.W.findIn K (.ref (He.ga K x)) "__repr__" =some (some (.ref (He.ma K (He.ga K y) "__repr__")))∧PySem.W.isFn K (.ref (He.ma K (He.ga K y) "__repr__"))=true:=by
  obtain ⟨c1,c2⟩:=He.ba c
  exact ⟨He.eqO_ok c1,c2⟩
theorem jkK {C:Addr} (h:jnl K C=true):∃ nm q N bs bm sn sub ab col dd k0 k1 k2 k3 k5,List.lookup C K=some (excClassObj nm q C N bs bm true sn sub ab col dd k0 k1 k2 k3 k5 "ValueError.__new__")∧PySem.HandSPX.refsVE bm=true:=by
  unfold jnl at h
  split at h
  · rename_i ob ho
    obtain ⟨oc,od,dt,sl⟩:=ob
    dsimp only at h
    split at h
    · rename_i tn cd
      obtain ⟨h1,h⟩:=He.ba h
      split at h
      · rename_i C1 more k0 k1 k2 k3 nw k5 hm hs
        obtain ⟨h2,h⟩:=He.ba h
        obtain ⟨h3,h⟩:=He.ba h
        obtain ⟨h4,h⟩:=He.ba h
        obtain ⟨h5,h6⟩:=He.ba h
        have e1:=beq_iff_eq.mp h1
        have e2:=beq_iff_eq.mp h2
        have e3:=beq_iff_eq.mp h3
        subst e1 e2 e3
        obtain ⟨c1,c2,c3,c4,c5,c6,c7,c8,c9,c10,c11⟩:=cd
        dsimp only at hm h4 h5
        have e4:c11=false:=by simpa using h4
        subst hm e4 h5
        obtain ⟨l⟩:=sl
        dsimp only at hs
        subst hs
        exact ⟨_,_,_,_,_,_,_,_,_,_,_,_,_,_,_,ho,h6⟩
      · cases h
    · cases h
  · cases h
theorem jlk {b:Bse} {C:Addr} (h:jnL b K C=true):∃ nm q N bs bm sn sub ab col dd k0 k1 k2 k3 k5,List.lookup C K=some (excClassObj nm q C N bs bm true sn sub ab col dd k0 k1 k2 k3 k5 b.nw)∧PySem.W.excTail b.bm bm=true:=by
  unfold jnL at h
  split at h
  · rename_i ob ho
    obtain ⟨oc,od,dt,sl⟩:=ob
    dsimp only at h
    split at h
    · rename_i tn cd
      obtain ⟨h1,h⟩:=He.ba h
      split at h
      · rename_i C1 more k0 k1 k2 k3 nw k5 hm hs
        obtain ⟨h2,h⟩:=He.ba h
        obtain ⟨h3,h⟩:=He.ba h
        obtain ⟨h4,h⟩:=He.ba h
        obtain ⟨h5,h6⟩:=He.ba h
        have e1:=beq_iff_eq.mp h1
        have e2:=beq_iff_eq.mp h2
        have e3:=beq_iff_eq.mp h3
        subst e1 e2 e3
        obtain ⟨c1,c2,c3,c4,c5,c6,c7,c8,c9,c10,c11⟩:=cd
        dsimp only at hm h4 h5
        have e4:c11=false:=by simpa using h4
        subst hm e4 h5
        obtain ⟨l⟩:=sl
        dsimp only at hs
        subst hs
        exact ⟨_,_,_,_,_,_,_,_,_,_,_,_,_,_,_,ho,h6⟩
      · cases h
    · cases h
  · cases h
theorem jm6 (c:(Fc.nf x y).ok K=true):PySem.W.notFirst K (He.ga K x) (.ref (He.ga K y))=true:=c
end
structure v7 where
  ad:Ad
  name:Str
  qual:Str
  st:Stmt
  dfl:List He.Dv:=[]
  kwd:List (Str×He.Dv):=[]
def fnM (K:PySem.W.Frag) (a:Addr):He.FnW:=match K.lookup a with
  | some ⟨_,_,.func fd,_⟩=>some (fd.name,fd.qualname,fd.params,fd.body,fd.scope,fd.globals,fd.closure,fd.builtins)
  | _=>none
def v7.val (d:v7):He.FnW:=some (d.name,d.qual,defArgs d.st,.stmts (defBody d.st),defScope d.st,mainGlobals,[],builtinsNs)
def v7.dvs (K:PySem.W.Frag) (d:v7):List V:=d.dfl.map (He.Dv.v K)
def v7.kws (K:PySem.W.Frag) (d:v7):List (Str×V):=d.kwd.map fun q=>(q.1,q.2.v K)
def v7.ok (K:PySem.W.Frag) (d:v7):Bool:=PySem.W.keepIn K (.ref (d.ad.a K)) && (match K.lookup (d.ad.a K) with
  | some ⟨_,_,.func fd,_⟩=>PySem.W.codeIn K fd.code d.qual && (He.dflB K fd.defaults (d.dvs K) && He.kwdB K fd.kwdefaults (d.kws K))
  | _=>false)
abbrev jG (K:PySem.W.Frag) (d:v7) (fd:FuncData):Prop:=FunD K d.name d.qual (defArgs d.st) (defBody d.st) (defScope d.st) (d.dvs K) (d.kws K) (d.ad.a K) fd
theorem v7.fun_ {K:PySem.W.Frag} {d:v7} (e:fnM K (d.ad.a K)=d.val) (c:d.ok K=true):∃ fd,jG K d fd:=by
  obtain ⟨kp,c2⟩:=He.ba c
  unfold fnM at e
  cases q:K.lookup (d.ad.a K) with
  | none=>rw [q] at c2; cases c2
  | some o=>
    obtain ⟨oc,od,dt,osl⟩:=o
    rw [q] at c2 e
    cases dt with
    | func fd=>
      obtain ⟨n1,n2,n3,n4,n5,n6,n7,n8,n9,n10,n11,n12,n13,n14,n15⟩:=fd
      have e2:(some (n1,n2,n3,n4,n5,n6,n7,n15):He.FnW)=d.val:=e
      unfold v7.val at e2
      simp only [Option.some.injEq,Prod.mk.injEq] at e2
      obtain ⟨h1,h2,h3,h4,h5,h6,h7,h8⟩:=e2
      subst h1 h2 h3 h4 h5 h6 h7 h8
      have c3:(PySem.W.codeIn K n13 d.qual && (He.dflB K n8 (d.dvs K) && He.kwdB K n9 (d.kws K)))=true:=c2
      obtain ⟨k1,k2⟩:=He.ba c3
      obtain ⟨k3,k4⟩:=He.ba k2
      exact ⟨_,⟨oc,od,n8,n9,n10,n11,n12,n13,n14,osl,rfl,q,k1,He.dflB_ok k3,He.kwdB_ok k4⟩,kp⟩
    | _=>cases c2
def jlL (fa:List Fc) (fn:List v7) (K:PySem.W.Frag):He.AlD:=((fa.all fun f=>f.ok K) && fn.all fun d=>d.ok K,fn.map fun d=>fnM K (d.ad.a K))
def jku (fa:List Fc) (fn:List v7) (K:PySem.W.Frag):Prop:=jlL fa fn K=(true,fn.map v7.val)
structure Kn (fa:List Fc) (fn:List v7) (K:PySem.W.Frag) (mg:Str→Option Value):Prop where
  ns:∃ h:Heap,K.In h∧h.Ns mainGlobals mg
  says:jku fa fn K
section
variable {fa:List Fc} {fn:List v7} {K:PySem.W.Frag} {mg:Str→Option Value} {x y m:Str}
theorem Kn.fact (c:Kn fa fn K mg) (i:Nat) {f:Fc} (h:fa[i]? =some f:=by rfl):f.ok K=true:=by
  have z:=(He.ba (show ((fa.all fun f=>f.ok K) && fn.all fun d=>d.ok K)=true from congrArg (fun z:He.AlD=>z.1) c.says)).1
  exact List.all_eq_true.mp z f (List.mem_of_getElem? h)
theorem Kn.def_ (c:Kn fa fn K mg) (i:Nat) {d:v7} (h:fn[i]? =some d:=by rfl):∃ fd,jG K d fd:=by
  have z:=(He.ba (show ((fa.all fun f=>f.ok K) && fn.all fun d=>d.ok K)=true from congrArg (fun z:He.AlD=>z.1) c.says)).2
  have e:fn.map (fun d=>fnM K (d.ad.a K))=fn.map v7.val:=congrArg (fun z:He.AlD=>z.2) c.says
  have e2:(fn.map fun d=>fnM K (d.ad.a K))[i]? =(fn.map v7.val)[i]?:=by rw [e]
  rw [List.getElem?_map,List.getElem?_map,h] at e2
  exact v7.fun_ (Option.some.inj e2) (List.all_eq_true.mp z d (List.mem_of_getElem? h))
theorem Kn.g (c:Kn fa fn K mg) (i:Nat) {f:PySem.W.Frag→Bool} (h:fa[i]? =some (.g f):=by rfl):f K=true:=c.fact i h
theorem Kn.glo (c:Kn fa fn K mg) (i:Nat) (h:fa[i]? =some (.he (.glo x)):=by rfl):mg x=some (.ref (He.ga K x)):=by
  obtain ⟨hp,a,b⟩:=c.ns
  exact He.glo_ok a b (c.fact i h)
theorem Kn.free (c:Kn fa fn K mg) (i:Nat) (h:fa[i]? =some (.he (.free x)):=by rfl):mg x=none:=by
  obtain ⟨hp,a,b⟩:=c.ns
  exact He.free_ok a b (c.fact i h)
theorem Kn.int (c:Kn fa fn K mg) (i:Nat) {n:Int} (h:fa[i]? =some (.he (.int x n)):=by rfl):∃ t,mg x=some (.int n t):=by
  obtain ⟨hp,a,b⟩:=c.ns
  exact He.int_ok a b (c.fact i h)
theorem Kn.str (c:Kn fa fn K mg) (i:Nat) {z:Str} (h:fa[i]? =some (.he (.str x z)):=by rfl):∃ t,mg x=some (.str z t):=by
  obtain ⟨hp,a,b⟩:=c.ns
  exact He.str_ok a b (c.fact i h)
theorem Kn.cls (c:Kn fa fn K mg) (i:Nat) (h:fa[i]? =some (.clsF x):=by rfl):joc K (He.ga K x):=jlc (c.fact i h)
theorem Kn.noat (c:Kn fa fn K mg) (i:Nat) (h:fa[i]? =some (.he (.noat x m)):=by rfl):NoAttr K (He.ga K x) m:=He.noat_ok (c.fact i h)
theorem Kn.prop (c:Kn fa fn K mg) (i:Nat) (h:fa[i]? =some (.prop x m):=by rfl):∃ p,PropOf K (He.ga K x) m p (gAd K x m):=⟨_,jkJ (c.fact i h)⟩
theorem Kn.kit (c:Kn fa fn K mg) (i:Nat) {a b:Tr} {r:Bool} (h:fa[i]? =some (.kit a b r):=by rfl):PySem.W.kitOne K (a.v K) (b.v K)=some r:=jl0 (c.fact i h)
theorem Kn.eqf (c:Kn fa fn K mg) (i:Nat) (h:fa[i]? =some (.eqf x):=by rfl):EqF K (He.ga K x) (He.ma K (He.ga K x) "__eq__"):=jmM (c.fact i h)
theorem Kn.rep (c:Kn fa fn K mg) (i:Nat) (h:fa[i]? =some (.rep x):=by rfl):PySem.W.findIn K (.ref (He.ga K x)) "__repr__" =some (some (.ref (He.ma K (He.ga K x) "__repr__")))∧PySem.W.isFn K (.ref (He.ma K (He.ga K x) "__repr__"))=true:=jl5 (c.fact i h)
theorem Kn.methI (c:Kn fa fn K mg) (i:Nat) (h:fa[i]? =some (.methI x y m):=by rfl):Meth K (He.ga K x) m (He.ma K (He.ga K y) m):=by
  have z:=c.fact i h
  obtain ⟨c1,z⟩:=He.ba z
  obtain ⟨c2,c3⟩:=He.ba z
  exact ⟨He.eqO_ok c1,c2,c3⟩
theorem Kn.propI (c:Kn fa fn K mg) (i:Nat) (h:fa[i]? =some (.propI x y m):=by rfl):∃ p,PropOf K (He.ga K x) m p (gAd K y m):=⟨_,jjR (c.fact i h)⟩
theorem Kn.eqfI (c:Kn fa fn K mg) (i:Nat) (h:fa[i]? =some (.eqfI x y):=by rfl):EqF K (He.ga K x) (He.ma K (He.ga K y) "__eq__"):=jkM (c.fact i h)
theorem Kn.repI (c:Kn fa fn K mg) (i:Nat) (h:fa[i]? =some (.repI x y):=by rfl):PySem.W.findIn K (.ref (He.ga K x)) "__repr__" =some (some (.ref (He.ma K (He.ga K y) "__repr__")))∧PySem.W.isFn K (.ref (He.ma K (He.ga K y) "__repr__"))=true:=jkL (c.fact i h)
theorem Kn.oex (c:Kn fa fn K mg) (i:Nat) (h:fa[i]? =some (.oex x):=by rfl):OexC K (He.ga K x):=by
  have z:=c.fact i h
  obtain ⟨c1,z⟩:=He.ba z
  obtain ⟨c2,z⟩:=He.ba z
  obtain ⟨c3,z⟩:=He.ba z
  obtain ⟨c4,c5⟩:=He.ba z
  exact ⟨jkK c1,He.eqO_ok c2,of_decide_eq_true c3,of_decide_eq_true c4,c5⟩
theorem Kn.xin (c:Kn fa fn K mg) (i:Nat) (h:fa[i]? =some (.xin x):=by rfl):PySem.W.findIn K (.ref (He.ga K x)) "__init__" =some (some (.ref (He.ma K (He.ga K x) "__init__")))∧PySem.W.typeIn K (.ref (He.ma K (He.ga K x) "__init__"))=some (.type "function"):=by
  obtain ⟨c1,c2⟩:=He.ba (c.fact i h)
  exact ⟨He.eqO_ok c1,of_decide_eq_true c2⟩
theorem Kn.xbs (c:Kn fa fn K mg) (i:Nat) (h:fa[i]? =some (.xbs x):=by rfl):PySem.W.specialIn K (.ref (He.ga K x)) "__getattribute__" =some (some (.builtin "type.__getattribute__"))∧PySem.W.readsIn K (He.ga K x) (.type "type")=true∧PySem.W.findCls K (.ref (He.ga K x)) (.type "type") "__init__" =some (.val (.builtin "ValueError.__init__")):=by
  obtain ⟨c1,z⟩:=He.ba (c.fact i h)
  obtain ⟨c2,c3⟩:=He.ba z
  refine ⟨He.eqO_ok c1,c2,?_⟩
  split at c3
  · rename_i id e
    rw [e,beq_iff_eq.mp c3]
  · cases c3
theorem Kn.cmet (c:Kn fa fn K mg) (i:Nat) (h:fa[i]? =some (.cmet x m):=by rfl):ClX.CRead K (He.ga K x) (.type "type")∧ClX.CMet K (He.ga K x) (.type "type") m (pAd K x m) (cAd K x m):=by
  obtain ⟨c1,z⟩:=He.ba (c.fact i h)
  obtain ⟨c2,z⟩:=He.ba z
  obtain ⟨c3,z⟩:=He.ba z
  obtain ⟨c4,c5⟩:=He.ba z
  refine ⟨⟨c1,He.eqO_ok c2⟩,⟨?_,?_,c5⟩⟩
  · split at c3
    · rename_i id p C e
      obtain ⟨d1,d2⟩:=He.ba c3
      obtain ⟨d3,d4⟩:=He.ba d2
      rw [e,beq_iff_eq.mp d1,beq_iff_eq.mp d3,beq_iff_eq.mp d4]
    · cases c3
  · unfold cAd
    split at c4
    · rename_i g r e
      exact ⟨r,by rw [e]⟩
    · cases c4
theorem Kn.strI (c:Kn fa fn K mg) (i:Nat) (h:fa[i]? =some (.strI x y):=by rfl):PySem.W.findIn K (.ref (He.ga K x)) "__str__" =some (some (.ref (He.ma K (He.ga K y) "__str__")))∧PySem.W.isFn K (.ref (He.ma K (He.ga K y) "__str__"))=true:=by
  obtain ⟨c1,c2⟩:=He.ba (c.fact i h)
  exact ⟨He.eqO_ok c1,c2⟩
theorem Kn.exmT (c:Kn fa fn K mg) (i:Nat) {t:Tr} {b:Bool} (h:fa[i]? =some (.exmT x t b):=by rfl):PySem.W.exmOne K (.ref (He.ga K x)) (t.v K)=some b:=of_decide_eq_true (c.fact i h)
theorem Kn.xfl (c:Kn fa fn K mg) (i:Nat) (h:fa[i]? =some (.xfl x):=by rfl):XfC K (He.ga K x):=xfB_ok (c.fact i h)
theorem Kn.kitA (c:Kn fa fn K mg) (i:Nat) {a:Tr} {ts:List Tr} {r:Bool} (h:fa[i]? =some (.kitA a ts r):=by rfl):PySem.W.kitAny K (a.v K) (ts.map (Tr.v K))=some r:=of_decide_eq_true (c.fact i h)
theorem Kn.nof (c:Kn fa fn K mg) (i:Nat) (h:fa[i]? =some (.he (.noat x m)):=by rfl):PySem.W.findIn K (.ref (He.ga K x)) m=some none:=He.eqO_ok (c.fact i h)
theorem Kn.nf (c:Kn fa fn K mg) (i:Nat) (h:fa[i]? =some (.nf x y):=by rfl):PySem.W.notFirst K (He.ga K x) (.ref (He.ga K y))=true:=jm6 (c.fact i h)
end
theorem Kn.tup {fa:List Fc} {fn:List v7} {K:PySem.W.Frag} {mg:Str→Option Value} {x:Str} {vs:List He.Dv} (c:Kn fa fn K mg) (i:Nat) (h:fa[i]? =some (.tupc x vs):=by rfl):mg x=some (.ref (He.ga K x))∧∀ H:Hp,SqT K H (He.ga K x) (vs.map (He.Dv.v K)):=by
  obtain ⟨hp,a,b⟩:=c.ns
  obtain ⟨z1,z2⟩:=He.ba (c.fact i h)
  exact ⟨He.glo_ok a b z1,fun H=>He.tupB_ok z2 H⟩
section
variable {X:Cx} {cm:CM} {W:WX} {x:Str} {pos:Pos}
theorem jks:PE X (.Dict [] [] pos) (tE cm X.K W (mC (.dic []))):=PE.weak pe_dnewK fun σ H Q ⟨F,S,e1,e2,R,h⟩=>fun p hp=>by
  have s:=jZ (o:= .dK []) hp
  exact h _ _ (R.grow s) (vx s) (.dic (wK R.live hp) .nil)
end
theorem end_ofM {l:PySem.W.OpenLaw} {n k:Nat} {q:Program} {loose:List Str} {XP:(Str→Option Value)→Heap→Prop} {YP:World→Heap→Prop} {d:DefRec} {x:Str} {Fn:List FA→RF}
    (hn:l.most=some n) (hn2:n≤sizeLine) (hdf:d.params.defaults= []) (hr:Room k callerA)
    (F:∀ (w:World) (mg:Str→Option Value) (fa:Addr) (h:Heap),YP w h→h.Ns mainGlobals mg→mg d.name=some (.ref fa)→
      ∃ (K:PySem.W.Frag) (fd:FuncData) (cm:CM),K.In h∧(∀ (s:Shared) (u:Value),BindsTo s fd ⟨[u],[]⟩ [(x,u)])∧
        ∀ base:Heap,K.In base→base.Ns mainGlobals mg→FnG l.prog w K mg base (L2.CX l.prog w) k fa fd [x] (spF cm K Fn))
    (good:∀ ns:List Int,ns.length≤n→Fn [.dat (.ro (ns.map .int))]= .ok (.bl true) []) :
    PySem.W.WalkO q loose XP YP l.row.toRowW d [] (fun f vs=>PySem.call f vs):=by
  refine Att.attach_call hn hdf fun w s₀ s₁ mg mb fa o pm cd doc a vs ns G Y ho hd hcd hmg hobj hints hlen hg=>?_
  obtain ⟨K,fd,cm,KX,hb,hF⟩:=F w mg fa _ Y G.T.g hmg
  refine jje KX G.T.g G.T.b G.T.builtins G.T.nolimit hg hobj hints (Nat.le_trans hlen hn2) hr hF hb fun H hO hS=>?_
  have e0:(hid ⟨[],[]⟩ H).h=H:=by
    funext y
    exact vQ (M:=⟨[],[]⟩) (fun z=>by cases z)
  refine ⟨⟨[],[]⟩,[.dat (.ro (ns.map .int))],[],⟨fun m hm=>(by cases hm)⟩,by simp,List.nodup_nil,.dat (.ro (by rw [e0]; exact hS) (jiQ ns)) .nil,?_⟩
  rw [good ns hlen]
  intro v H' _ _ rv
  cases rv
  rfl
end Mir
namespace Mir
open PySem PySem.Spec PyProof.Rows L2
theorem takes0 {X:Cx}:Takes X W0:=fun u s' x=>by
  obtain ⟨a,B,sI,pins,σ,H,cls,d,e,I,nb,up,sky,na,os,ag,w⟩:=x
  exact w.elim
theorem aa0 {α:Type} {p:α→Prop}:∀ x,x ∈ ([]:List α)→p x:=fun x h=>by cases h
theorem aa1 {α:Type} {p:α→Prop} {a:α} {l:List α} (h:p a) (r:∀ x,x ∈ l→p x):∀ x,x ∈ a :: l→p x:=fun x hx=>by
  rcases List.mem_cons.mp hx with e | e
  · rw [e]; exact h
  · exact r x e
section
variable {X:Cx} {cm:CM} {W:WX} {a b c e:Expr} {ma mb:ME} {pos:Pos} {g:Dat→Dat→Option Dat}
theorem jeY {α β γ:Type} (r:Rs α) (k:α→Sg→Rs β) (l:β→Sg→Rs γ):(r.bind k).bind l=r.bind fun a S=>(k a S).bind l:=by cases r <;> rfl
theorem jdl {op} (o:OpR X (compareOp op) (rD cm X.K g)) (ha:PE X a (tE cm X.K W ma)) (hb:PE X b (tE cm X.K W mb)) (hm:behindInMarks op b=false):PT X (.Compare a [op] [b] pos) (tT cm X.K W (jE (m2 g ma mb))):=
  PT.weak (pt_cmpR o ha hb hm) fun σ H Q ⟨F,S,e1,e2,R,h⟩=>by
    unfold jE m2 at h
    rw [jeY] at h
    refine jD e1 e2 R h fun F x H1 da S1 e1 e2 R1 s1 p1 h1=>?_
    rw [jeY] at h1
    refine jD e1 e2 R1 h1 fun F y H2 db S2 e1 e2 R2 s2 p2 h2=>?_
    cases hg:g da db with
    | none=>rw [hg] at h2; exact h2.elim
    | some d=>
      rw [hg,Rs.of_some,Rs.bind_ok] at h2
      cases d <;> try (exact False.elim h2)
      rename_i t
      exact ⟨_,da,db,.bl t,R2.live,p1.mono s2,p2,hg,fun v H' s' rv=>by
        cases rv
        exact ⟨t,rfl,h2 t H' (R2.grow s') (vx s') rfl⟩⟩
def jgi (n:Nat) (r:MGs):MG:=gTp fun ds S=>if ds.length=n then r ds S else .bad
theorem jfy {es:List Expr} {gs:MGs} {k n:Nat} (hc:X.calm=true) (h:PGs X es (jmj cm X.K W gs)) (hn:(assignEach es X.env).length=n:=by rfl) (hst:(assignEach es X.env).findIdx? (·.1)=none:=by rfl):PG X (.Tuple es k pos) (tGt cm X.K W (jgi n gs)):=
  jmX hc (PGs.weak h fun v σ H Q ⟨F,S,d,e1,e2,R,p,o⟩=>by
    have o:jh6 F W (vis F S σ H) Q (if d.length=n then gs d S else .bad):=o
    by_cases hz:d.length=n
    · rw [if_pos hz] at o; exact ⟨F,S,d,e1,e2,R,p,o⟩
    · rw [if_neg hz] at o; exact o.elim) hn hst fun ds S hz=>if_neg hz
end
end Mir
namespace Mir
open PySem
section
variable {α β:Type} (S:Sg) (a b d:Dat) (ma mb mc:ME) (ca cb:MT) (g g':Dat→Dat→Option Dat)
def jia (b:MS):Rs Fl→Rs Fl
  | .ok .nx S=>b S
  | r=>r
theorem jhx (a b:MS):Jo a b S=jia b (a S):=by
  unfold Jo jia
  cases a S with
  | ok f S1=>cases f <;> rfl
  | _=>rfl
@[simp] theorem jct (k:MS):jia k (.ok .nx S)=k S:=rfl
@[simp] theorem jcF (k:MS):jia k (.ok (.rt d) S)= .ok (.rt d) S:=rfl
@[simp] theorem jcZ (k:MS):jia k (.ok .bk S)= .ok .bk S:=rfl
@[simp] theorem jcJ (k:MS):jia k (.ok .ct S)= .ok .ct S:=rfl
@[simp] theorem jbc (c:Str) (fs:List (Str×Dat)) (k:MS):jia k (.exc c fs S)= .exc c fs S:=rfl
@[simp] theorem jbi (k:MS):jia k .bad= .bad:=rfl
@[simp] theorem jbl {p:Prop} [Decidable p] (x y:Rs Fl) (k:MS):jia k (if p then x else y)=if p then jia k x else jia k y:=by split <;> rfl
theorem jeM:we S= .ok .nx S:=rfl
theorem jeU:jno S= .ok (.rt .non) S:=rfl
theorem jdf:jmW S= .ok .bk S:=rfl
theorem je0:jnq S= .ok .ct S:=rfl
theorem jcE:jlO S= .bad:=rfl
def jmm (r:Rs Dat):Rs Fl:=r.bind fun d S1=> .ok (.rt d) S1
theorem jhW:YY ma S=jmm (ma S):=rfl
@[simp] theorem jcW:jmm (.ok d S)= .ok (.rt d) S:=rfl
@[simp] theorem jbd {p:Prop} [Decidable p] (x y:Rs Dat):jmm (if p then x else y)=if p then jmm x else jmm y:=by split <;> rfl
def jl9 (r:Rs Dat):Rs Fl:=r.bind fun _ S1=> .ok .nx S1
theorem jeF:jnk ma S=jl9 (ma S):=rfl
@[simp] theorem jbe:jl9 (.ok d S)= .ok .nx S:=rfl
def jmF (x y:MS) (r:Rs Bool):Rs Fl:=r.bind fun t S1=>if t=true then x S1 else y S1
theorem jhE (x y:MS):V8 ca x y S=jmF x y (ca S):=rfl
@[simp] theorem jcD (x y:MS) (t:Bool):jmF x y (.ok t S)=if t=true then x S else y S:=rfl
@[simp] theorem jbj {p:Prop} [Decidable p] (x y:MS) (u v:Rs Bool):jmF x y (if p then u else v)=if p then jmF x y u else jmF x y v:=by split <;> rfl
def stK (r:Rs Unit):Rs Fl:=r.bind fun _ S2=> .ok .nx S2
def jlQ (gt:MG) (r:Rs Dat):Rs Fl:=r.bind fun d S1=>stK (gt d S1)
theorem jhO (gt:MG):Vb ma gt S=jlQ gt (ma S):=rfl
@[simp] theorem jcA (gt:MG):jlQ gt (.ok d S)=stK (gt d S):=rfl
@[simp] theorem jbp {p:Prop} [Decidable p] (gt:MG) (x y:Rs Dat):jlQ gt (if p then x else y)=if p then jlQ gt x else jlQ gt y:=by split <;> rfl
@[simp] theorem jeX:stK (.ok () S)= .ok .nx S:=rfl
theorem jlo (i:Nat):gNm i d S= .ok () (S.set i (.dat d)):=rfl
def jmN (i:Nat) (r:Rs (List Dat)):Rs Fl:=r.bind fun ds S1=> .ok .nx (S1.set i (.loc ds))
theorem jc9 (i:Nat) (m:Sg→Rs (List Dat)):jdt i m S=jmN i (m S):=rfl
@[simp] theorem ja5 (i:Nat) (ds:List Dat):jmN i (.ok ds S)= .ok .nx (S.set i (.loc ds)):=rfl
def jme (r:Rs (List Dat)):Rs (List Dat):=r.bind fun ds S1=>if ds.length≤lim then .ok ds S1 else .bad
theorem jeE (m:MA):jkn m S=jme (m S):=rfl
@[simp] theorem ja8 (ds:List Dat):jme (.ok ds S)=if ds.length≤lim then .ok ds S else .bad:=rfl
def jgV (r:Rs Dat):Rs (List Dat):=r.bind fun d S1=>match d with
  | .lst ds=> .ok ds S1
  | .tup ds=> .ok ds S1
  | .ro ds=> .ok ds S1
  | _=> .bad
theorem jcL:jnv ma S=jgV (ma S):=rfl
@[simp] theorem Yw (ds:List Dat):jgV (.ok (.lst ds) S)= .ok ds S:=rfl
@[simp] theorem Yy (ds:List Dat):jgV (.ok (.tup ds) S)= .ok ds S:=rfl
@[simp] theorem VA (ds:List Dat):jgV (.ok (.ro ds) S)= .ok ds S:=rfl
def jn0 (i j:Nat) (r:Rs (List Dat)):Rs Fl:=r.bind fun ds S1=>match ds with
  | [a,b]=> .ok .nx ((S1.set i (.dat a)).set j (.dat b))
  | _=> .bad
theorem jh4 (i j:Nat) (m:MA):jlW i j m S=jn0 i j (m S):=rfl
@[simp] theorem jcC (i j:Nat):jn0 i j (.ok [a,b] S)= .ok .nx ((S.set i (.dat a)).set j (.dat b)):=rfl
def jn3 (i:Nat) (r:Rs Dat):Rs Fl:=r.bind fun d S1=>if vG i S1 then jd7 i d S1 else .bad
theorem jhh (i:Nat):jdF i ma S=if vG i S=true then jn3 i (ma S) else .bad:=rfl
@[simp] theorem jcx (i:Nat):jn3 i (.ok d S)=if vG i S=true then jd7 i d S else .bad:=rfl
def joa (gt:MG) (b:MS) (r:Rs (List Dat)):Rs Fl:=r.bind fun ds S1=>jaZ gt b ds S1
theorem jha (mi:Sg→Rs (List Dat)) (gt:MG) (b:MS):jk8 mi gt b S=joa gt b (mi S):=rfl
@[simp] theorem jc7 (gt:MG) (b:MS) (ds:List Dat):joa gt b (.ok ds S)=jaZ gt b ds S:=rfl
def ofK (f:List Dat→Option (List Dat)) (r:Rs (List Dat)):Rs (List Dat):=r.bind fun d S1=>Rs.of (f d) S1
theorem jhf (f:List Dat→Option (List Dat)) (m:MA):jh5 f m S=ofK f (m S):=rfl
@[simp] theorem jeC (f:List Dat→Option (List Dat)) (ds:List Dat):ofK f (.ok ds S)=Rs.of (f ds) S:=rfl
def jki (r:Rs Dat):Rs (List Dat):=r.bind fun d S1=>Rs.of (jg2 d) S1
theorem jc8:jfV ma S=jki (ma S):=rfl
@[simp] theorem VE:jki (.ok d S)=Rs.of (jg2 d) S:=rfl
def jnZ (i:Nat) (d:Dat) (r:Rs Dat):Rs Unit:=r.bind fun k S1=>match k with
  | .int k=>if vG i S1 then jep i k d S1 else .bad
  | _=> .bad
theorem jhi (i:Nat):gIx i ma d S=if vG i S=true then jnZ i d (ma S) else .bad:=rfl
@[simp] theorem jdc (i:Nat) (k:Int):jnZ i d (.ok (.int k) S)=if vG i S=true then jep i k d S else .bad:=rfl
theorem jh1 (n:Nat) (r:MGs) (ds:List Dat):jgi n r (.tup ds) S=if ds.length=n then r ds S else .bad:=rfl
def jod (r:MGs) (ds:List Dat) (u:Rs Unit):Rs Unit:=u.bind fun _ S1=>r ds S1
theorem jhX (gt:MG) (r:MGs) (ds:List Dat):gCs gt r (d :: ds) S=jod r ds (gt d S):=rfl
@[simp] theorem jcz (r:MGs) (ds:List Dat):jod r ds (.ok () S)=r ds S:=rfl
theorem jht:gNl [] S= .ok () S:=rfl
def jn1 (cs:List Str) (i:Nat) (nm:Str) (r:Rs Dat):Rs Fl:=r.bind fun d S1=>stK (stF cs i nm d S1)
theorem jhJ (cs:List Str) (i:Nat) (nm:Str):joq cs i nm ma S=jn1 cs i nm (ma S):=rfl
@[simp] theorem jc5 (cs:List Str) (i:Nat) (nm:Str):jn1 cs i nm (.ok d S)=stK (stF cs i nm d S):=rfl
theorem r_C:mC d S= .ok d S:=rfl
def k2b (g:Dat→Dat→Option Dat) (a:Dat) (r:Rs Dat):Rs Dat:=r.bind fun b S2=>Rs.of (g a b) S2
def k2 (g:Dat→Dat→Option Dat) (mb:ME) (r:Rs Dat):Rs Dat:=r.bind fun a S1=>k2b g a (mb S1)
theorem r_2:m2 g ma mb S=k2 g mb (ma S):=rfl
@[simp] theorem jhj:k2 g mb (.ok a S)=k2b g a (mb S):=rfl
@[simp] theorem jeS:k2b g a (.ok b S)=Rs.of (g a b) S:=rfl
@[simp] theorem jeZ {p:Prop} [Decidable p] (x y:Rs Dat):k2 g mb (if p then x else y)=if p then k2 g mb x else k2 g mb y:=by split <;> rfl
@[simp] theorem jcV {p:Prop} [Decidable p] (x y:Rs Dat):k2b g a (if p then x else y)=if p then k2b g a x else k2b g a y:=by split <;> rfl
def k1 (f:Dat→Option Dat) (r:Rs Dat):Rs Dat:=r.bind fun a S1=>Rs.of (f a) S1
theorem r_1 (f:Dat→Option Dat):m1 f ma S=k1 f (ma S):=rfl
@[simp] theorem jhg (f:Dat→Option Dat):k1 f (.ok a S)=Rs.of (f a) S:=rfl
theorem jhu:jY S= .ok [] S:=rfl
def kc2 (a:Dat) (r:Rs (List Dat)):Rs (List Dat):=r.bind fun r S2=> .ok (a :: r) S2
def kc (mr:MA) (r:Rs Dat):Rs (List Dat):=r.bind fun a S1=>kc2 a (mr S1)
theorem jeA (mr:MA):je ma mr S=kc mr (ma S):=rfl
@[simp] theorem jhz (mr:MA):kc mr (.ok a S)=kc2 a (mr S):=rfl
@[simp] theorem je6 (ds:List Dat):kc2 a (.ok ds S)= .ok (a :: ds) S:=rfl
@[simp] theorem jeO {p:Prop} [Decidable p] (mr:MA) (x y:Rs Dat):kc mr (if p then x else y)=if p then kc mr x else kc mr y:=by split <;> rfl
@[simp] theorem jdd {p:Prop} [Decidable p] (x y:Rs (List Dat)):kc2 a (if p then x else y)=if p then kc2 a x else kc2 a y:=by split <;> rfl
def kf (f:List Dat→Option Dat) (r:Rs (List Dat)):Rs Dat:=r.bind fun ds S1=>Rs.of (f ds) S1
theorem jeV (f:List Dat→Option Dat) (m:MA):JF f m S=kf f (m S):=rfl
theorem jhL (m:MA):zk m S=kf jjQ (m S):=rfl
theorem jhR (m:MA):YX m S=kf jjS (m S):=rfl
@[simp] theorem jhp (f:List Dat→Option Dat) (ds:List Dat):kf f (.ok ds S)=Rs.of (f ds) S:=rfl
@[simp] theorem jeB {p:Prop} [Decidable p] (f:List Dat→Option Dat) (x y:Rs (List Dat)):kf f (if p then x else y)=if p then kf f x else kf f y:=by split <;> rfl
def kIf (ma mb:ME) (r:Rs Bool):Rs Dat:=r.bind fun t S1=>if t=true then ma S1 else mb S1
theorem jlq:mIf ca ma mb S=kIf ma mb (ca S):=rfl
@[simp] theorem jeT (t:Bool):kIf ma mb (.ok t S)=if t=true then ma S else mb S:=rfl
@[simp] theorem jdg {p:Prop} [Decidable p] (x y:Rs Bool):kIf ma mb (if p then x else y)=if p then kIf ma mb x else kIf ma mb y:=by split <;> rfl
def jlU (b:ME) (r:Rs Dat):Rs Dat:=r.bind fun d S1=>match d with
  | .bl true=>b S1
  | .bl false=> .ok (.bl false) S1
  | _=> .bad
def kOr (b:ME) (r:Rs Dat):Rs Dat:=r.bind fun d S1=>match d with
  | .bl true=> .ok (.bl true) S1
  | .bl false=>b S1
  | _=> .bad
theorem jhI:jox ma mb S=jlU mb (ma S):=rfl
theorem jlA:mOr ma mb S=kOr mb (ma S):=rfl
@[simp] theorem jcK (t:Bool):jlU mb (.ok (.bl t) S)=if t=true then mb S else .ok (.bl false) S:=by cases t <;> rfl
@[simp] theorem jey (t:Bool):kOr mb (.ok (.bl t) S)=if t=true then .ok (.bl true) S else mb S:=by cases t <;> rfl
@[simp] theorem jbb {p:Prop} [Decidable p] (x y:Rs Dat):jlU mb (if p then x else y)=if p then jlU mb x else jlU mb y:=by split <;> rfl
@[simp] theorem jcM {p:Prop} [Decidable p] (x y:Rs Dat):kOr mb (if p then x else y)=if p then kOr mb x else kOr mb y:=by split <;> rfl
def jlv (r:Rs Dat):Rs Dat:=r.bind fun d S1=>match d with
  | .bl b=> .ok (.bl (!b)) S1
  | _=> .bad
@[simp] theorem jcH (t:Bool):jlv (.ok (.bl t) S)= .ok (.bl (!t)) S:=rfl
@[simp] theorem ja9 {p:Prop} [Decidable p] (x y:Rs Dat):jlv (if p then x else y)=if p then jlv x else jlv y:=by split <;> rfl
theorem jh0:jn2 ma S=jlv (ma S):=by unfold jn2 jlv; cases ma S <;> first | rfl | (rename_i d S1; cases d <;> rfl)
def kTr (r:Rs Dat):Rs Bool:=r.bind fun d S1=>match d with
  | .bl b=> .ok b S1
  | _=> .bad
theorem jde:jE ma S=kTr (ma S):=rfl
@[simp] theorem je2 (t:Bool):kTr (.ok (.bl t) S)= .ok t S:=rfl
@[simp] theorem jcu {p:Prop} [Decidable p] (x y:Rs Dat):kTr (if p then x else y)=if p then kTr x else kTr y:=by split <;> rfl
def jiN (cb:MT) (r:Rs Bool):Rs Bool:=r.bind fun t S1=>if t=true then cb S1 else .ok false S1
def jlB (cb:MT) (r:Rs Bool):Rs Bool:=r.bind fun t S1=>if t=true then .ok true S1 else cb S1
def jig (r:Rs Bool):Rs Bool:=r.bind fun t S1=> .ok (!t) S1
theorem jeR:jof ca cb S=jiN cb (ca S):=rfl
theorem jhT:cOr ca cb S=jlB cb (ca S):=rfl
theorem jeK:jgb ca S=jig (ca S):=rfl
@[simp] theorem jbk (t:Bool):jiN cb (.ok t S)=if t=true then cb S else .ok false S:=rfl
@[simp] theorem jc2 (t:Bool):jlB cb (.ok t S)=if t=true then .ok true S else cb S:=rfl
@[simp] theorem jbg (t:Bool):jig (.ok t S)= .ok (!t) S:=rfl
@[simp] theorem Vx {p:Prop} [Decidable p] (x y:Rs Bool):jiN cb (if p then x else y)=if p then jiN cb x else jiN cb y:=by split <;> rfl
@[simp] theorem jbf {p:Prop} [Decidable p] (x y:Rs Bool):jlB cb (if p then x else y)=if p then jlB cb x else jlB cb y:=by split <;> rfl
@[simp] theorem Vy {p:Prop} [Decidable p] (x y:Rs Bool):jig (if p then x else y)=if p then jig x else jig y:=by split <;> rfl
def jnG (g':Dat→Dat→Option Dat) (y:Dat) (mc:ME) (r:Rs Dat):Rs Dat:=r.bind fun z S3=>match z with
  | .bl true=>k2b g' y (mc S3)
  | .bl false=> .ok (.bl false) S3
  | _=> .bad
def jnz (g g':Dat→Dat→Option Dat) (x:Dat) (mc:ME) (r:Rs Dat):Rs Dat:=r.bind fun y S2=>jnG g' y mc (Rs.of (g x y) S2)
def kCh (g g':Dat→Dat→Option Dat) (mb mc:ME) (r:Rs Dat):Rs Dat:=r.bind fun x S1=>jnz g g' x mc (mb S1)
theorem jcX:jmq g g' ma mb mc S=kCh g g' mb mc (ma S):=rfl
@[simp] theorem jfa:kCh g g' mb mc (.ok a S)=jnz g g' a mc (mb S):=rfl
@[simp] theorem jcT:jnz g g' a mc (.ok b S)=jnG g' b mc (Rs.of (g a b) S):=rfl
@[simp] theorem jc1 (t:Bool):jnG g' b mc (.ok (.bl t) S)=if t=true then k2b g' b (mc S) else .ok (.bl false) S:=by cases t <;> rfl
def jn8 (i:Nat) (r:Rs Dat):Rs Dat:=r.bind fun k S1=>match wd i S1 with
  | some ds=>Rs.of (ixD (.lst ds) k) S1
  | none=> .bad
theorem jhy (i:Nat):jkc i ma S=if vG i S=true then jn8 i (ma S) else k2 ixD ma (jh i S):=rfl
@[simp] theorem jcN (i:Nat):jn8 i (.ok d S)=match wd i S with
  | some ds=>Rs.of (ixD (.lst ds) d) S
  | none=> .bad:=rfl
def jn6 (g:Dat→Dat→Option Dat) (i:Nat) (r:Rs Dat):Rs Dat:=r.bind fun b S1=>match wd i S1 with
  | some ds=>(match g (.lst ds) b with
    | some d=>if scal d=true then .ok d S1 else .bad
    | none=> .bad)
  | none=> .bad
theorem jho (i:Nat):joh g i mb S=if vG i S=true then jn6 g i (mb S) else k2 g mb (jh i S):=rfl
@[simp] theorem jcv (i:Nat):jn6 g i (.ok d S)=match wd i S with
  | some ds=>(match g (.lst ds) d with
    | some d=>if scal d=true then .ok d S else .bad
    | none=> .bad)
  | none=> .bad:=rfl
def jnK (mb:ME) (r:Rs Dat):Rs Dat:=r.bind fun a S1=>match a with
  | .str x=>k2b jgj (.str x) (mb S1)
  | _=> .bad
theorem jly:mJn ma mb S=jnK mb (ma S):=rfl
@[simp] theorem jeQ (x:Str):jnK mb (.ok (.str x) S)=k2b jgj (.str x) (mb S):=rfl
def fFK (S:Sg) (is:List Nat):RF→Rs Dat
  | .ok d outs=>(match wb S is outs with
    | some S'=> .ok d S'
    | none=> .bad)
  | .exc c es outs=>(match wb S is outs with
    | some S'=> .exc c es S'
    | none=> .bad)
  | .bad=> .bad
@[simp] theorem je4 (is:List Nat) (os:List Own):fFK S is (.ok d os)=(match wb S is os with | some S'=> .ok d S' | none=> .bad):=rfl
def apK (Fn:List FA→RF) (S:Sg):Option (List FA×List Nat)→Rs Dat
  | none=> .bad
  | some (fs,is)=>if yr is=true then fFK S is (Fn fs) else .bad
theorem jcy (Fn:List FA→RF) (as:List AV):Vc Fn as S=apK Fn S (Y4 S as):=by
  unfold Vc apK
  cases Y4 S as with
  | none=>rfl
  | some p=>
    obtain ⟨fs,is⟩:=p
    dsimp only
    by_cases h:yr is=true
    · rw [if_pos h,if_pos h]; cases Fn fs <;> rfl
    · rw [if_neg h,if_neg h]
@[simp] theorem jbo (Fn:List FA→RF) (fs:List FA) (is:List Nat):apK Fn S (some (fs,is))=if yr is=true then fFK S is (Fn fs) else .bad:=rfl
def jnT (Fn:List FA→RF) (n m:Nat) (arr:List AV→List AV→List AV) (as:List AV) (r:Rs (List AV)):Rs Dat:=r.bind fun bs S2=>if as.length=n∧bs.length=m then Vc Fn (arr as bs) S2 else .bad
def cfK (Fn:List FA→RF) (n m:Nat) (arr:List AV→List AV→List AV) (mk:MAv) (r:Rs (List AV)):Rs Dat:=r.bind fun as S1=>jnT Fn n m arr as (mk S1)
theorem jcG (Fn:List FA→RF) (n m:Nat) (arr:List AV→List AV→List AV) (mr mk:MAv):jA Fn n m arr mr mk S=cfK Fn n m arr mk (mr S):=rfl
@[simp] theorem je3 (Fn:List FA→RF) (n m:Nat) (arr:List AV→List AV→List AV) (mk:MAv) (as:List AV):cfK Fn n m arr mk (.ok as S)=jnT Fn n m arr as (mk S):=rfl
@[simp] theorem jcY (Fn:List FA→RF) (n m:Nat) (arr:List AV→List AV→List AV) (as bs:List AV):jnT Fn n m arr as (.ok bs S)=if as.length=n∧bs.length=m then Vc Fn (arr as bs) S else .bad:=rfl
theorem jeJ:jn S= .ok [] S:=rfl
def vd2 (d:Dat) (r:Rs (List AV)):Rs (List AV):=r.bind fun r S2=> .ok (.dat d :: r) S2
def vd (mr:MAv) (r:Rs Dat):Rs (List AV):=r.bind fun d S1=>vd2 d (mr S1)
theorem je8 (mr:MAv):jQ ma mr S=vd mr (ma S):=rfl
@[simp] theorem jhe (mr:MAv):vd mr (.ok d S)=vd2 d (mr S):=rfl
@[simp] theorem jfc (as:List AV):vd2 d (.ok as S)= .ok (.dat d :: as) S:=rfl
@[simp] theorem je9 {p:Prop} [Decidable p] (mr:MAv) (x y:Rs Dat):vd mr (if p then x else y)=if p then vd mr x else vd mr y:=by split <;> rfl
def vs2 (i:Nat) (r:Rs (List AV)):Rs (List AV):=r.bind fun r S2=> .ok (.slot i :: r) S2
theorem jc3 (i:Nat) (mr:MAv):jfN i mr S=if WP i S=true then vs2 i (mr S) else .bad:=rfl
@[simp] theorem je1 (i:Nat) (as:List AV):vs2 i (.ok as S)= .ok (.slot i :: as) S:=rfl
def jng (c:Str) (Fn:List FA→RF) (n m:Nat) (arr:List AV→List AV→List AV) (as:List AV) (r:Rs (List AV)):Rs Dat:=r.bind fun bs S2=>if as.length=n∧bs.length=m then jkt c Fn (arr as bs) S2 else .bad
def mkK (c:Str) (Fn:List FA→RF) (n m:Nat) (arr:List AV→List AV→List AV) (mk:MAv) (r:Rs (List AV)):Rs Dat:=r.bind fun as S1=>jng c Fn n m arr as (mk S1)
theorem jew (c:Str) (Fn:List FA→RF) (n m:Nat) (arr:List AV→List AV→List AV) (mr mk:MAv):jnj c Fn n m arr mr mk S=mkK c Fn n m arr mk (mr S):=rfl
@[simp] theorem jeW (c:Str) (Fn:List FA→RF) (n m:Nat) (arr:List AV→List AV→List AV) (mk:MAv) (as:List AV):mkK c Fn n m arr mk (.ok as S)=jng c Fn n m arr as (mk S):=rfl
@[simp] theorem jcS (c:Str) (Fn:List FA→RF) (n m:Nat) (arr:List AV→List AV→List AV) (as bs:List AV):jng c Fn n m arr as (.ok bs S)=if as.length=n∧bs.length=m then jkt c Fn (arr as bs) S else .bad:=rfl
def jmV (cs:List Str) (Fn:List FA→RF) (r:Rs Dat):Rs Dat:=r.bind fun d S1=>match d with
  | .ins c fs=>if cs.contains c then (Vc Fn [.dat (.ins c fs)] S1).calm else .bad
  | _=> .bad
theorem jeL (cs:List Str) (Fn:List FA→RF):jnJ cs Fn ma S=jmV cs Fn (ma S):=rfl
@[simp] theorem jbq (cs:List Str) (Fn:List FA→RF) (c:Str) (fs:List (Str×Dat)):jmV cs Fn (.ok (.ins c fs) S)=if cs.contains c=true then (Vc Fn [.dat (.ins c fs)] S).calm else .bad:=rfl
end
end Mir
namespace Mir
open PySem PySem.Spec PyProof.Rows L2
section
variable {X:Cx} {cm:CM} {W:WX} {a b e o:Expr} {es:List Expr} {ma mb:ME} {mr mk:MAv} {pos p p2:Pos} {nm x:Str}
abbrev MO:=Sg→Rs (Option Int)
abbrev rO:Rep (Option Int) (Option Int):=fun _ _ a b=>a=b
abbrev tO (cm:CM) (K:PySem.W.Frag) (W:WX) (m:MO):TO:=tG cm K W rO m
def oN:MO:=fun S=> .ok none S
def oS (m:ME):MO:=fun S=>(m S).bind fun d S1=>match d with
  | .int i=> .ok (some i) S1
  | _=> .bad
theorem PO.weak {eo:Option Expr} {t t':TO} (h:PO X eo t) (i:∀ σ H Q,t' σ H Q→t σ H Q):PO X eo t':=⟨fun pins s σ H Q I q=>h.run pins s σ H Q I (i σ H Q q)⟩
theorem jkQ:PO X none (tO cm X.K W oN):=PO.weak po_none fun σ H Q ⟨F,S,e1,e2,R,h⟩=>h none H R (.refl _) rfl
theorem jln (he:PE X e (tE cm X.K W ma)):PO X (some e) (tO cm X.K W (oS ma)):=PO.weak (po_some he) fun σ H Q ⟨F,S,e1,e2,R,h⟩=>jD e1 e2 R h fun F x H1 d S1 e1 e2 R1 s1 p1 h1=>by
  cases p1 with
  | int i=>exact ⟨i,rfl,h1 (some i) H1 R1 (.refl _) rfl⟩
  | _=>exact False.elim h1
def jiu {α:Type} (xs:List α) (lo hi:Option Int):List α:=(xs.drop (HT.sIx xs.length 0 lo)).take (HT.sIx xs.length xs.length hi - HT.sIx xs.length 0 lo)
theorem jka {K:PySem.W.Frag} {G:VH} {vs:List V} {ds:List Dat} (r:RpAll cm K G vs ds) (lo hi:Option Int):RpAll cm K G (cutV vs lo hi) (jiu ds lo hi):=by
  have dr:∀ {vs:List V} {ds:List Dat},RpAll cm K G vs ds→∀ n,RpAll cm K G (vs.drop n) (ds.drop n):=by
    intro vs ds r n
    induction n generalizing vs ds with
    | zero=>exact r
    | succ n ih=>
      cases r with
      | nil=>exact .nil
      | cons a b=>exact ih b
  have tk:∀ {vs:List V} {ds:List Dat},RpAll cm K G vs ds→∀ n,RpAll cm K G (vs.take n) (ds.take n):=by
    intro vs ds r n
    induction n generalizing vs ds with
    | zero=>exact .nil
    | succ n ih=>
      cases r with
      | nil=>exact .nil
      | cons a b=>exact .cons a (ih b)
  unfold cutV jiu
  rw [r.length]
  exact tk (dr r _) _
def jih (d:Dat) (lo hi:Option Int):Option Dat:=match d with
  | .lst ds=>some (.lst (jiu ds lo hi))
  | .ro ds=>some (.lst (jiu ds lo hi))
  | _=>none
def mSl (m:ME) (ml mh:MO):ME:=fun S=>(m S).bind fun d S1=>(ml S1).bind fun lo S2=>(mh S2).bind fun hi S3=>Rs.of (jih d lo hi) S3
theorem jjt {lo hi:Option Expr} {ml mh:MO} (he:PE X e (tE cm X.K W ma)) (hl:PO X lo (tO cm X.K W ml)) (hh:PO X hi (tO cm X.K W mh)):PE X (.Subscript e (.Slice lo hi none p2) pos) (tE cm X.K W (mSl ma ml mh)):=
  PE.weak (pe_slice sl_list he hl hh) fun σ H Q ⟨F,S,e1,e2,R,h⟩=>jD e1 e2 R h fun F x H1 d S1 e1 e2 R1 s1 p1 h1=>jD e1 e2 R1 h1 fun F l H2 l' S2 e1 e2 R2 s2 q2 h2=>jD e1 e2 R2 h2 fun F u H3 u' S3 e1 e2 R3 s3 q3 h3=>by
    cases q2
    cases q3
    cases p1 with
    | @lst aa vv dd ha ra=>
      have ha3:=s3 _ _ (s2 _ _ ha)
      refine ⟨_,_,rfl,SqL.of (Jk _ _ ha3),fun p hp=>?_⟩
      have sn:=jZ (o:= .lst (cutV vv l u)) hp
      exact h3 _ _ (R3.grow sn) (vx sn) (.lst (wK R3.live hp) (jka (RpAll.mono ((s2.trans s3).trans (vx sn)) ra) l u))
    | @ro aa vv dd ha ra=>
      refine ⟨_,_,rfl,L2.Same.seq Jk (L2.Same.seq (s2.trans s3).h ha),fun p hp=>?_⟩
      have sn:=jZ (o:= .lst (cutV vv l u)) hp
      exact h3 _ _ (R3.grow sn) (vx sn) (.lst (wK R3.live hp) (jka (RpAll.mono ((s2.trans s3).trans (vx sn)) ra) l u))
    | _=>exact False.elim h3
end
end Mir
namespace Mir
open PySem PySem.Spec PyProof.Rows L2
section
variable {X:Cx} {cm:CM} {W:WX} {elt tg iter a b:Expr} {ifs:List Expr} {scope:Scope} {own:List (Str×Nat)} {pos p p2:Pos} {mi:Sg→Rs (List Dat)} {t:TG} {g:Dat→Sg→Option Sg} {c:MT} {e ma mb:ME}
def lLc (mi:Sg→Rs (List Dat)) (g:Dat→Sg→Option Sg) (c:MT) (e:ME) (vs:List Nat):Sg→Rs (List Dat):=fun S=>(mi S).bind fun ds S1=>jcb g c e vs ds [] (zD S1 vs)
end
end Mir
namespace Mir
open PySem L2
abbrev eI:Int→Dat:=Dat.int
abbrev eB:Bool→Dat:=Dat.bl
abbrev eS:Str→Dat:=Dat.str
abbrev eU:Unit→Dat:=fun _=> .non
abbrev eD:Dat→Dat:=fun d=>d
abbrev eL {α:Type} (f:α→Dat) (xs:List α):Dat:= .lst (xs.map f)
abbrev eT {α:Type} (f:α→Dat) (xs:List α):Dat:= .tup (xs.map f)
abbrev eR {α:Type} (f:α→Dat) (xs:List α):Dat:= .ro (xs.map f)
abbrev e1 {α:Type} (f:α→Dat) (p:α):Dat:= .tup [f p]
abbrev e2 {α β:Type} (f:α→Dat) (g:β→Dat) (p:α×β):Dat:= .tup [f p.1,g p.2]
abbrev e3 {α β γ:Type} (f:α→Dat) (g:β→Dat) (h:γ→Dat) (p:α×β×γ):Dat:= .tup [f p.1,g p.2.1,h p.2.2]
abbrev e4 {α β γ δ:Type} (f:α→Dat) (g:β→Dat) (h:γ→Dat) (i:δ→Dat) (p:α×β×γ×δ):Dat:= .tup [f p.1,g p.2.1,h p.2.2.1,i p.2.2.2]
theorem bind_some {α β:Type} {o:Option α} {k:α→Option β} {b:β} (h:o.bind k=some b):∃ a,o=some a∧k a=some b:=by
  cases o with
  | none=>cases h
  | some a=>exact ⟨a,rfl,h⟩
theorem vz {α:Type} {t:Bool} {x y:Option α} {a:α} (h:(if t=true then x else y)=some a):(t=true∧x=some a)∨(t=false∧y=some a):=by
  cases t with
  | true=>exact .inl ⟨rfl,h⟩
  | false=>exact .inr ⟨rfl,h⟩
section
variable {α β γ:Type} {S S1 S2 S3 S4:Sg} {a b c d d':Dat} {ma mb:ME} {mr:MA} {g g':Dat→Dat→Option Dat} {i j:Nat}
theorem zP (h:ma S= .ok d S1) (e:d=d'):ma S= .ok d' S1:=by rw [h,e]
theorem x_C:mC d S= .ok d S:=rfl
theorem jf (h:S[i]? =some (.dat d)):jh i S= .ok d S:=by unfold jh; rw [h]
theorem jlE {ds:List Dat} (h:S[i]? =some (.loc ds)) (h2:S.set i (.dat (.lst ds))=S1):jh i S= .ok (.lst ds) S1:=by unfold jh; rw [h,← h2]
theorem x_2 (ha:ma S= .ok a S1) (hb:mb S1= .ok b S2) (h:g a b=some c):m2 g ma mb S= .ok c S2:=by
  unfold m2; rw [ha,Rs.bind_ok,hb,Rs.bind_ok,h]; rfl
theorem x_1 {f:Dat→Option Dat} (ha:ma S= .ok a S1) (h:f a=some c):m1 f ma S= .ok c S1:=by
  unfold m1; rw [ha,Rs.bind_ok,h]; rfl
theorem jp:jY S= .ok [] S:=rfl
theorem jc {ds:List Dat} (ha:ma S= .ok a S1) (hr:mr S1= .ok ds S2):je ma mr S= .ok (a :: ds) S2:=by
  unfold je; rw [ha,Rs.bind_ok,hr]; rfl
theorem v9 {f:List Dat→Option Dat} {ds:List Dat} (hr:mr S= .ok ds S1) (h:f ds=some c):JF f mr S= .ok c S1:=by
  unfold JF; rw [hr,Rs.bind_ok,h]; rfl
theorem vj {ds:List Dat} (hr:mr S= .ok ds S1) (h:ds.length≤lim):zk mr S= .ok (.lst ds) S1:=v9 hr (by unfold jjQ; rw [if_pos h])
theorem vF {ds:List Dat} (hr:mr S= .ok ds S1) (h:ds.length≤lim):YX mr S= .ok (.tup ds) S1:=v9 hr (by unfold jjS; rw [if_pos h])
theorem jmR {ct:MT} {t:Bool} {f:α→Dat} {st:α→Sg} {nA nB:Option α} {v:α} (hc:ct S= .ok t S1) (ha:∀ v,nA=some v→ma S1= .ok (f v) (st v)) (hb:∀ v,nB=some v→mb S1= .ok (f v) (st v)) (h:(if t=true then nA else nB)=some v):mIf ct ma mb S= .ok (f v) (st v):=by
  unfold mIf; rw [hc,Rs.bind_ok]
  cases t with
  | true=>exact ha v h
  | false=>exact hb v h
theorem jC {x:Bool} (ha:ma S= .ok (.bl x) S1):jE ma S= .ok x S1:=by unfold jE; rw [ha]; rfl
theorem jes {ca cb:MT} {x:Bool} {val:α→Bool} {st:α→Sg} {nB:Option α} {v v0:α} (ha:ca S= .ok x S1) (hb:∀ v,nB=some v→cb S1= .ok (val v) (st v)) (h0:val v0=true) (h1:st v0=S1) (h:(if x=true then some v0 else nB)=some v):cOr ca cb S= .ok (val v) (st v):=by
  unfold cOr; rw [ha,Rs.bind_ok]
  cases x with
  | true=>cases h; rw [h0,h1]; rfl
  | false=>exact hb v h
theorem jhB {ca:MT} {x:Bool} (ha:ca S= .ok x S1):jgb ca S= .ok (!x) S1:=by unfold jgb; rw [ha]; rfl
theorem o_n:oN S= .ok none S:=rfl
theorem o_s {n:Int} (h:ma S= .ok (.int n) S1):oS ma S= .ok (some n) S1:=by unfold oS; rw [h]; rfl
theorem joe {ml mh:MO} {lo hi:Option Int} (ha:ma S= .ok a S1) (hl:ml S1= .ok lo S2) (hh:mh S2= .ok hi S3) (h:jih a lo hi=some c):mSl ma ml mh S= .ok c S3:=by
  unfold mSl; rw [ha,Rs.bind_ok,hl,Rs.bind_ok,hh,Rs.bind_ok,h]; rfl
theorem jg:jn S= .ok [] S:=rfl
theorem js {m:MAv} {as:List AV} (ha:ma S= .ok a S1) (hr:m S1= .ok as S2):jQ ma m S= .ok (.dat a :: as) S2:=by unfold jQ; rw [ha,Rs.bind_ok,hr]; rfl
theorem jiV {m:MAv} {as:List AV} (hm:WP i S=true) (hr:m S= .ok as S2):jfN i m S= .ok (.slot i :: as) S2:=by unfold jfN; rw [if_pos hm,hr]; rfl
theorem jkN {Fn:List FA→RF} {as:List AV} {fs:List FA} {is:List Nat} {outs:List Own} (hf:Y4 S as=some (fs,is)) (nd:yr is=true) (hF:Fn fs= .ok d outs) (hw:wb S is outs=some S1):Vc Fn as S= .ok d S1:=by
  unfold Vc; simp only [hf,nd,if_true,hF,hw]
theorem Jl {Fn:List FA→RF} {n m:Nat} {arr:List AV→List AV→List AV} {mA mK:MAv} {as bs:List AV} {fs:List FA} {is:List Nat} {outs:List Own} (ha:mA S= .ok as S1) (hk:mK S1= .ok bs S2) (hl:as.length=n∧bs.length=m) (hf:Y4 S2 (arr as bs)=some (fs,is)) (nd:yr is=true) (hF:Fn fs= .ok d outs) (hw:wb S2 is outs=some S3):jA Fn n m arr mA mK S= .ok d S3:=by
  unfold jA; rw [ha,Rs.bind_ok,hk,Rs.bind_ok,if_pos hl]; exact jkN hf nd hF hw
theorem jmJ {Fn:List FA→RF} {mL:Sg→Rs (List Dat)} {ds:List Dat} {o:Own} (hl:mL S= .ok ds S1) (hF:Fn [.own (.lst ds)]= .ok d [o]):jh9 Fn mL S= .ok d S1:=by
  unfold jh9; rw [hl,Rs.bind_ok]; simp only [hF]
theorem jok {x:Str} (ha:ma S= .ok (.str x) S1) (hb:mb S1= .ok b S2) (h:jgj (.str x) b=some c):mJn ma mb S= .ok c S2:=by
  unfold mJn; rw [ha,Rs.bind_ok]; simp only []; rw [hb,Rs.bind_ok,h]; rfl
theorem jk7 {ds:List Dat} (h:mr S= .ok ds S1) (hl:ds.length≤lim):jkn mr S= .ok ds S1:=by unfold jkn; rw [h,Rs.bind_ok,if_pos hl]
theorem jl2 {L:List Dat→Option (List Dat)} {n:Nat} {mA:MAv} {as:List AV} {ds es:List Dat} (ha:mA S= .ok as S1) (hl:as.length=n) (hd:jdN as=some ds) (h:L ds=some es):jjU L n mA S= .ok es S1:=by
  unfold jjU; rw [ha,Rs.bind_ok,if_pos hl]; simp only [hd,h]; rfl
variable {P:Rs Fl→Prop} {m m' rest:MS}
theorem VD (k:P (Jo m we S)):P (m S):=by
  have e:Jo m we S=m S:=by
    unfold Jo we
    cases m S with
    | ok f S1=>cases f <;> rfl
    | _=>rfl
  rw [← e]; exact k
theorem jm (k:P (Jo m (Jo m' rest) S)):P (Jo (Jo m m') rest S):=by
  have e:Jo (Jo m m') rest S=Jo m (Jo m' rest) S:=by
    unfold Jo
    cases h:m S with
    | ok f S1=>cases f <;> rfl
    | _=>rfl
  rw [e]; exact k
theorem jfR (h:m S= .ok .nx S1) (k:P (rest S1)):P (Jo m rest S):=by
  have e:Jo m rest S=rest S1:=by unfold Jo; rw [h]
  rw [e]; exact k
theorem jmK {r:Rs Fl} (h:m S=r) (hr:∀ S1,r ≠ .ok .nx S1) (k:P r):P (Jo m rest S):=by
  have e:Jo m rest S=r:=by
    unfold Jo; rw [h]
    cases r with
    | ok f S1=>
      cases f with
      | nx=>exact absurd rfl (hr S1)
      | _=>rfl
    | _=>rfl
  rw [e]; exact k
theorem zr (k:P (rest S)):P (Jo we rest S):=jfR rfl k
theorem yK (he:ma S= .ok d S1) (k:P (.ok (.rt d) S1)):P (Jo (YY ma) rest S):=jmK (r:= .ok (.rt d) S1) (by unfold YY; rw [he]; rfl) (fun _ h=>by cases h) k
theorem ye (he:ma S= .ok d S1) (hS:S1.set i (.dat d)=S2) (k:P (rest S2)):P (Jo (Vb ma (gNm i)) rest S):=jfR (by unfold Vb gNm; rw [he,Rs.bind_ok,Rs.bind_ok,hS]) k
theorem job {ct:MT} {t:Bool} (hc:ct S= .ok t S1) (ha:t=true→P (Jo m rest S1)) (hb:t=false→P (Jo m' rest S1)):P (Jo (V8 ct m m') rest S):=by
  have e:Jo (V8 ct m m') rest S=if t=true then Jo m rest S1 else Jo m' rest S1:=by
    unfold Jo V8
    rw [hc,Rs.bind_ok]
    cases t <;> rfl
  rw [e]
  cases t with
  | true=>exact ha rfl
  | false=>exact hb rfl
theorem jd4 {mL:Sg→Rs (List Dat)} {ds:List Dat} (h:mL S= .ok ds S1) (hS:S1.set i (.loc ds)=S2) (k:P (rest S2)):P (Jo (jdt i mL) rest S):=jfR (by unfold jdt; rw [h,Rs.bind_ok,hS]) k
theorem jnc (h:mr S= .ok [a,b] S1) (hS:(S1.set i (.dat a)).set j (.dat b)=S2) (k:P (rest S2)):P (Jo (jlW i j mr) rest S):=jfR (by unfold jlW; rw [h,Rs.bind_ok]; simp only [hS]) k
theorem jmU {ds:List Dat} (hm:vG i S=true) (he:ma S= .ok d S1) (h:S1[i]? =some (.loc ds)) (hl:ds.length < lim) (hS:S1.set i (.loc (ds ++ [d]))=S2) (k:P (rest S2)):P (Jo (jdF i ma) rest S):=jfR (by
  unfold jdF; rw [if_pos hm,he,Rs.bind_ok]
  have m1:vG i S1=true:=by unfold vG; rw [h]
  rw [if_pos m1]
  unfold jd7
  simp only [h,hl,if_true,hS]) k
theorem jh3 {f:List Dat→Option (List Dat)} {ds es:List Dat} (h:mr S= .ok ds S1) (hf:f ds=some es):jh5 f mr S= .ok es S1:=by unfold jh5; rw [h,Rs.bind_ok,hf]; rfl
theorem jit {es:List Dat} (h:ma S= .ok a S1) (hf:jg2 a=some es):jfV ma S= .ok es S1:=by unfold jfV; rw [h,Rs.bind_ok,hf]; rfl
end
inductive Stp (ρ σ:Type) where
  | nx (s:σ)
  | bk (s:σ)
  | rt (r:ρ)
def jjG {ι ρ σ:Type} (b:ι→σ→Option (Stp ρ σ)):List ι→σ→Option (Stp ρ σ)
  | [],s=>some (.nx s)
  | x :: xs,s=>(b x s).bind fun st=>match st with
    | .nx s'=>jjG b xs s'
    | .bk s'=>some (.nx s')
    | .rt r=>some (.rt r)
def LN {σ:Type} (T:σ→(Nat→vW)→Sg) (s:σ) (r:Rs Fl):Prop:= ∃ j,r= .ok .nx (T s j)∨r= .ok .ct (T s j)
def LB {ρ σ:Type} (T:σ→(Nat→vW)→Sg) (RT:ρ→Rs Fl→Prop) (st:Stp ρ σ) (r:Rs Fl):Prop:=match st with
  | .nx s=>LN T s r
  | .bk s=> ∃ j,r= .ok .bk (T s j)
  | .rt v=>RT v r
def LE {ρ σ:Type} (T:σ→(Nat→vW)→Sg) (RT:ρ→Rs Fl→Prop) (st:Stp ρ σ) (r:Rs Fl):Prop:=match st with
  | .nx s=> ∃ j,r= .ok .nx (T s j)
  | .bk _=>False
  | .rt v=>RT v r
theorem jnh {σ:Type} {T:σ→(Nat→vW)→Sg} {s:σ} {S:Sg} (h:T s (fun i=>S.getD i .no)=S):LN T s (.ok .nx S):=⟨_,.inl (by rw [h])⟩
theorem jdQ {ι ρ σ:Type} {T:σ→(Nat→vW)→Sg} {RT:ρ→Rs Fl→Prop} {f:ι→Dat} {g:MG} {b:MS} {nb:ι→σ→Option (Stp ρ σ)}
    (hR:∀ v r,RT v r→∃ d S,r= .ok (.rt d) S)
    (hb:∀ x s j st,nb x s=some st→∃ S1,g (f x) (T s j)= .ok () S1∧LB T RT st (b S1)):∀ (its:List ι) (s:σ) (j:Nat→vW) (st:Stp ρ σ),jjG nb its s=some st→LE T RT st (jaZ g b (its.map f) (T s j))
  | [],s,j,s',h=>by cases h; exact ⟨j,rfl⟩
  | x :: xs,s,j,st,h=>by
    obtain ⟨st1,h1,h2⟩:=bind_some h
    obtain ⟨S1,e1,e2⟩:=hb x s j st1 h1
    rw [List.map_cons]
    unfold jaZ
    rw [e1,Rs.bind_ok]
    cases st1 with
    | nx s1=>
      obtain ⟨j1,e2⟩:=e2
      have e3:=jdQ hR hb xs s1 j1 st h2
      rcases e2 with e2 | e2 <;> · rw [e2]; exact e3
    | bk s1=>
      obtain ⟨j1,e2⟩:=e2
      cases h2
      rw [e2]
      exact ⟨j1,rfl⟩
    | rt v=>
      cases h2
      obtain ⟨d,S2,e3⟩:=hR v _ e2
      have e4:RT v (b S1):=e2
      rw [e3] at e4 ⊢
      exact e4
section
variable {S S1 S2:Sg} {P:Rs Fl→Prop} {rest:MS}
theorem jj0 {mi:Sg→Rs (List Dat)} {g:MG} {b:MS} {ds:List Dat} (h:mi S= .ok ds S1) (k:P (Jo (jaZ g b ds) rest S1)):P (Jo (jk8 mi g b) rest S):=by
  have e:Jo (jk8 mi g b) rest S=Jo (jaZ g b ds) rest S1:=by unfold Jo jk8; rw [h]; rfl
  rw [e]; exact k
end
def lcS {ι α σ:Type} (nb:ι→σ→Option (Option α×σ)):List ι→σ→Option (List α×σ)
  | [],s=>some ([],s)
  | x :: xs,s=>(nb x s).bind fun p=>(lcS nb xs p.2).bind fun q=>some (p.1.toList ++ q.1,q.2)
def jjo {ι α:Type} (nb:ι→Option α):List ι→Option (List α)
  | []=>some []
  | x :: xs=>(nb x).bind fun p=>(jjo nb xs).bind fun q=>some (p :: q)
def lcO {ι α:Type} (nb:ι→Option (Option α)):List ι→Option (List α)
  | []=>some []
  | x :: xs=>(nb x).bind fun p=>(lcO nb xs).bind fun q=>some (p.toList ++ q)
def ji5 {α:Type} (xs:List α):Option (List α):=if xs.length≤lim then some xs else none
theorem jiH {α:Type} {xs ys:List α} (h:ji5 xs=some ys):xs=ys∧ys.length≤lim:=by
  unfold ji5 at h
  split at h
  · cases h; exact ⟨rfl,by assumption⟩
  · cases h
theorem jkB {α:Type} {xs:List α} (h:xs.length≤lim):ji5 xs=some xs:=if_pos h
def jnD {α σ:Type} (o:Option (List α×σ)):Option (List α×σ):=o.bind fun p=>if p.1.length≤lim then some p else none
def jkF {α:Type} (o:Option (List α)):Option (List α):=o.bind ji5
section
variable {ι α σ:Type} {T:σ→Sg} {f:ι→Dat} {fo:α→Dat} {g:Dat→Sg→Option Sg} {c:MT} {e:ME} {vs:List Nat}
theorem jdW {nb:ι→σ→Option (Option α×σ)} (hb:∀ x s p,nb x s=some p→∃ S1,g (f x) (T s)=some S1∧match p.1 with
      | none=> ∃ S2,c S1= .ok false S2∧zD S2 vs=T p.2
      | some y=> ∃ S2 S3,c S1= .ok true S2∧e S2= .ok (fo y) S3∧zD S3 vs=T p.2):∀ (its:List ι) (acc:List Dat) (s:σ) (ys:List α) (s':σ),lcS nb its s=some (ys,s')→acc.length + ys.length≤lim→jcb g c e vs (its.map f) acc (T s)= .ok (acc ++ ys.map fo) (T s')
  | [],acc,s,ys,s',h,_=>by cases h; simp [jcb]
  | x :: xs,acc,s,ys,s',h,hl=>by
    unfold lcS at h
    obtain ⟨⟨o,s1⟩,h1,h2⟩:=bind_some h
    obtain ⟨⟨qs,s2⟩,h3,h4⟩:=bind_some h2
    obtain ⟨rfl,rfl⟩:o.toList ++ qs=ys∧s2=s':=by
      have:=Option.some.inj h4
      exact ⟨congrArg Prod.fst this,congrArg Prod.snd this⟩
    obtain ⟨S1,e1,e2⟩:=hb x s _ h1
    rw [List.map_cons]
    unfold jcb
    rw [e1,Rs.of_some,Rs.bind_ok]
    cases o with
    | none=>
      obtain ⟨S2,e3,e4⟩:=e2
      rw [e3,Rs.calm_ok,Rs.bind_ok,if_neg (by simp),e4]
      exact jdW hb xs acc s1 qs s2 h3 (by simpa using hl)
    | some y=>
      obtain ⟨S2,S3,e3,e4,e5⟩:=e2
      have hl2:acc.length + (qs.length + 1)≤lim:=by simpa using hl
      rw [e3,Rs.calm_ok,Rs.bind_ok,if_pos rfl,e4,Rs.calm_ok,Rs.bind_ok,if_pos (by omega),e5]
      have ih:=jdW hb xs (acc ++ [fo y]) s1 qs s2 h3 (by simp; omega)
      rw [ih]
      simp
theorem joj {nb:ι→σ→Option (Option α×σ)} {mi:Sg→Rs (List Dat)} {S S1:Sg} {its:List ι} {s s':σ} {ys:List α} (hi:mi S= .ok (its.map f) S1) (hw:zD S1 vs=T s)
    (hb:∀ x s p,nb x s=some p→∃ S1,g (f x) (T s)=some S1∧match p.1 with
      | none=> ∃ S2,c S1= .ok false S2∧zD S2 vs=T p.2
      | some y=> ∃ S2 S3,c S1= .ok true S2∧e S2= .ok (fo y) S3∧zD S3 vs=T p.2) (h:jnD (lcS nb its s)=some (ys,s')):lLc mi g c e vs S= .ok (ys.map fo) (T s'):=by
  unfold jnD at h
  obtain ⟨p,h1,h2⟩:=bind_some h
  split at h2
  · cases h2
    unfold lLc
    rw [hi,Rs.bind_ok,hw]
    have:=jdW hb its [] s ys s' h1 (by simpa using by assumption)
    simpa using this
  · cases h2
theorem jiX {nb:ι→Option (Option α)}:∀ (its:List ι),lcS (σ:=Unit) (fun x s=>(nb x).bind fun p=>some (p,())) its ()=(lcO nb its).bind fun ys=>some (ys,())
  | []=>rfl
  | x :: xs=>by
    unfold lcS lcO
    cases nb x with
    | none=>rfl
    | some p=>
      simp only [Option.bind_some]
      rw [jiX xs]
      cases lcO nb xs <;> rfl
theorem jnW {nb:ι→Option (Option α)} {mi:Sg→Rs (List Dat)} {S S1 S0:Sg} {its:List ι} {ys:List α} (hi:mi S= .ok (its.map f) S1) (hw:zD S1 vs=S0)
    (hb:∀ x p,nb x=some p→∃ S1,g (f x) S0=some S1∧match p with
      | none=> ∃ S2,c S1= .ok false S2∧zD S2 vs=S0
      | some y=> ∃ S2 S3,c S1= .ok true S2∧e S2= .ok (fo y) S3∧zD S3 vs=S0) (h:jkF (lcO nb its)=some ys):lLc mi g c e vs S= .ok (ys.map fo) S0:=by
  refine joj (σ:=Unit) (T:=fun _=>S0) (s:=()) (s':=()) (nb:=fun x s=>(nb x).bind fun p=>some (p,())) hi hw (fun x s p hp=>?_) ?_
  · obtain ⟨q,h1,h2⟩:=bind_some hp
    cases h2
    exact hb x q h1
  · unfold jkF at h
    obtain ⟨zs,h1,h2⟩:=bind_some h
    obtain ⟨rfl,h3⟩:=jiH h2
    unfold jnD
    rw [jiX,h1]
    simp [h3]
theorem jgA {nb:ι→Option α}:∀ (its:List ι),lcO (fun x=>(nb x).bind fun p=>some (some p)) its=jjo nb its
  | []=>rfl
  | x :: xs=>by
    unfold lcO jjo
    cases nb x with
    | none=>rfl
    | some p=>simp [jgA xs]
theorem ji2 {nb:ι→Option α} {mi:Sg→Rs (List Dat)} {S S1 S0:Sg} {its:List ι} {ys:List α} (hi:mi S= .ok (its.map f) S1) (hw:zD S1 vs=S0)
    (hb:∀ x p,nb x=some p→∃ S1 S3,g (f x) S0=some S1∧e S1= .ok (fo p) S3∧zD S3 vs=S0) (h:jkF (jjo nb its)=some ys):lLc mi g jl7 e vs S= .ok (ys.map fo) S0:=by
  refine jnW (nb:=fun x=>(nb x).bind fun p=>some (some p)) hi hw (fun x p hp=>?_) (by rw [jgA]; exact h)
  obtain ⟨q,h1,h2⟩:=bind_some hp
  cases h2
  obtain ⟨S1,S3,a1,a2,a3⟩:=hb x q h1
  exact ⟨S1,a1,S1,S3,rfl,a2,a3⟩
theorem ji4 {F:ι→α}:∀ (its:List ι),jjo (fun x=>some (F x)) its=some (its.map F)
  | []=>rfl
  | x :: xs=>by unfold jjo; simp [ji4 xs]
theorem jlT {F:ι→α} {mi:Sg→Rs (List Dat)} {S S1 S0:Sg} {its:List ι} {ys:List α} (hi:mi S= .ok (its.map f) S1) (hw:zD S1 vs=S0)
    (hb:∀ x,∃ S1 S3,g (f x) S0=some S1∧e S1= .ok (fo (F x)) S3∧zD S3 vs=S0) (h:ji5 (its.map F)=some ys):lLc mi g jl7 e vs S= .ok (ys.map fo) S0:=
  ji2 (nb:=fun x=>some (F x)) hi hw (fun x p hp=>by cases hp; exact hb x) (by unfold jkF; rw [ji4]; exact h)
theorem je5 {F:ι→α} {C:ι→Bool}:∀ (its:List ι),lcO (fun x=>some (if C x=true then some (F x) else none)) its=some ((its.filter C).map F)
  | []=>rfl
  | x :: xs=>by
    unfold lcO
    rw [je5 xs]
    cases h:C x <;> simp [h]
theorem jfY {F:ι→α} {C:ι→Bool} {mi:Sg→Rs (List Dat)} {S S1 S0:Sg} {its:List ι} {ys:List α} (hi:mi S= .ok (its.map f) S1) (hw:zD S1 vs=S0)
    (hb:∀ x,∃ S1 S3,g (f x) S0=some S1∧c S1= .ok (C x) S1∧e S1= .ok (fo (F x)) S3∧zD S1 vs=S0∧zD S3 vs=S0) (h:ji5 ((its.filter C).map F)=some ys):lLc mi g c e vs S= .ok (ys.map fo) S0:=
  jnW (nb:=fun x=>some (if C x=true then some (F x) else none)) hi hw (fun x p hp=>by
    cases hp
    obtain ⟨S1,S3,a1,a2,a3,a4,a5⟩:=hb x
    refine ⟨S1,a1,?_⟩
    cases hC:C x with
    | true=>rw [hC] at a2; exact ⟨S1,S3,a2,a3,a5⟩
    | false=>rw [hC] at a2; exact ⟨S1,a2,a4⟩) (by unfold jkF; rw [je5]; exact h)
end
theorem jm3 {mi:Sg→Rs (List Dat)} {g:Dat→Sg→Option Sg} {c:MT} {e:ME} {vs:List Nat} {S S1:Sg} {ds:List Dat} (h:lLc mi g c e vs S= .ok ds S1):mLc mi g c e vs S= .ok (.lst ds) S1:=by
  have e':mLc mi g c e vs S=(lLc mi g c e vs S).bind fun acc S2=> .ok (.lst acc) S2:=by
    unfold mLc lLc
    cases mi S <;> rfl
  rw [e',h]; rfl
def ixN? {α:Type} (xs:List α) (i:Int):Option α:=L2.atI xs i
def Wa {α:Type} (xs ys:List α):Option (List α):=if xs.length + ys.length≤lim then some (xs ++ ys) else none
def jf7 {α:Type} (xs:List α) (x:α):Option (List α):=if xs.length < lim then some (xs ++ [x]) else none
def WG (a b:Int):List Int:=(List.range (b - a).toNat).map fun (k:Nat)=>a + (k:Int)
def jbZ (b:Int):Option (List Int):=if -(2 ^ 62)≤b∧b < 2 ^ 62 then some (WG 0 b) else none
def ji8 {α:Type} (n:Nat):List α→List (Int×α)
  | []=>[]
  | x :: xs=>((n:Int),x) :: ji8 (n + 1) xs
theorem jkX {α β:Type} (f:α→β) (xs:List α) (i:Int):L2.atI (xs.map f) i=(L2.atI xs i).map f:=by
  unfold L2.atI
  rw [List.length_map]
  cases L2.ixN xs.length i with
  | none=>rfl
  | some k=>simp
theorem jow {α:Type} {f:α→Dat} {xs:List α} {i:Int} {x:α} (h:ixN? xs i=some x):ixD (eL f xs) (.int i)=some (f x):=by
  show L2.atI (xs.map f) i=_
  rw [jkX,show L2.atI xs i=some x from h]; rfl
theorem zw {α:Type} {f:α→Dat} {xs ys zs:List α} (h:Wa xs ys=some zs):Vu (eL f xs) (eL f ys)=some (eL f zs):=by
  unfold Wa at h
  split at h
  · rename_i z; cases h
    show (if (xs.map f).length + (ys.map f).length≤lim then _ else _)=_
    rw [List.length_map,List.length_map,if_pos z,← List.map_append]
  · cases h
theorem jkp {a b:Int}:jl8 [.int a,.int b]=some (.int (max a b)):=by
  show some (Dat.int (if b > a then b else a))=_
  congr 2
  split <;> omega
theorem jlG {a b:Int}:jm9 [.int a,.int b]=some (.int (min a b)):=by
  show some (Dat.int (if b < a then b else a))=_
  congr 2
  split <;> omega
theorem jd5:∀ xs:List Bool,Vq (xs.map Dat.bl)=some xs
  | []=>rfl
  | x :: xs=>by simp [Vq,jd5 xs]
theorem jex:∀ xs:List Str,jdj (xs.map Dat.str)=some xs
  | []=>rfl
  | x :: xs=>by simp [jdj,jex xs]
theorem jnM {xs:List Bool}:jnN [eL eB xs]=some (.bl (xs.all id)):=by
  show (Vq (xs.map Dat.bl)).map _=_; rw [jd5]; rfl
theorem jnH {α:Type} {f:α→Dat} {xs:List α}:jhk [eL f xs]=some (.int xs.length):=by
  show some (Dat.int ((xs.map f).length:Nat))=_; rw [List.length_map]
theorem jlH {α:Type} {f:α→Dat} {xs:List α}:jhk [eR f xs]=some (.int xs.length):=by
  show some (Dat.int ((xs.map f).length:Nat))=_; rw [List.length_map]
theorem jkW {α:Type} {f:α→Dat} {xs:List α} {lo hi:Option Int}:jih (eL f xs) lo hi=some (eL f (jiu xs lo hi)):=by
  show some (Dat.lst (jiu (xs.map f) lo hi))=some (Dat.lst ((jiu xs lo hi).map f))
  unfold jiu
  rw [List.length_map,List.map_take,List.map_drop]
theorem jn4 {a b:Dat} {t:Bool} (h:eqB a b=some t):eqD a b=some (.bl t):=by unfold eqD; rw [h]; rfl
theorem jm1 {a b:Dat} {t:Bool} (h:eqB a b=some t):neD a b=some (.bl (!t)):=by unfold neD; rw [h]; rfl
theorem jgF {b:Int} {xs:List Int} (h:jbZ b=some xs):jfD [.int b]=some (xs.map eI):=by
  unfold jbZ at h
  split at h
  · rename_i z; cases h
    show (if -(2 ^ 62)≤b∧b < 2 ^ 62 then _ else _)=_
    rw [if_pos z]
    unfold WG
    rw [List.map_map,show b - 0=b by omega]
    rfl
  · cases h
theorem jdm {α:Type} {f:α→Dat}:∀ (n:Nat) (xs:List α),Va n (xs.map f)=(ji8 n xs).map (e2 eI f)
  | _,[]=>rfl
  | n,x :: xs=>by simp [Va,ji8,jdm (n + 1) xs]
theorem jmp {α:Type} {f:α→Dat} {xs:List α}:jkE [eL f xs]=some ((ji8 0 xs).map (e2 eI f)):=by
  show some (Va 0 (xs.map f))=_; rw [jdm]
theorem jmh {α β:Type} {f:α→Dat} {h:β→Dat} {xs:List α} {ys:List β}:jnC [eL f xs,eL h ys]=some ((xs.zip ys).map (e2 f h)):=by
  show some (List.zipWith _ (xs.map f) (ys.map h))=_
  congr 1
  induction xs generalizing ys with
  | nil=>rfl
  | cons x xs ih=>
    cases ys with
    | nil=>rfl
    | cons y ys=>simp [ih]
theorem jds {α:Type} {f:α→Dat} {xs ys:List α} {x:α} (h:jf7 xs x=some ys):(xs.map f).length < lim∧xs.map f ++ [f x]=ys.map f:=by
  unfold jf7 at h
  split at h
  · rename_i z; cases h; exact ⟨by rw [List.length_map]; exact z,by simp⟩
  · cases h
theorem jm7 {a:Int} {j:Int} {n:Nat} (hn:j=(n:Int)) (h1:n≤1000000) (h2:a.natAbs < 2 ^ 64):jls (.int a) (.int j)=some (.int (a ^ n)):=by
  subst hn
  show (if 0≤(n:Int)∧(n:Int)≤1000000∧a.natAbs < 2 ^ 64 then some (Dat.int (a ^ (n:Int).toNat)) else none)=_
  rw [if_pos ⟨by omega,by omega,h2⟩]
  rfl
section
variable {S S1 S2 S3:Sg} {d:Dat} {ma:ME} {i:Nat} {P:Rs Fl→Prop} {m m' rest:MS}
theorem jar {ct:MT} {t:Bool} (hc:ct S= .ok t S1) (ht:t=true) (k:P (Jo m rest S1)):P (Jo (V8 ct m m') rest S):=job hc (fun _=>k) (fun z=>by rw [ht] at z; cases z)
theorem jaT {ct:MT} {t:Bool} (hc:ct S= .ok t S1) (ht:t=false) (k:P (Jo m' rest S1)):P (Jo (V8 ct m m') rest S):=job hc (fun z=>by rw [ht] at z; cases z) (fun _=>k)
theorem zU {ds ds':List Dat} (hm:vG i S=true) (he:ma S= .ok d S1) (h:S1[i]? =some (.loc ds)) (hq:ds.length < lim∧ds ++ [d]=ds') (hS:S1.set i (.loc ds')=S2) (k:P (rest S2)):P (Jo (jdF i ma) rest S):=jmU hm he h hq.1 (by rw [hq.2]; exact hS) k
end
def Ends (k:Nat) (q:RF) (x:Rs Fl):Prop:=endF k x=q
def RTo {ρ:Type} (k:Nat) (res:ρ→RF) (v:ρ) (x:Rs Fl):Prop:=(∃ d S,x= .ok (.rt d) S)∧Ends k (res v) x
theorem rto {ρ:Type} {k:Nat} {res:ρ→RF}:∀ v x,RTo k res v x→∃ d S,x= .ok (.rt d) S:=fun _ _ h=>h.1
theorem jg6 {ρ:Type} {k:Nat} {res:ρ→RF} {v:ρ} {d:Dat} {S:Sg} (h:Ends k (res v) (.ok (.rt d) S)):RTo k res v (.ok (.rt d) S):=⟨⟨_,_,rfl⟩,h⟩
theorem jd6 {np n:Nat} {m:MS} {as:List FA} {r:RF} {k:Nat} {S:Sg} (hl:as.length=np) (hk:jh7 as=k) (hS:Ja 0 as ++ List.replicate (n - np) .no=S) (h:Ends k r (m S)):wj np n m as=r:=by
  unfold wj; rw [if_pos hl,hk,hS]; exact h
def jj1 {ρ σ τ:Type} (inj:ρ→τ) (o:Option (Stp ρ σ)) (k:σ→Option τ):Option τ:=o.bind fun st=>match st with
  | .nx s=>k s
  | .bk _=>none
  | .rt v=>some (inj v)
theorem jeu {ρ σ τ:Type} {inj:ρ→τ} {o:Option (Stp ρ σ)} {k:σ→Option τ} {a:τ} (h:jj1 inj o k=some a):(∃ s,o=some (.nx s)∧k s=some a)∨(∃ v,o=some (.rt v)∧inj v=a):=by
  obtain ⟨st,h1,h2⟩:=bind_some h
  cases st with
  | nx s=>exact .inl ⟨s,h1,h2⟩
  | bk s=>cases h2
  | rt v=>exact .inr ⟨v,h1,Option.some.inj h2⟩
structure Rg where
  a:Int
  b:Int
  a0:0≤a
  b0:0≤b
  b1:b < 2147483648
def Rg.ds (s:Rg):List Dat:=[.int s.a,.int s.b]
def Rg.own (s:Rg):Own:= .lst s.ds
def Rg.nb (s:Rg):Int:=(s.b * 48311 + 20011) % 2147483563
def Rg.val (s:Rg) (n:Int):Int:=if 0 < s.a then s.a % n else s.nb * s.nb % 2147483497 / 17 % n
def Rg.next (s:Rg) (n:Int):Rg:=if z:0 < s.a∧0 < n then ⟨s.a / n,s.b,Int.ediv_nonneg s.a0 (Int.le_of_lt z.2),s.b0,s.b1⟩ else ⟨s.a,s.nb,s.a0,Int.emod_nonneg _ (by decide),Int.lt_trans (Int.emod_lt_of_pos _ (by decide)) (by decide)⟩
theorem Rg.val0 (s:Rg) {n:Int} (h:0 < n):0≤s.val n:=by
  unfold Rg.val
  split
  · exact Int.emod_nonneg _ (by omega)
  · exact Int.emod_nonneg _ (by omega)
theorem Rg.val1 (s:Rg) {n:Int} (h:0 < n):s.val n < n:=by
  unfold Rg.val
  split
  · exact Int.emod_lt_of_pos _ h
  · exact Int.emod_lt_of_pos _ h
theorem jfv {i:Int} (h0:0≤i) (h1:i < 2147483648):Wm i=true:=by
  unfold Wm
  simp only [Bool.and_eq_true,decide_eq_true_eq]
  omega
theorem jjC (s:Rg):Wm s.nb=true:=jfv (Int.emod_nonneg _ (by decide)) (Int.lt_trans (Int.emod_lt_of_pos _ (by decide)) (by decide))
def jiz (s:Rg) (n:Int):Option (Int×Rg):=if 0 < n∧n < 1073741824 then some (s.val n,s.next n) else none
theorem jjs (s:Rg) {n:Int} (h:0 < n) (h2:n < 1073741824):∃ v s',jiz s n=some (v,s')∧0≤v∧v < n:=⟨_,_,if_pos ⟨h,h2⟩,s.val0 h,s.val1 h⟩
def jm0 (ns:List Int) (k:Nat):Rg:=
  let c:Int:=ns.getD k (7 * (k:Int) + 3)
  ⟨max 0 ((c.natAbs:Int) - 1000000000000000000),((c.natAbs:Int) % 2147483549 + 1) * (2 * (k:Int) + 5) ^ 3 % 2147483543 + 1,by omega,by
    have:=Int.emod_nonneg (((c.natAbs:Int) % 2147483549 + 1) * (2 * (k:Int) + 5) ^ 3) (show (2147483543:Int) ≠ 0 by decide)
    omega,by
    have:=Int.emod_lt_of_pos (((c.natAbs:Int) % 2147483549 + 1) * (2 * (k:Int) + 5) ^ 3) (show (0:Int) < 2147483543 by decide)
    omega⟩
section
variable {S S1 S2:Sg} {a b d:Dat} {ma mb:ME} {i:Nat} {P:Rs Fl→Prop} {rest:MS} {r:Rs Bool} {rd:Rs Dat}
theorem jmL {mr:MA} {a' b':Dat} (h:mr S= .ok [a,b] S1) (e1:a=a') (e2:b=b'):mr S= .ok [a',b'] S1:=by rw [h,e1,e2]
theorem jml {ρ:Type} {k:Nat} {res:ρ→RF} {v:ρ} {m:MS} (h:RTo k res v (m S)) (hp:P (m S)):P (Jo m rest S):=by
  obtain ⟨d,S2,e⟩:=h.1
  exact jmK (r:=m S) rfl (fun S3 z=>by rw [e] at z; cases z) hp
end
def jkP (a:Str) (ys:List Str):Option Str:=if (ys.map (·.length)).sum + ys.length * a.length≤16777216 then some (Txt.join a ys) else none
theorem jmD {a:Str} {ys:List Str} {z:Str} (h:jkP a ys=some z):jgj (.str a) (eL eS ys)=some (.str z):=by
  unfold jkP at h
  unfold jgj eL
  have e:=jex ys
  simp only [show ys.map eS=ys.map Dat.str from rfl,e]
  split at h
  · rename_i w; cases h; rw [if_pos w]
  · cases h
def jkG (x y:Str):Option Str:=if x.length + y.length≤lim then some (x ++ y) else none
theorem jlS {x y z:Str} (h:jkG x y=some z):Vu (.str x) (.str y)=some (.str z):=by
  unfold jkG at h
  show (if x.length + y.length≤lim then _ else _)=_
  split at h
  · rename_i w; cases h; rw [if_pos w]
  · cases h
theorem jmi {ρ σ:Type} {T:σ→(Nat→vW)→Sg} {RT:ρ→Rs Fl→Prop} {s:σ} {S:Sg} (h:T s (fun i=>S.getD i .no)=S):LB T RT (.nx s) (.ok .nx S):=jnh h
theorem jmA {ρ σ:Type} {T:σ→(Nat→vW)→Sg} {RT:ρ→Rs Fl→Prop} {s:σ} {r:Rs Fl} (h:LE T RT (.nx s) r):∃ j,r= .ok .nx (T s j):=h
theorem jmI {ρ σ:Type} {T:σ→(Nat→vW)→Sg} {RT:ρ→Rs Fl→Prop} {v:ρ} {r:Rs Fl} (h:LE T RT (.rt v) r):RT v r:=h
theorem jmo {a j r:Int} {n:Nat} (hn:j=(n:Int)) (h1:n≤1000000) (h2:a.natAbs < 2 ^ 64) (hr:a ^ n=r):jls (.int a) (.int j)=some (.int r):=by rw [← hr]; exact jm7 hn h1 h2
end Mir
namespace Mir
open PySem
theorem bnd {α β:Type} (x:α) (f:α→Option β):(some x).bind f=f x:=id (Option.bind_some x f)
section
variable {α β ι σ ρ:Type}
theorem jlY {xs:List α} {j:Nat} {v:α} (h:xs[j]? =some v):ixN? xs (j:Int)=some v:=L2.atI_nat h
theorem jnP {xs:List α} {i:Int} (d:α) (h0:0≤i) (h1:i < xs.length):ixN? xs i=some (xs.getD i.toNat d):=by
  obtain ⟨j,rfl⟩:∃ j:Nat,i=(j:Int):=⟨i.toNat,by omega⟩
  have hj:j < xs.length:=by omega
  refine jlY ?_
  rw [Int.toNat_natCast,List.getD_eq_getElem?_getD,List.getElem?_eq_getElem hj]
  rfl
theorem jmg {xs:List α} (h:xs.length≤1000000):ji5 xs=some xs:=if_pos h
theorem jnO {b:Int} (h0: -4000000000000000000≤b) (h1:b≤4000000000000000000):jbZ b=some (WG 0 b):=if_pos ⟨by omega,by omega⟩
theorem jhl (a b:Int):(WG a b).length=(b - a).toNat:=by unfold WG; simp
theorem jhs {a b x:Int}:x ∈ WG a b ↔ a≤x∧x < b:=by
  unfold WG
  simp only [List.mem_map,List.mem_range]
  constructor
  · rintro ⟨k,hk,rfl⟩; omega
  · rintro ⟨h1,h2⟩; exact ⟨(x - a).toNat,by omega,by omega⟩
theorem jiS {nb:ι→Option α} {F:ι→α}:∀ (its:List ι),(∀ x,x ∈ its→nb x=some (F x))→jjo nb its=some (its.map F)
  | [],_=>rfl
  | x :: xs,h=>by
    unfold jjo
    rw [h x (List.mem_cons_self ..),jiS xs fun y hy=>h y (List.mem_cons_of_mem _ hy)]
    rfl
theorem jlh {nb:ι→Option α} {F:ι→α} (its:List ι) (hl:its.length≤1000000) (h:∀ x,x ∈ its→nb x=some (F x)):jkF (jjo nb its)=some (its.map F):=by
  rw [jiS its h]
  show ji5 (its.map F)=_
  exact jmg (by rw [List.length_map]; exact hl)
end
theorem jlg (s:Rg) {n:Int} (h:0 < n) (h2:n < 1000000000):∃ v s',jiz s n=some (v,s')∧0≤v∧v < n:=jjs s h (by omega)
end Mir
namespace Mir
open PySem L2
section
variable {X:Cx} {cm:CM} {W:WX} {a b o:Expr} {ma mb:ME} {pos p1 p2 p3:Pos}
def jel:Dat→Dat→Option Dat
  | .lst xs,.lst ys=>if xs.length + ys.length≤lim then some (.lst (xs ++ ys)) else none
  | _,_=>none
theorem jcO {x y d:Dat} (h:jel x y=some d):∃ xs ys,x= .lst xs∧y= .lst ys∧xs.length + ys.length≤lim∧d= .lst (xs ++ ys):=by
  unfold jel at h
  split at h
  · rename_i xs ys
    split at h
    · rename_i z
      have e:=Option.some.inj h
      exact ⟨xs,ys,rfl,rfl,z,e.symm⟩
    · exact nomatch h
  · exact nomatch h
def jhG (i:Nat) (ma:ME):ME:=fun S=>if vG i S=true then (ma S).bind fun a S1=>(match wd i S1 with
  | some ds=>Rs.of (jel (.lst ds) a) S1
  | none=> .bad) else (jh i S).bind fun b S1=>(ma S1).bind fun a S2=>Rs.of (jel b a) S2
theorem jiY {i:Nat} (ho:PE X o (tVar i)) (ha:PE X a (tE cm X.K W ma)):PE X (.BinOp o .Add a pos) (tE cm X.K W (jhG i ma)):=
  PE.weak (pe_op op_cat ho ha) fun σ H Q ⟨F,S,e1,e2,R,h⟩=>by
    unfold jhG at h
    by_cases hz:vG i S=true
    · rw [if_pos hz] at h
      obtain ⟨l0,ds0,vs0,M0,hl0,la0,eh0,r0,_⟩:=R.peek hz
      refine ⟨_,hl0,jD e1 e2 R h fun F x H1 da S1 e1 e2 R1 s1 p1 h1=>?_⟩
      cases hq:wd i S1 with
      | none=>rw [hq] at h1; exact h1.elim
      | some ds=>
        rw [hq] at h1
        obtain ⟨l,ds1,vs,M,hl,la,eh,r,_⟩:=R1.peek (jgK hq)
        rw [hl0] at hl; cases hl
        rw [hq] at la; cases la
        dsimp only at h1
        cases hd:jel (.lst ds) da with
        | none=>rw [hd] at h1; exact h1.elim
        | some d=>
          rw [hd] at h1
          obtain ⟨xs,ys,ex,rfl,hlen,rfl⟩:=jcO hd
          cases ex
          cases p1 with
          | @lst aa vv dd hv rv=>
            refine ⟨_,aa,vs,vv,rfl,rfl,eh,Jk _ _ hv,?_,fun p hp=>?_⟩
            · rw [rv.length,r.length]; exact wm hlen
            · have sn:=jZ (o:= .lst (vs ++ vv)) hp
              exact h1 _ _ (R1.grow sn) (vx sn) (.lst (wK R1.live hp) ((RpAll.append (by rw [← e1,← e2]; exact r) rv).mono (vx sn)))
    · rw [if_neg hz] at h
      refine jgO e1 e2 R h fun F y H1 db S1 e1 e2 R1 s1 p1 h1=>jD e1 e2 R1 h1 fun F x H2 da S2 e1 e2 R2 s2 p2 h2=>?_
      cases hd:jel db da with
      | none=>rw [hd] at h2; exact h2.elim
      | some d=>
        rw [hd] at h2
        obtain ⟨xs,ys,rfl,rfl,hlen,rfl⟩:=jcO hd
        cases p1 with
        | @lst aa vv dd hv rv=>
          cases p2 with
          | @lst ab vb db hb rb=>
            refine ⟨aa,ab,vv,vb,rfl,rfl,Jk _ _ (s2 _ _ hv),Jk _ _ hb,?_,fun p hp=>?_⟩
            · rw [rv.length,rb.length]; exact wm hlen
            · have sn:=jZ (o:= .lst (vv ++ vb)) hp
              exact h2 _ _ (R2.grow sn) (vx sn) (.lst (wK R2.live hp) (((rv.mono s2).append rb).mono (vx sn)))
end
section
variable {S S1 S2:Sg} {ma:ME} {i:Nat} {α:Type} {f:α→Dat}
theorem jj9 {xs ys zs:List α} (hm:vG i S=true) (ha:ma S= .ok (eL f ys) S1) (hl:wd i S1=some (xs.map f)) (h:Wa xs ys=some zs):jhG i ma S= .ok (eL f zs) S1:=by
  unfold jhG
  rw [if_pos hm,ha,Rs.bind_ok]
  simp only [hl]
  have e:jel (.lst (xs.map f)) (eL f ys)=some (eL f zs):=by
    unfold Wa at h
    split at h
    · rename_i z; cases h
      show (if (xs.map f).length + (ys.map f).length≤lim then _ else _)=_
      rw [List.length_map,List.length_map,if_pos z,← List.map_append]
    · cases h
  rw [e]; rfl
end
end Mir
namespace Mir
open PySem PySem.Spec PyProof.Rows L2
section
variable {X:Cx} {cm:CM} {W:WX} {k:Nat} {f:Addr} {fd:FuncData} {ps:List Str}
def spX (cm:CM) (K:PySem.W.Frag) (C:Addr) (Fx:List Dat→Option (List (Str×Dat))):Sp:=fun vs H Q E=> ∃ M a ws ds fs,vs= .ref a :: ws∧live M H∧a ∈ M∧H a=some (exo a C none)∧RpAll cm K (hid M H) ws ds∧Fx ds=some fs∧
  ∀ d gs H',(∀ b o,b ≠ a→H b=some o→H' b=some o)→H d=none→H' a=some (exo a C (some d))→H' d=some (exd d gs)→RpF cm K (hid (M.cons d) H') gs fs→Q .non H'
variable {c:Str} {x:Str} {e:Expr} {es:List Expr} {p pos pos2:Pos} {n:Nat} {mr:MAv} {Fx:List Dat→Option (List (Str×Dat))}
end
section
variable {X:Cx} {x:Str} {e:Expr} {es:List Expr} {ta:TA} {p1 p2 pos:Pos} {B:Addr}
theorem J7 {pl:Sem Bool} (hg:Gl X x) (hm:X.mg x=some (.ref B)) (gB:PySem.W.specialIn X.K (.ref B) "__getattribute__" =some (some (.builtin "type.__getattribute__"))) (rB:PySem.W.readsIn X.K B (.type "type")=true)
    (vB:PySem.W.findCls X.K (.ref B) (.type "type") "__init__" =some (.val (.builtin "ValueError.__init__"))) (ha:PA X (e :: es) ta) (hdb:(x == ("__debug__" :Str))=false:=by decide)
    (hc:eval (.Call (.Attribute (.Name x p1) "__init__" p2) (e :: es) [] pos) X.env=(do
      let ov ← eval (.Name x p1) X.env
      standAt p2.atName
      let (fv,first) ← holding [ov] (getMethod ov "__init__" pl)
      callWith pos fv first (backTo pos (starEach (e :: es) X.env)) (backToKw pos (keywordEach [] X.env))):=by rfl)
    (hs:starEach (e :: es) X.env=(false,eval e X.env) :: starEach es X.env:=by rfl) (hpl:(backTo pos (starEach es X.env)).any (·.1)=false:=by rfl) :
    PE X (.Call (.Attribute (.Name x p1) "__init__" p2) (e :: es) [] pos) (tVeI X.K ta):=by
  refine ⟨fun pins s σ H Q I h=>PySem.W.methodCall_KW (ld_glob I hg hm ?_ hdb) hc⟩
  refine PySem.W.method_cls I.kIn gB (PySem.W.cls_value I.kIn rB vB (by decide +kernel) ?_)
  show wpAny _ _ (callWith pos (Value.builtin "ValueError.__init__") [] (backTo pos (starEach (e :: es) X.env)) []) _ _ _
  refine PyProof.Rows.callWith_method1 (thn (ha.run pos pins _ σ H _ (I.tok _) h) fun us s1 ⟨vs,H1,J,rel,a,C,ws,ev,hl,T,ea,q⟩=>?_) hs hpl
  subst ev
  cases rel with
  | @cons _ u0 _ ur ra rw'=>
    obtain rfl:u0=Value.ref a:=ra
    exact oinit_ok T J ea (by rw [← Paired.length rw',sizeLine_eq]; omega) fun s' J'=>⟨.non,H1,J',rfl,q⟩
end
def jis (K:PySem.W.Frag):List (Str×Nat)→TS
  | []=>fun D σ H=>D.nx σ H
  | [(f,j)]=>tOst K f (tVar 0) (tVar j)
  | (f,j) :: r=>tSeq (tOst K f (tVar 0) (tVar j)) (jis K r)
def yG (σ:L2.St):List (Str×Nat)→List (Str×V)→List (Str×V)
  | [],gs=>gs
  | (f,j) :: r,gs=>yG σ r ((f,(σ.getD j none).getD .non) :: gs)
theorem jiR {H:Hp} {a:Addr} {o u:HO}:upd (upd H a o) a u=upd H a u:=by
  funext b
  by_cases h:b=a
  · rw [h,upd_same,upd_same]
  · rw [upd_ne h,upd_ne h,upd_ne h]
theorem jfP {K:PySem.W.Frag} {D:L2.Ends} {σ:L2.St} {a C dx:Addr} (T:OexC K C) (hs:σ[0]? =some (some (.ref a))):∀ (flds:List (Str×Nat)) (gs:List (Str×V)) (H:Hp),flds ≠ []→(∀ q,q ∈ flds→PySem.W.findIn K (.ref C) q.1=some none∧∃ v,σ[q.2]? =some (some v))→
    H a=some (exo a C (some dx))→H dx=some (exd dx gs)→dx ≠ a→gs.length + flds.length≤900→D.nx σ (upd H dx (exd dx (yG σ flds gs)))→jis K flds D σ H
  | [],_,_,h,_,_,_,_,_,_=>absurd rfl h
  | [(f,j)],gs,H,_,hf,ea,ed,ne,hl,hD=>by
    obtain ⟨h1,v,hv⟩:=hf (f,j) (List.mem_cons_self ..)
    refine ⟨v,hv,_,hs,a,C,rfl,T,h1,.inr ⟨dx,gs,ea,ed,by simp at hl; omega,?_⟩⟩
    have e:(σ.getD j none).getD .non=v:=by rw [List.getD_eq_getElem?_getD,show σ[j]? =some (some v) from hv]; rfl
    unfold yG yG at hD
    rw [e] at hD
    exact hD
  | (f,j) :: q :: r,gs,H,_,hf,ea,ed,ne,hl,hD=>by
    obtain ⟨h1,v,hv⟩:=hf (f,j) (List.mem_cons_self ..)
    refine ⟨v,hv,_,hs,a,C,rfl,T,h1,.inr ⟨dx,gs,ea,ed,by simp at hl; omega,?_⟩⟩
    have e:(σ.getD j none).getD .non=v:=by rw [List.getD_eq_getElem?_getD,show σ[j]? =some (some v) from hv]; rfl
    refine jfP T hs (q :: r) ((f,v) :: gs) _ (by simp) (fun z hz=>hf z (List.mem_cons_of_mem _ hz)) (by rw [upd_ne (Ne.symm ne)]; exact ea) upd_same ne (by simp at hl ⊢; omega) ?_
    unfold yG at hD
    rw [e] at hD
    rw [jiR]
    exact hD
theorem jle {K:PySem.W.Frag} {D:L2.Ends} {σ:L2.St} {a C:Addr} (T:OexC K C) (hs:σ[0]? =some (some (.ref a))) (flds:List (Str×Nat)) (H:Hp) (hne:flds ≠ []) (hf:∀ q,q ∈ flds→PySem.W.findIn K (.ref C) q.1=some none∧∃ v,σ[q.2]? =some (some v))
    (ea:H a=some (exo a C none)) (hl:flds.length≤900) (hD:∀ dx,H dx=none→dx ≠ a→D.nx σ (upd (upd H dx (exd dx (yG σ flds []))) a (exo a C (some dx)))):jis K flds D σ H:=by
  match flds,hne,hf,hl,hD with
  | [(f,j)],_,hf,_,hD=>
    obtain ⟨h1,v,hv⟩:=hf (f,j) (List.mem_cons_self ..)
    refine ⟨v,hv,_,hs,a,C,rfl,T,h1,.inl ⟨ea,fun dx n ne=>?_⟩⟩
    have e:(σ.getD j none).getD .non=v:=by rw [List.getD_eq_getElem?_getD,show σ[j]? =some (some v) from hv]; rfl
    have:=hD dx n ne
    unfold yG yG at this
    rw [e] at this
    exact this
  | (f,j) :: q :: r,_,hf,hl,hD=>
    obtain ⟨h1,v,hv⟩:=hf (f,j) (List.mem_cons_self ..)
    refine ⟨v,hv,_,hs,a,C,rfl,T,h1,.inl ⟨ea,fun dx n ne=>?_⟩⟩
    have e:(σ.getD j none).getD .non=v:=by rw [List.getD_eq_getElem?_getD,show σ[j]? =some (some v) from hv]; rfl
    refine jfP (dx:=dx) T hs (q :: r) [(f,v)] _ (by simp) (fun z hz=>hf z (List.mem_cons_of_mem _ hz)) upd_same (by rw [upd_ne ne,upd_same]) ne (by simp at hl ⊢; omega) ?_
    have:=hD dx n ne
    unfold yG at this
    rw [e] at this
    have sw:upd (upd (upd H dx (exd dx [(f,v)])) a (exo a C (some dx))) dx (exd dx (yG σ (q :: r) [(f,v)]))=upd (upd H dx (exd dx (yG σ (q :: r) [(f,v)]))) a (exo a C (some dx)):=by
      funext b
      by_cases h1:b=dx
      · rw [h1,upd_same,upd_ne ne,upd_same]
      · by_cases h2:b=a
        · rw [h2,upd_ne (Ne.symm ne),upd_same,upd_same]
        · rw [upd_ne h1,upd_ne h2,upd_ne h1,upd_ne h2,upd_ne h1]
    rw [sw]
    exact this
def jhd (ds:List Dat):List (Str×Nat)→List (Str×Dat)→List (Str×Dat)
  | [],gs=>gs
  | (f,j) :: r,gs=>jhd ds r ((f,ds.getD (j - 1) .non) :: gs)
def Y9 (np:Nat) (mf:ME) (flds:List (Str×Nat)) (ds:List Dat):Option (List (Str×Dat)):=if ds.length=np then (match mf (.no :: ds.map vW.dat) with
  | .ok _ _=>some (jhd ds flds [])
  | _=>none) else none
section
variable {P:Program} {w:World} {K:PySem.W.Frag} {mg:Str→Option Value} {base:Heap} {cm:CM}
theorem yc {x qual:Str} {params:Arguments} {body:List Stmt} {scope:Scope} {dvs:List V} {kws:List (Str×V)} {f C:Addr} {fd:FuncData} {ps:List Str} {k np:Nat} {mf:ME} {flds:List (Str×Nat)} (F:FunD K x qual params body scope dvs kws f fd) (S:FnScope ps ps scope) (hp:ps.length=np + 1)
    (T:OexC K C) (hne:flds ≠ []) (hfl:flds.length≤900) (hf:∀ q,q ∈ flds→PySem.W.findIn K (.ref C) q.1=some none∧0 < q.2∧q.2≤np)
    (hbody:∀ (cdv:Value) (A:Around) (outer:List Env) (s:Shared) (H:Hp) (E:XK),Room k (A.deeper (envOfC qual scope s.heap.objs.size f cdv))→(A.deeper (envOfC qual scope s.heap.objs.size f cdv)).guards=some []→
      PSs (cxOf (L2.CX P w) P w K mg base ps qual scope f cdv A outer s H E) body (tSeq (tDrop (tVeI K (tCons (tVar 0) (tCons (tE cm K (fun cls d _ H'=>E cls d H') mf) tNil)))) (jis K flds))):FnG P w K mg base (L2.CX P w) (k + 1) f fd ps (spX cm K C (Y9 np mf flds)):=by
  have len:∀ vs H Q E,spX cm K C (Y9 np mf flds) vs H Q E→vs.length=ps.length:=fun vs H Q E ⟨M,a,ws,ds,fs,ev,_,_,_,r,hx,_⟩=>by
    unfold Y9 at hx
    by_cases hl:ds.length=np
    · rw [ev,List.length_cons,r.length,hl,hp]
    · rw [if_neg hl] at hx; cases hx
  obtain ⟨oc,od,dV,kV,doc,pm,an,cdv,ct,osl,rfl,lk,hcd,_,_⟩:=F.ex
  refine ⟨len,fun A outer s H args us vs Q E hr hg e0 hb r hsp=>?_⟩
  have hl:=len _ _ _ _ hsp
  have KX:K.In s.heap:=e0.mod.kin.keeps fun b o e=>(e0.bs b o e).1
  have lim0:s.heap.NoLimit:=e0.mod.nolimit.keeps fun b o e=>(e0.bs b o e).1
  refine codeAny_call_function hr.depth (KX _ _ lk) rfl S.co S.gen rfl (PySem.W.codeRec_of KX hcd) (hb _ _ _ _ (wpAny_newFunctionEnv_cells S.kind (fun ⟨nm,v⟩ hy=>?_) fun env he s1 y=>?_))
  · rcases S.par nm (List.of_mem_zip hy).1 with q | q
    · exact Or.inl q
    · exact Or.inr ⟨q,PySem.W.cellsFrom_some _ _ _ (Or.inl q)⟩
  · subst he
    refine ⟨lim0.keeps y.toInCall.keep,codeAny_func ?_⟩
    have I:L2.Inv (cxOf (L2.CX P w) P w K mg base ps qual scope f cdv A outer s H E) [] (L2.start ps vs) H s1:=inv_start S hr.hd e0 hl r y
    have ht:=hbody cdv A outer s H E (hr.deeper _) (Yn hg)
    obtain ⟨M,a,ws,ds,fs,ev,lv,ham,ea,rp,hx,hq⟩:=hsp
    subst ev
    unfold Y9 at hx
    by_cases hdl:ds.length=np
    · rw [if_pos hdl] at hx
      have lw:ws.length=np:=by rw [rp.length]; exact hdl
      have st:L2.start ps (V.ref a :: ws)=some (V.ref a) :: ws.map some:=by
        unfold L2.start
        rw [show ps.length - (V.ref a :: ws).length=0 by rw [hp,List.length_cons,lw]; omega]
        simp
      have R0:Rel (Fm.at cm K M H []) (.no :: ds.map vW.dat) (L2.start ps (V.ref a :: ws)) H:=by
        have lc:∀ σ:L2.St,jP (.no :: ds.map vW.dat) σ= []:=jaP fun s hs=>by
          rcases List.mem_cons.mp hs with h | h
          · rw [h]; rfl
          · obtain ⟨d,_,rfl⟩:=List.mem_map.mp h; rfl
        have ow:wP (.no :: ds.map vW.dat)= []:=by
          have:∀ l:List Dat,wP (l.map vW.dat)= []:=by
            intro l
            induction l with
            | nil=>rfl
            | cons d l ih=>simpa [wP] using ih
          simpa [wP] using this ds
        refine ⟨(by rw [st]; simp [lw,hdl]),fun i s v ha hb=>?_,(by rw [lc]; exact List.nodup_nil),fun l h=>(by rw [lc] at h; cases h),(by rw [ow]; exact List.nodup_nil),List.nodup_nil,fun a h=>(by cases h),lv.v,fun l h=>(by rw [lc] at h; cases h),fun p h=>(by cases h),fun a o q _=>q,jhc.start lv fun i T z=>?_⟩
        rotate_left
        · cases i with
          | zero=>cases z
          | succ i=>
            rw [List.getElem?_cons_succ,List.getElem?_map] at z
            cases hd:ds[i]? with
            | none=>rw [hd] at z; cases z
            | some d=>rw [hd] at z; cases z
        have eV:vis (Fm.at cm K M H []) (.no :: ds.map vW.dat) (L2.start ps (V.ref a :: ws)) H=hid M H:=by
          unfold vis; rw [lc,Hd.app_nil]
        rw [eV]
        rw [st] at hb
        cases i with
        | zero=>simp at ha; subst ha; exact .no
        | succ i=>
          rw [List.getElem?_cons_succ,List.getElem?_map] at ha hb
          cases hd:ds[i]? with
          | none=>rw [hd] at ha; cases ha
          | some d=>
            rw [hd] at ha
            cases ha
            obtain ⟨v',hv',rv⟩:=rp.get hd
            rw [hv'] at hb
            cases hb
            exact .dat rv
      have hs0:(L2.start ps (V.ref a :: ws))[0]? =some (some (V.ref a)):=by rw [st]; rfl
      have key:(tSeq (tDrop (tVeI K (tCons (tVar 0) (tCons (tE cm K (fun cls d _ H'=>E cls d H') mf) tNil)))) (jis K flds)) { nx:=fun _ H'=>Q .non H',rt:=Q } (L2.start ps (V.ref a :: ws)) H:=by
        refine ⟨_,hs0,⟨Fm.at cm K M H [],_,rfl,rfl,R0,?_⟩⟩
        cases hm:mf (.no :: ds.map vW.dat) with
        | bad=>rw [hm] at hx; cases hx
        | exc c' fs' S'=>rw [hm] at hx; cases hx
        | ok d S'=>
          rw [hm] at hx
          cases hx
          intro F1 v H1 R1 g1 _ t1
          obtain rfl:=t1.pure rfl
          have ea1:H1 a=some (exo a C none):=R1.keep a _ ea (by simp)
          refine ⟨a,C,[v],rfl,by simp,T,ea1,?_⟩
          refine jle T hs0 flds H1 hne (fun q hq'=>?_) ea1 hfl fun dx n ne=>?_
          · obtain ⟨h1,h2,h3⟩:=hf q hq'
            refine ⟨h1,?_⟩
            have hi:q.2 - 1 < ws.length:=by omega
            obtain ⟨t,ht⟩:∃ t,q.2=t + 1:=⟨q.2 - 1,by omega⟩
            rw [ht] at hi ⊢; rw [Nat.add_sub_cancel] at hi
            refine ⟨ws[t],?_⟩
            rw [st,List.getElem?_cons_succ,List.getElem?_map,List.getElem?_eq_getElem hi]
            rfl
          · have hd0:H dx=none:=by
              cases hh:H dx with
              | none=>rfl
              | some o=>rw [R1.keep dx o hh (by simp)] at n; cases n
            refine hq dx _ _ (fun b o nb q=>?_) hd0 upd_same (by rw [upd_ne ne,upd_same]) ?_
            · have q1:=R1.keep b o q (by simp)
              rw [upd_ne nb,upd_ne (ne_of_none q1 n)]
              exact q1
            · have sm:Same (hid M H) (hid (M.cons dx) (upd (upd H1 dx (exd dx (yG (L2.start ps (V.ref a :: ws)) flds []))) a (exo a C (some dx)))):=jdS (fun b o hb' q=>by
                have nd:b ≠ dx:=ne_of_none q hd0
                have na:b ≠ a:=fun z=>hb' (by rw [z]; exact ham)
                exact ⟨fun z=>(Hd.mem_cons.mp z).elim nd hb',by rw [upd_ne na,upd_ne nd]; exact R1.keep b o q (by simp)⟩) fun _ _ z=>z
              obtain ⟨GG,hGG⟩:∃ GG,hid (M.cons dx) (upd (upd H1 dx (exd dx (yG (L2.start ps (V.ref a :: ws)) flds []))) a (exo a C (some dx)))=GG:=⟨_,rfl⟩
              rw [hGG] at sm ⊢
              have rp2:=rp.mono sm
              have all:∀ (l:List (Str×Nat)) (gs:List (Str×V)) (es:List (Str×Dat)),(∀ q,q ∈ l→0 < q.2∧q.2≤np)→RpF cm K GG gs es→RpF cm K GG (yG (L2.start ps (V.ref a :: ws)) l gs) (jhd ds l es):=by
                intro l
                induction l with
                | nil=>intro gs es _ h; exact h
                | cons q l ih=>
                  intro gs es hq' h
                  obtain ⟨fq,jq⟩:=q
                  obtain ⟨b1,b2⟩:=hq' (fq,jq) (List.mem_cons_self ..)
                  dsimp only at b1 b2
                  have hi:jq - 1 < ds.length:=by omega
                  obtain ⟨v',hv',rv⟩:=rp2.get (List.getElem?_eq_getElem hi)
                  unfold yG jhd
                  refine ih _ _ (fun z hz=>hq' z (List.mem_cons_of_mem _ hz)) (.cons ?_ h)
                  have e1:(L2.start ps (V.ref a :: ws)).getD jq none=some v':=by
                    rw [st,List.getD_eq_getElem?_getD,show jq=(jq - 1) + 1 by omega,List.getElem?_cons_succ,List.getElem?_map,hv']
                    rfl
                  have e2:ds.getD (jq - 1) .non=ds[jq - 1]:=by rw [List.getD_eq_getElem?_getD,List.getElem?_eq_getElem hi]; rfl
                  rw [e1,e2]
                  exact rv
              exact all flds [] [] (fun q hq'=>(hf q hq').2) .nil
      refine wpAny_mono (ht.run [] s1 (L2.start ps (V.ref a :: ws)) H _ I key) (fun fl s' hs=>?_) fun e s' hs=>hs
      cases fl with
      | ret u=>obtain ⟨v,σ',H',J,rv,q⟩:=hs; exact ⟨v,H',J.os,J.bare,J.base,J.hok,rv,q⟩
      | next=>obtain ⟨σ',H',J,q⟩:=hs; exact ⟨V.non,H',J.os,J.bare,J.base,J.hok,(rfl:Value.none=Value.none),q⟩
      | brk=>obtain ⟨_,_,_,q⟩:=hs; exact q.elim
      | cont=>obtain ⟨_,_,_,q⟩:=hs; exact q.elim
    · rw [if_neg hdl] at hx; cases hx
end
end Mir
namespace Mir
open PySem PySem.Spec PySem.W PySem.Calls PyProof.Rows
structure jfq (b:Bse):Prop where
  fb:ExcBaseFacts b.B b.nw b.ini b.bm
  sf:StoreFacts b.B b.bm "object.__setattr__" "object"
  ty:typeOf (.type b.B)=pure (.type "type")
theorem jI:jfq jgr:=⟨F.excBase_RuntimeError,F.store_RuntimeError,by kernel_rfl⟩
theorem jal:jfq jmY:=⟨F.excBase_ArithmeticError,F.store_ArithmeticError,by kernel_rfl⟩
theorem wB:jfq jlx:=⟨F.excBase_LookupError,F.store_LookupError,by kernel_rfl⟩
section
open Builtin Builtin.ObjectAttr
variable {prog:Program} {w:World} {A:Around} {E:Value→Shared→Prop} {R:Result→Shared→Prop} {hp:Heap} {g:Array GenState} {dr:Drawn} {tk0:Nat} {os:OsState} {x C:Addr} {fv:Array Value} {cd:ClassData} {nm:Str} {tk:Tok} {v:Value} {bb:Bool}
theorem jkT {Q:Fin→Shared→Prop} (hx:hp.get? x=some { cls:= .ref C,data:= .fields fv }) (lc:Looks (model prog w) hp (classData C) cd) (hh:cd.hasDict=true)
    (hq:∀ h' tk' dx,(∀ c o,c ≠ x→hp.get? c=some o→h'.get? c=some o)→hp.objs.size≤dx→dx ≠ x→h'.get? x=some { cls:= .ref C,dict:=some dx,data:= .fields fv }→h'.Ns1 dx (fun y=>if y=nm then some v else none)→Q (.done (.ret .none)) ⟨h',g,dr,tk',os⟩) :
    wpAny (model prog w) A (storeInOwnDict (.ref x) (.ref C) (.str nm tk) nm v bb) Q E ⟨hp,g,dr,tk0,os⟩:=by
  have far:x ≠ hp.objs.size:=Nat.ne_of_lt (Heap.lt_size hx)
  obtain ⟨n0,bs,mro,ns,qn,hd,sn,sb,ab,col,del⟩:=cd
  dsimp only at hh
  subst hh
  unfold storeInOwnDict ownDictForStores
  repeat (first
    | with_reducible refine HandSPX.store_in_new ?_ ?_
    | with_reducible refine wpAny_loadPart_at hx ?_
    | with_reducible refine lc.at ?_
    | wp_step)
  · exact ⟨_,#[],_,(Heap.get?_update_ne _ _ _ _ far.symm).trans (Heap.get?_push_at rfl rfl),rfl,fun e he=>absurd he (by simp),fun _=>rfl⟩
  · intro h' tk' hn sb'
    have hx1:(hp.push { cls:= .type "dict",data:= .dict #[] }).get? x=some { cls:= .ref C,data:= .fields fv }:=Heap.get?_push_of_some _ hx
    exact hq h' tk' hp.objs.size (fun c o hc ho=>(sb'.2 c (Nat.ne_of_lt (Heap.lt_size ho))).trans ((Heap.get?_update_ne _ _ _ _ hc).trans (Heap.get?_push_of_some _ ho))) (Nat.le_refl _) far.symm ((sb'.2 x far).trans (Heap.get?_update_self _ hx1 rfl)) hn
theorem jkZ {Q:Fin→Shared→Prop} {dx:Addr} {m0:Str→Option Value} {nl:List Str} (hx:hp.get? x=some { cls:= .ref C,dict:=some dx,data:= .fields fv }) (lc:Looks (model prog w) hp (classData C) cd) (hh:cd.hasDict=true) (hns:hp.Ns1 dx m0) (hw:Within m0 nl) (hz:nl.length≤1000)
    (hq:∀ h' tk',(∀ c o,c ≠ dx→hp.get? c=some o→h'.get? c=some o)→h'.Ns1 dx (fun y=>if y=nm then some v else m0 y)→Q (.done (.ret .none)) ⟨h',g,dr,tk',os⟩) :
    wpAny (model prog w) A (storeInOwnDict (.ref x) (.ref C) (.str nm tk) nm v bb) Q E ⟨hp,g,dr,tk0,os⟩:=by
  obtain ⟨n0,bs,mro,ns,qn,hd,sn,sb,ab,col,del⟩:=cd
  dsimp only at hh
  subst hh
  unfold storeInOwnDict ownDictForStores
  repeat (first
    | with_reducible refine OEX.store_in_old hns hw hz ?_
    | with_reducible refine wpAny_loadPart_at hx ?_
    | with_reducible refine lc.at ?_
    | wp_step)
  intro h' tk' hn sb'
  exact hq h' tk' (fun c o hc ho=>(sb'.2 c hc).trans ho) hn
end
end Mir
namespace Mir
open PySem PySem.Spec PyProof.Rows L2
structure Vi (b:Bse) (K:PySem.W.Frag) (C:Addr):Prop where
  cls:∃ nm q N bs bm sn sub ab col dd k0 k1 k2 k3 k5,K.lookup C=some (excClassObj nm q C N bs bm true sn sub ab col dd k0 k1 k2 k3 k5 b.nw)∧PySem.W.excTail b.bm bm=true
  sa:PySem.W.findIn K (.ref C) "__setattr__" =some (some (.builtin "object.__setattr__"))
  exC:PySem.W.subIn K (.ref C) (.type "BaseException")=some true
  tyC:PySem.W.typeIn K (.ref C)=some (.type "type")
  kC:PySem.W.keepIn K (.ref C)=true
theorem Kn.oeb {fa:List Fc} {fn:List v7} {K:PySem.W.Frag} {mg:Str→Option Value} {x:Str} {b:Bse} (c:Kn fa fn K mg) (i:Nat) (h:fa[i]? =some (.oeb x b):=by rfl):Vi b K (He.ga K x):=by
  obtain ⟨c1,z⟩:=He.ba (c.fact i h)
  obtain ⟨c2,z⟩:=He.ba z
  obtain ⟨c3,z⟩:=He.ba z
  obtain ⟨c4,c5⟩:=He.ba z
  exact ⟨jlk c1,He.eqO_ok c2,of_decide_eq_true c3,of_decide_eq_true c4,c5⟩
theorem Kn.xbt {fa:List Fc} {fn:List v7} {K:PySem.W.Frag} {mg:Str→Option Value} {b:Bse} (c:Kn fa fn K mg) (i:Nat) (h:fa[i]? =some (.xbt b):=by rfl):PySem.W.findCls K (.type b.B) (.type "type") "__init__" =some (.val (.builtin b.ini)):=by
  have z:(match PySem.W.findCls K (.type b.B) (.type "type") "__init__" with
    | some (.val (.builtin id))=>id == b.ini
    | _=>false)=true:=c.fact i h
  split at z
  · rename_i id e
    rw [e,beq_iff_eq.mp z]
  · cases z
theorem Vi.ci {b:Bse} {K:PySem.W.Frag} {C:Addr} (T:Vi b K C):∃ cd,PySem.W.clsIn K C=some cd∧cd.hasDict=true∧PySem.W.excOver K C b.bm=true:=by
  obtain ⟨nm,q,N,bs,bm,sn,sub,ab,col,dd,k0,k1,k2,k3,k5,hC,ht⟩:=T.cls
  have hcl:PySem.W.clsIn K C=some { name:=nm,bases:=bs,mro:= .ref C :: bm,ns:=N,qualname:=q,hasDict:=true,slotNames:=sn,subclasses:=sub,abstract:=ab,collection:=col,hasDel:=false }:=by
    unfold PySem.W.clsIn
    rw [hC]
  refine ⟨_,hcl,rfl,?_⟩
  unfold PySem.W.excOver
  rw [hcl]
  simp [ht]
section
variable {b:Bse} {X:Cx} {pins:List (Addr×Obj)} {σ:L2.St} {H:Hp} {s:Shared} {a C dx:Addr} {f:Str} {y:V} {u:Value} {fs:List (Str×V)} {Q:Unit→Shared→Prop} {E:Value→Shared→Prop} {A:Around}
theorem jeI {K:PySem.W.Frag} (h:PySem.W.findIn K (.ref C) f=some none):PySem.W.takerIn K C f=some none:=by
  unfold PySem.W.takerIn
  rw [h]
  rfl
theorem jjW (ok:jfq b) (T:Vi b X.K C) (I:L2.Inv X pins σ H s) (e:H a=some (exo a C none)) (hno:PySem.W.findIn X.K (.ref C) f=some none) (ry:RelV y u)
    (h:∀ dx s',H dx=none→dx ≠ a→L2.Inv X pins σ (upd (upd H dx (exd dx [(f,y)])) a (exo a C (some dx))) s'→Q () s'):wpAny (model X.prog X.w) A (setAttr (.ref a) f u) Q E s:=by
  obtain ⟨cd,hcl,hd,ov⟩:=T.ci
  obtain ⟨t1,ho⟩:=exo_at I.hok e
  obtain ⟨hp,g,d,t,os⟩:=s
  have J:PySem.W.InstAt hp a { cls:= .ref C,dict:=none,data:= .fields #[.ref t1,.none,.none,.none,.bool false,.none] } C none:=⟨ho,rfl,rfl,trivial⟩
  refine PySem.W.set_plain I.kIn J T.sa (PySem.W.osa_openX ok.sf I.kIn J ov (jeI hno) fun bb=>?_)
  refine jkT ho (PySem.W.looks_clsIn I.kIn hcl) hd fun h' tk' dx kp dn dne hx hn=>?_
  have nn:H dx=none:=I.hok.fresh dn
  have nx:∀ {c:Addr} {o:Obj},hp.get? c=some o→c ≠ dx:=fun {c o} z=>Nat.ne_of_lt (Nat.lt_of_lt_of_le (Heap.lt_size z) dn)
  have nA:∀ {c:Addr},H c=none→c ≠ a:=fun {c} n z=>by
    rw [z,e] at n
    cases n
  have U:Un X.fs [] H (upd (upd H dx (exd dx [(f,y)])) a (exo a C (some dx))) hp h':={
    keep:=fun c o z n _ _=>kp c o (nA n) z
    slot:=fun c o z n _ _=>⟨o.slots,kp c o (nA n) z⟩
    free:=fun c o z n _=>by
      rw [upd_ne (nA n),upd_ne (nx z)]
      exact n
    there:=fun c o z _=>by
      by_cases hc:c=a
      · exact ⟨_,by rw [hc]; exact hx⟩
      · exact ⟨o,kp c o hc z⟩
    tups:=fun c xs z=>by
      rw [upd_ne (at_ne e z exo_tup),upd_ne (ne_of_none z nn)]
      exact z
    frzs:=fun c o v z=>by
      rw [upd_ne (at_ne e z exo_frz),upd_ne (ne_of_none z nn)]
      exact z
    tbls:=fun c ps z=>⟨#[],by
      rw [upd_ne (at_ne e z exo_tbl),upd_ne (ne_of_none z nn),z]
      simp⟩ }
  refine h dx _ nn dne (I.un (t':=tk') U fun c o z=>?_)
  by_cases hc:c=a
  · subst hc
    rw [upd_same] at z
    cases z
    exact exo_ok hx
  · rw [upd_ne hc] at z
    by_cases hd2:c=dx
    · subst hd2
      rw [upd_same] at z
      cases z
      exact exd_ok hn (relO_put (fs:=[]) ry fun g=>True.intro)
    · rw [upd_ne hd2] at z
      refine (I.hok c o z).stay (fun c' v hc' z'=>kp c' v ?_ z') (fun c' hc'=>?_) (fun c' xs hc'=>?_)
      · rcases hc' with hc' | hc'
        · rw [hc']; exact hc
        · exact at_ne e hc' exo_own
      · rw [upd_ne (at_ne e hc' exo_own),upd_ne (ne_of_none hc' nn)]
        exact hc'
      · rw [upd_ne (at_ne e hc' exo_tup),upd_ne (ne_of_none hc' nn)]
        exact hc'
theorem jjX (ok:jfq b) (T:Vi b X.K C) (I:L2.Inv X pins σ H s) (e:H a=some (exo a C (some dx))) (ed:H dx=some (exd dx fs)) (hl:fs.length≤900) (hno:PySem.W.findIn X.K (.ref C) f=some none) (ry:RelV y u)
    (h:∀ s',L2.Inv X pins σ (upd H dx (exd dx ((f,y) :: fs))) s'→Q () s'):wpAny (model X.prog X.w) A (setAttr (.ref a) f u) Q E s:=by
  obtain ⟨cd,hcl,hd,ov⟩:=T.ci
  obtain ⟨t1,ho⟩:=exo_at I.hok e
  obtain ⟨mA,hns,rel⟩:=exd_at I.hok ed
  have hw:=within_of rel
  obtain ⟨hp,g,d,t,os⟩:=s
  obtain ⟨oD,_,_,hoD,_,_⟩:=hns.count hw
  have J:PySem.W.InstAt hp a { cls:= .ref C,dict:=some dx,data:= .fields #[.ref t1,.none,.none,.none,.bool false,.none] } C (some oD):=⟨ho,rfl,rfl,hoD⟩
  refine PySem.W.set_plain I.kIn J T.sa (PySem.W.osa_openX ok.sf I.kIn J ov (jeI hno) fun bb=>?_)
  refine jkZ ho (PySem.W.looks_clsIn I.kIn hcl) hd hns hw (by rw [List.length_map]; omega) fun h' tk' kp hn=>?_
  have there:∃ o,h'.get? dx=some o:=by
    obtain ⟨o,_,_,z,_⟩:=hn
    exact ⟨o,z⟩
  exact h _ (I.write (t':=tk') (x:=dx) (e:=dx) (o:=exd dx ((f,y) :: fs)) (by rw [ed]; exact True.intro) (.inl rfl) kp there (exd_ok hn (relO_put ry rel)))
theorem jlM {us:List Value} {Q:Value→Shared→Prop} (ok:jfq b) (T:Vi b X.K C) (I:L2.Inv X pins σ H s) (e:H a=some (exo a C none)) (hl:us.length≤sizeLine) (h:∀ s',L2.Inv X pins σ H s'→Q .none s') :
    wpAny (model X.prog X.w) A (call (.builtin b.ini) (.ref a :: us)) Q E s:=by
  obtain ⟨nm,q,N,bs,bm,sn,sub,ab,col,dd,k0,k1,k2,k3,k5,hC,ht⟩:=T.cls
  obtain ⟨t1,ho⟩:=exo_at I.hok e
  obtain ⟨hp,g,d,t,os⟩:=s
  refine wpAny_call (PySem.HandSPX.init_base ok.fb (fun Y=>PySem.W.excTail_contains Y bm ht) (I.kIn _ _ hC) ho hl fun h' t2 kp hx=>?_)
  have J:=I.write (t':=t) (x:=a) (e:=a) (o:=exo a C none) (by rw [e]; exact True.intro) (.inl rfl) kp ⟨_,hx⟩ (exo_ok hx)
  have same:upd H a (exo a C none)=H:=by
    funext c
    by_cases hc:c=a
    · rw [hc,upd_same,e]
    · rw [upd_ne hc]
  rw [same] at J
  exact h _ J
end
def jlm (b:Bse) (K:PySem.W.Frag) (ta:TA):TE:=fun σ H Q=>ta σ H fun vs H1=> ∃ (a C:Addr) (ws:List V),vs= .ref a :: ws∧ws.length≤1000∧Vi b K C∧H1 a=some (exo a C none)∧Q .non H1
def jlb (b:Bse) (K:PySem.W.Frag) (f:Str) (to te:TE):TS:=fun D σ H=>te σ H fun y H1=>to σ H1 fun x H2=> ∃ a C:Addr,x= .ref a∧Vi b K C∧PySem.W.findIn K (.ref C) f=some none∧
  ((H2 a=some (exo a C none)∧∀ dx,H2 dx=none→dx ≠ a→D.nx σ (upd (upd H2 dx (exd dx [(f,y)])) a (exo a C (some dx))))∨
    ∃ (dx:Addr) (fs:List (Str×V)),H2 a=some (exo a C (some dx))∧H2 dx=some (exd dx fs)∧fs.length≤900∧D.nx σ (upd H2 dx (exd dx ((f,y) :: fs))))
section
variable {b:Bse} {X:Cx} {o e:Expr} {es:List Expr} {to te:TE} {ta:TA} {f:Str} {p p' p1 p2 pos:Pos}
theorem vo {pl:Sem Bool} {x:Str} (ok:jfq b) (hg:Gl X x) (hm:X.mg x=none) (hx:bootBuiltins x=some (.type b.B)) (vV:PySem.W.findCls X.K (.type b.B) (.type "type") "__init__" =some (.val (.builtin b.ini))) (hi:PySem.W.handedIn (.builtin b.ini)=true) (hstub:Manifest.isStub b.B=false) (hn0:x ≠ "__name__") (hn1:(x == ("__debug__" :Str))=false) (ha:PA X (e :: es) ta)
    (hc:eval (.Call (.Attribute (.Name x p1) "__init__" p2) (e :: es) [] pos) X.env=(do
      let ov ← eval (.Name x p1) X.env
      standAt p2.atName
      let (fv,first) ← holding [ov] (getMethod ov "__init__" pl)
      callWith pos fv first (backTo pos (starEach (e :: es) X.env)) (backToKw pos (keywordEach [] X.env))):=by rfl)
    (hs:starEach (e :: es) X.env=(false,eval e X.env) :: starEach es X.env:=by rfl) (hpl:(backTo pos (starEach es X.env)).any (·.1)=false:=by rfl) :
    PE X (.Call (.Attribute (.Name x p1) "__init__" p2) (e :: es) [] pos) (jlm b X.K ta):=by
  refine ⟨fun pins s σ H Q I h=>?_⟩
  refine PySem.W.methodCall_KW (ld_blt I hg hm hx ?_ hn0 hn1) hc
  obtain ⟨m,fr⟩:=I.fr
  refine PySem.W.method_type fr I.ok.mod.kin ok.ty hstub vV hi ?_
  show wpAny _ _ (callWith pos (Value.builtin b.ini) [] (backTo pos (starEach (e :: es) X.env)) []) _ _ _
  refine PyProof.Rows.callWith_method1 (thn (ha.run pos pins _ σ H _ (I.tok _) h) fun us s1 ⟨vs,H1,J,rel,a,C,ws,ev,hl,T,ea,q⟩=>?_) hs hpl
  subst ev
  cases rel with
  | @cons _ u0 _ ur ra rw'=>
    obtain rfl:u0=Value.ref a:=ra
    exact jlM ok T J ea (by rw [← Paired.length rw',sizeLine_eq]; omega) fun s' J'=>⟨.non,H1,J',rfl,q⟩
theorem vZ (ok:jfq b) (ho:PE X o to) (he:PE X e te) (hs:swapsWith e (some (.Attribute o f p')) pos.line X.env=pure false:=by rfl):PS X (.Assign [.Attribute o f p'] e pos) (jlb b X.K f to te):=by
  refine ⟨fun pins s σ H D I h=>?_⟩
  refine plainObj_wpAny_Assign_Attribute (thn (he.run pins s σ H _ I h) fun v s1 ⟨y,H1,J1,r1,q1⟩=>thn (ho.run pins s1 σ H1 _ J1 q1) fun u s2 ⟨x,H2,J2,r2,a,C,ex,T,hno,q⟩=>?_) hs
  subst ex
  obtain rfl:u=Value.ref a:=r2
  rcases q with ⟨ea,q⟩ | ⟨dx,fs,ea,ed,hl,q⟩
  · exact jjW ok T J2 ea hno r1 fun dx s' n ne J=>⟨σ,_,J,q dx n ne⟩
  · exact jjX ok T J2 ea ed hl hno r1 fun s' J=>⟨σ,_,J,q⟩
end
def jf4 (b:Bse) (K:PySem.W.Frag):List (Str×Nat)→TS
  | []=>fun D σ H=>D.nx σ H
  | [(f,j)]=>jlb b K f (tVar 0) (tVar j)
  | (f,j) :: r=>tSeq (jlb b K f (tVar 0) (tVar j)) (jf4 b K r)
theorem jfb {b:Bse} {K:PySem.W.Frag} {D:L2.Ends} {σ:L2.St} {a C dx:Addr} (T:Vi b K C) (hs:σ[0]? =some (some (.ref a))):∀ (flds:List (Str×Nat)) (gs:List (Str×V)) (H:Hp),flds ≠ []→(∀ q,q ∈ flds→PySem.W.findIn K (.ref C) q.1=some none∧∃ v,σ[q.2]? =some (some v))→
    H a=some (exo a C (some dx))→H dx=some (exd dx gs)→dx ≠ a→gs.length + flds.length≤900→D.nx σ (upd H dx (exd dx (yG σ flds gs)))→jf4 b K flds D σ H
  | [],_,_,h,_,_,_,_,_,_=>absurd rfl h
  | [(f,j)],gs,H,_,hf,ea,ed,ne,hl,hD=>by
    obtain ⟨h1,v,hv⟩:=hf (f,j) (List.mem_cons_self ..)
    refine ⟨v,hv,_,hs,a,C,rfl,T,h1,.inr ⟨dx,gs,ea,ed,by simp at hl; omega,?_⟩⟩
    have e:(σ.getD j none).getD .non=v:=by rw [List.getD_eq_getElem?_getD,show σ[j]? =some (some v) from hv]; rfl
    unfold yG yG at hD
    rw [e] at hD
    exact hD
  | (f,j) :: q :: r,gs,H,_,hf,ea,ed,ne,hl,hD=>by
    obtain ⟨h1,v,hv⟩:=hf (f,j) (List.mem_cons_self ..)
    refine ⟨v,hv,_,hs,a,C,rfl,T,h1,.inr ⟨dx,gs,ea,ed,by simp at hl; omega,?_⟩⟩
    have e:(σ.getD j none).getD .non=v:=by rw [List.getD_eq_getElem?_getD,show σ[j]? =some (some v) from hv]; rfl
    refine jfb T hs (q :: r) ((f,v) :: gs) _ (by simp) (fun z hz=>hf z (List.mem_cons_of_mem _ hz)) (by rw [upd_ne (Ne.symm ne)]; exact ea) upd_same ne (by simp at hl ⊢; omega) ?_
    unfold yG at hD
    rw [e] at hD
    rw [jiR]
    exact hD
theorem jjI {b:Bse} {K:PySem.W.Frag} {D:L2.Ends} {σ:L2.St} {a C:Addr} (T:Vi b K C) (hs:σ[0]? =some (some (.ref a))) (flds:List (Str×Nat)) (H:Hp) (hne:flds ≠ []) (hf:∀ q,q ∈ flds→PySem.W.findIn K (.ref C) q.1=some none∧∃ v,σ[q.2]? =some (some v))
    (ea:H a=some (exo a C none)) (hl:flds.length≤900) (hD:∀ dx,H dx=none→dx ≠ a→D.nx σ (upd (upd H dx (exd dx (yG σ flds []))) a (exo a C (some dx)))):jf4 b K flds D σ H:=by
  match flds,hne,hf,hl,hD with
  | [(f,j)],_,hf,_,hD=>
    obtain ⟨h1,v,hv⟩:=hf (f,j) (List.mem_cons_self ..)
    refine ⟨v,hv,_,hs,a,C,rfl,T,h1,.inl ⟨ea,fun dx n ne=>?_⟩⟩
    have e:(σ.getD j none).getD .non=v:=by rw [List.getD_eq_getElem?_getD,show σ[j]? =some (some v) from hv]; rfl
    have:=hD dx n ne
    unfold yG yG at this
    rw [e] at this
    exact this
  | (f,j) :: q :: r,_,hf,hl,hD=>
    obtain ⟨h1,v,hv⟩:=hf (f,j) (List.mem_cons_self ..)
    refine ⟨v,hv,_,hs,a,C,rfl,T,h1,.inl ⟨ea,fun dx n ne=>?_⟩⟩
    have e:(σ.getD j none).getD .non=v:=by rw [List.getD_eq_getElem?_getD,show σ[j]? =some (some v) from hv]; rfl
    refine jfb (dx:=dx) T hs (q :: r) [(f,v)] _ (by simp) (fun z hz=>hf z (List.mem_cons_of_mem _ hz)) upd_same (by rw [upd_ne ne,upd_same]) ne (by simp at hl ⊢; omega) ?_
    have:=hD dx n ne
    unfold yG at this
    rw [e] at this
    have sw:upd (upd (upd H dx (exd dx [(f,v)])) a (exo a C (some dx))) dx (exd dx (yG σ (q :: r) [(f,v)]))=upd (upd H dx (exd dx (yG σ (q :: r) [(f,v)]))) a (exo a C (some dx)):=by
      funext b
      by_cases h1:b=dx
      · rw [h1,upd_same,upd_ne ne,upd_same]
      · by_cases h2:b=a
        · rw [h2,upd_ne (Ne.symm ne),upd_same,upd_same]
        · rw [upd_ne h1,upd_ne h2,upd_ne h1,upd_ne h2,upd_ne h1]
    rw [sw]
    exact this
section
variable {P:Program} {w:World} {K:PySem.W.Frag} {mg:Str→Option Value} {base:Heap} {cm:CM}
theorem w6 {b:Bse} {x qual:Str} {params:Arguments} {body:List Stmt} {scope:Scope} {dvs:List V} {kws:List (Str×V)} {f C:Addr} {fd:FuncData} {ps:List Str} {k np:Nat} {mf:ME} {flds:List (Str×Nat)} (F:FunD K x qual params body scope dvs kws f fd) (S:FnScope ps ps scope) (hp:ps.length=np + 1)
    (T:Vi b K C) (hne:flds ≠ []) (hfl:flds.length≤900) (hf:∀ q,q ∈ flds→PySem.W.findIn K (.ref C) q.1=some none∧0 < q.2∧q.2≤np)
    (hbody:∀ (cdv:Value) (A:Around) (outer:List Env) (s:Shared) (H:Hp) (E:XK),Room k (A.deeper (envOfC qual scope s.heap.objs.size f cdv))→(A.deeper (envOfC qual scope s.heap.objs.size f cdv)).guards=some []→
      PSs (cxOf (L2.CX P w) P w K mg base ps qual scope f cdv A outer s H E) body (tSeq (tDrop (jlm b K (tCons (tVar 0) (tCons (tE cm K (fun cls d _ H'=>E cls d H') mf) tNil)))) (jf4 b K flds))):FnG P w K mg base (L2.CX P w) (k + 1) f fd ps (spX cm K C (Y9 np mf flds)):=by
  have len:∀ vs H Q E,spX cm K C (Y9 np mf flds) vs H Q E→vs.length=ps.length:=fun vs H Q E ⟨M,a,ws,ds,fs,ev,_,_,_,r,hx,_⟩=>by
    unfold Y9 at hx
    by_cases hl:ds.length=np
    · rw [ev,List.length_cons,r.length,hl,hp]
    · rw [if_neg hl] at hx; cases hx
  obtain ⟨oc,od,dV,kV,doc,pm,an,cdv,ct,osl,rfl,lk,hcd,_,_⟩:=F.ex
  refine ⟨len,fun A outer s H args us vs Q E hr hg e0 hb r hsp=>?_⟩
  have hl:=len _ _ _ _ hsp
  have KX:K.In s.heap:=e0.mod.kin.keeps fun b o e=>(e0.bs b o e).1
  have lim0:s.heap.NoLimit:=e0.mod.nolimit.keeps fun b o e=>(e0.bs b o e).1
  refine codeAny_call_function hr.depth (KX _ _ lk) rfl S.co S.gen rfl (PySem.W.codeRec_of KX hcd) (hb _ _ _ _ (wpAny_newFunctionEnv_cells S.kind (fun ⟨nm,v⟩ hy=>?_) fun env he s1 y=>?_))
  · rcases S.par nm (List.of_mem_zip hy).1 with q | q
    · exact Or.inl q
    · exact Or.inr ⟨q,PySem.W.cellsFrom_some _ _ _ (Or.inl q)⟩
  · subst he
    refine ⟨lim0.keeps y.toInCall.keep,codeAny_func ?_⟩
    have I:L2.Inv (cxOf (L2.CX P w) P w K mg base ps qual scope f cdv A outer s H E) [] (L2.start ps vs) H s1:=inv_start S hr.hd e0 hl r y
    have ht:=hbody cdv A outer s H E (hr.deeper _) (Yn hg)
    obtain ⟨M,a,ws,ds,fs,ev,lv,ham,ea,rp,hx,hq⟩:=hsp
    subst ev
    unfold Y9 at hx
    by_cases hdl:ds.length=np
    · rw [if_pos hdl] at hx
      have lw:ws.length=np:=by rw [rp.length]; exact hdl
      have st:L2.start ps (V.ref a :: ws)=some (V.ref a) :: ws.map some:=by
        unfold L2.start
        rw [show ps.length - (V.ref a :: ws).length=0 by rw [hp,List.length_cons,lw]; omega]
        simp
      have R0:Rel (Fm.at cm K M H []) (.no :: ds.map vW.dat) (L2.start ps (V.ref a :: ws)) H:=by
        have lc:∀ σ:L2.St,jP (.no :: ds.map vW.dat) σ= []:=jaP fun s hs=>by
          rcases List.mem_cons.mp hs with h | h
          · rw [h]; rfl
          · obtain ⟨d,_,rfl⟩:=List.mem_map.mp h; rfl
        have ow:wP (.no :: ds.map vW.dat)= []:=by
          have:∀ l:List Dat,wP (l.map vW.dat)= []:=by
            intro l
            induction l with
            | nil=>rfl
            | cons d l ih=>simpa [wP] using ih
          simpa [wP] using this ds
        refine ⟨(by rw [st]; simp [lw,hdl]),fun i s v ha hb=>?_,(by rw [lc]; exact List.nodup_nil),fun l h=>(by rw [lc] at h; cases h),(by rw [ow]; exact List.nodup_nil),List.nodup_nil,fun a h=>(by cases h),lv.v,fun l h=>(by rw [lc] at h; cases h),fun p h=>(by cases h),fun a o q _=>q,jhc.start lv fun i T z=>?_⟩
        rotate_left
        · cases i with
          | zero=>cases z
          | succ i=>
            rw [List.getElem?_cons_succ,List.getElem?_map] at z
            cases hd:ds[i]? with
            | none=>rw [hd] at z; cases z
            | some d=>rw [hd] at z; cases z
        have eV:vis (Fm.at cm K M H []) (.no :: ds.map vW.dat) (L2.start ps (V.ref a :: ws)) H=hid M H:=by
          unfold vis; rw [lc,Hd.app_nil]
        rw [eV]
        rw [st] at hb
        cases i with
        | zero=>simp at ha; subst ha; exact .no
        | succ i=>
          rw [List.getElem?_cons_succ,List.getElem?_map] at ha hb
          cases hd:ds[i]? with
          | none=>rw [hd] at ha; cases ha
          | some d=>
            rw [hd] at ha
            cases ha
            obtain ⟨v',hv',rv⟩:=rp.get hd
            rw [hv'] at hb
            cases hb
            exact .dat rv
      have hs0:(L2.start ps (V.ref a :: ws))[0]? =some (some (V.ref a)):=by rw [st]; rfl
      have key:(tSeq (tDrop (jlm b K (tCons (tVar 0) (tCons (tE cm K (fun cls d _ H'=>E cls d H') mf) tNil)))) (jf4 b K flds)) { nx:=fun _ H'=>Q .non H',rt:=Q } (L2.start ps (V.ref a :: ws)) H:=by
        refine ⟨_,hs0,⟨Fm.at cm K M H [],_,rfl,rfl,R0,?_⟩⟩
        cases hm:mf (.no :: ds.map vW.dat) with
        | bad=>rw [hm] at hx; cases hx
        | exc c' fs' S'=>rw [hm] at hx; cases hx
        | ok d S'=>
          rw [hm] at hx
          cases hx
          intro F1 v H1 R1 g1 _ t1
          obtain rfl:=t1.pure rfl
          have ea1:H1 a=some (exo a C none):=R1.keep a _ ea (by simp)
          refine ⟨a,C,[v],rfl,by simp,T,ea1,?_⟩
          refine jjI T hs0 flds H1 hne (fun q hq'=>?_) ea1 hfl fun dx n ne=>?_
          · obtain ⟨h1,h2,h3⟩:=hf q hq'
            refine ⟨h1,?_⟩
            have hi:q.2 - 1 < ws.length:=by omega
            obtain ⟨t,ht⟩:∃ t,q.2=t + 1:=⟨q.2 - 1,by omega⟩
            rw [ht] at hi ⊢; rw [Nat.add_sub_cancel] at hi
            refine ⟨ws[t],?_⟩
            rw [st,List.getElem?_cons_succ,List.getElem?_map,List.getElem?_eq_getElem hi]
            rfl
          · have hd0:H dx=none:=by
              cases hh:H dx with
              | none=>rfl
              | some o=>rw [R1.keep dx o hh (by simp)] at n; cases n
            refine hq dx _ _ (fun b o nb q=>?_) hd0 upd_same (by rw [upd_ne ne,upd_same]) ?_
            · have q1:=R1.keep b o q (by simp)
              rw [upd_ne nb,upd_ne (ne_of_none q1 n)]
              exact q1
            · have sm:Same (hid M H) (hid (M.cons dx) (upd (upd H1 dx (exd dx (yG (L2.start ps (V.ref a :: ws)) flds []))) a (exo a C (some dx)))):=jdS (fun b o hb' q=>by
                have nd:b ≠ dx:=ne_of_none q hd0
                have na:b ≠ a:=fun z=>hb' (by rw [z]; exact ham)
                exact ⟨fun z=>(Hd.mem_cons.mp z).elim nd hb',by rw [upd_ne na,upd_ne nd]; exact R1.keep b o q (by simp)⟩) fun _ _ z=>z
              obtain ⟨GG,hGG⟩:∃ GG,hid (M.cons dx) (upd (upd H1 dx (exd dx (yG (L2.start ps (V.ref a :: ws)) flds []))) a (exo a C (some dx)))=GG:=⟨_,rfl⟩
              rw [hGG] at sm ⊢
              have rp2:=rp.mono sm
              have all:∀ (l:List (Str×Nat)) (gs:List (Str×V)) (es:List (Str×Dat)),(∀ q,q ∈ l→0 < q.2∧q.2≤np)→RpF cm K GG gs es→RpF cm K GG (yG (L2.start ps (V.ref a :: ws)) l gs) (jhd ds l es):=by
                intro l
                induction l with
                | nil=>intro gs es _ h; exact h
                | cons q l ih=>
                  intro gs es hq' h
                  obtain ⟨fq,jq⟩:=q
                  obtain ⟨b1,b2⟩:=hq' (fq,jq) (List.mem_cons_self ..)
                  dsimp only at b1 b2
                  have hi:jq - 1 < ds.length:=by omega
                  obtain ⟨v',hv',rv⟩:=rp2.get (List.getElem?_eq_getElem hi)
                  unfold yG jhd
                  refine ih _ _ (fun z hz=>hq' z (List.mem_cons_of_mem _ hz)) (.cons ?_ h)
                  have e1:(L2.start ps (V.ref a :: ws)).getD jq none=some v':=by
                    rw [st,List.getD_eq_getElem?_getD,show jq=(jq - 1) + 1 by omega,List.getElem?_cons_succ,List.getElem?_map,hv']
                    rfl
                  have e2:ds.getD (jq - 1) .non=ds[jq - 1]:=by rw [List.getD_eq_getElem?_getD,List.getElem?_eq_getElem hi]; rfl
                  rw [e1,e2]
                  exact rv
              exact all flds [] [] (fun q hq'=>(hf q hq').2) .nil
      refine wpAny_mono (ht.run [] s1 (L2.start ps (V.ref a :: ws)) H _ I key) (fun fl s' hs=>?_) fun e s' hs=>hs
      cases fl with
      | ret u=>obtain ⟨v,σ',H',J,rv,q⟩:=hs; exact ⟨v,H',J.os,J.bare,J.base,J.hok,rv,q⟩
      | next=>obtain ⟨σ',H',J,q⟩:=hs; exact ⟨V.non,H',J.os,J.bare,J.base,J.hok,(rfl:Value.none=Value.none),q⟩
      | brk=>obtain ⟨_,_,_,q⟩:=hs; exact q.elim
      | cont=>obtain ⟨_,_,_,q⟩:=hs; exact q.elim
    · rw [if_neg hdl] at hx; cases hx
end
end Mir
namespace Mir
open PySem PySem.Spec PyProof.Rows L2
section
variable {cm cm':CM} {K:PySem.W.Frag} {G:VH}
mutual
theorem Rp.cast (e:cm.at_=cm'.at_):∀ {v:V} {d:Dat},Rp cm K G v d→Rp cm' K G v d
  | _,_,.non=> .non
  | _,_,.bl b=> .bl b
  | _,_,.int i=> .int i
  | _,_,.str x=> .str x
  | _,_,.lst s r=> .lst s (RpAll.cast e r)
  | _,_,.ro s r=> .ro s (RpAll.cast e r)
  | _,_,.tup s r=> .tup s (RpAll.cast e r)
  | _,_,.ins (c:=c) s r=> .ins (by rw [← e]; exact s) (RpF.cast e r)
  | _,_,.dic s r=> .dic s (RpK.cast e r)
  | _,_,.ptr q=> .ptr q
  | _,_,.exn (c:=c) s t r=> .exn (by rw [← e]; exact s) t (RpF.cast e r)
  | _,_,.exn0 (c:=c) s=> .exn0 (by rw [← e]; exact s)
theorem RpAll.cast (e:cm.at_=cm'.at_):∀ {vs:List V} {ds:List Dat},RpAll cm K G vs ds→RpAll cm' K G vs ds
  | _,_,.nil=> .nil
  | _,_,.cons a b=> .cons (Rp.cast e a) (RpAll.cast e b)
theorem RpF.cast (e:cm.at_=cm'.at_):∀ {vs:List (Str×V)} {ds:List (Str×Dat)},RpF cm K G vs ds→RpF cm' K G vs ds
  | _,_,.nil=> .nil
  | _,_,.cons a b=> .cons (Rp.cast e a) (RpF.cast e b)
theorem RpK.cast (e:cm.at_=cm'.at_):∀ {vs:List (Key×V)} {ds:List (Key×Dat)},RpK cm K G vs ds→RpK cm' K G vs ds
  | _,_,.nil=> .nil
  | _,_,.cons a b=> .cons (Rp.cast e a) (RpK.cast e b)
end
theorem RpT.cast (e:cm.at_=cm'.at_):∀ {vs:List (List Key×V)} {ds:List (List Key×Dat)},RpT cm K G vs ds→RpT cm' K G vs ds
  | _,_,.nil=> .nil
  | _,_,.cons a b=> .cons (Rp.cast e a) (RpT.cast e b)
theorem w8.cast {H:Hp} {l:Addr} {o:Own} (e:cm.at_=cm'.at_) (el:∀ (n:Nat) (x:Addr×HO),cm.lk[n]? =some x→cm'.lk[n]? =some x) (x:w8 cm K G H l o):w8 cm' K G H l o:=by
  cases x with
  | lst h r=>exact .lst h (r.cast e)
  | obj h r=>exact .obj (by rw [← e]; exact h) (r.cast e)
  | dic h r=>exact .dic h (r.cast e)
  | dit h r=>exact .dit h (r.cast e)
  | gone h q v=>exact .gone (el _ _ h) q v
  | tab a h t c=>exact .tab (by rw [← e]; exact a) h t c
end
def Fm.cw (F:Fm) (cm:CM):Fm:={ F with cm:=cm }
theorem Fm.to.cw {F F2:Fm} {c:CM} (t:(F.cw c).to F2):F.to (F2.cw F.cm):=by
  obtain ⟨t1,t2⟩:=t
  refine ⟨?_,t2⟩
  show { F2.toFb with cm:=F.cm }=F.toFb
  rw [t1]
  rfl
theorem Rel.cast {F:Fm} {S:Sg} {σ:L2.St} {H:Hp} (R:Rel F S σ H) {cm:CM} (e:F.cm.at_=cm.at_) (el:∀ (n:Nat) (x:Addr×HO),F.cm.lk[n]? =some x→cm.lk[n]? =some x) (hn:∀ (i:Nat) (c:Str) (fs:List (Str×Dat)),S[i]? ≠ some (vW.exn c fs)):Rel (F.cw cm) S σ H where
  len:=R.len
  sl:=fun i s v a b=>by
    have y:=R.sl i s v a b
    cases y with
    | no=>exact .no
    | dat r=>exact .dat (r.cast e)
    | loc h r=>exact .loc h (r.cast e)
    | own h r=>exact .own h (r.cast e el)
    | exn _ _ _=>exact absurd a (hn _ _ _)
    | heap e1 f=>exact .heap e1 fun k o hk=>(f k o hk).imp fun l z=>⟨z.1,z.2.1,z.2.2.cast e el⟩
  nd:=R.nd
  new:=R.new
  ond:=R.ond
  and_:=R.and_
  ain:=R.ain
  liv:=R.liv
  lom:=R.lom
  tmp:=R.tmp
  keep:=R.keep
  hp:=⟨R.hp.one,R.hp.him,R.hp.thl,R.hp.lnd,R.hp.thn,R.hp.n0,R.hp.nr⟩
section
variable {X:Cx} {cm:CM} {W:WX} {i:Nat} {e:Expr} {nm:Str} {pos p:Pos} {a dd:Addr} {c:Str} {oe:Obj} {pn:List (Addr×Obj)}
structure XcC (K:PySem.W.Frag) (C:Addr):Prop where
  cl:(PySem.W.clsIn K C).isSome=true
  ga:PySem.W.findIn K (.ref C) "__getattribute__" =some (some (.builtin "BaseException.__getattribute__"))
  gt:PySem.W.findIn K (.ref C) "__getattr__" =some none
  sb:PySem.W.subIn K (.ref C) (.type "BaseException")=some true
  ca:PySem.W.findIn K (.ref C) "__class__" =some (some (.builtin "object.__class__"))
  sp:PySem.W.specialIn K (.builtin "object.__class__") "__get__" =some (some (.builtin "getset_descriptor.__get__"))
  tk:PySem.W.takesIn K (.builtin "object.__class__")=some true
  mo:PySem.W.mroIn K C (.type "object")=some true
theorem Kn.xc {fa:List Fc} {fn:List v7} {K:PySem.W.Frag} {mg:Str→Option Value} {x:Str} (c:Kn fa fn K mg) (i:Nat) (h:fa[i]? =some (.xc x):=by rfl):XcC K (He.ga K x):=by
  have z:=c.fact i h
  obtain ⟨c1,z⟩:=He.ba z
  obtain ⟨c2,z⟩:=He.ba z
  obtain ⟨c3,z⟩:=He.ba z
  obtain ⟨c4,z⟩:=He.ba z
  obtain ⟨c5,z⟩:=He.ba z
  obtain ⟨c6,z⟩:=He.ba z
  obtain ⟨c7,c8⟩:=He.ba z
  exact ⟨c1,He.eqO_ok c2,He.eqO_ok c3,of_decide_eq_true c4,He.eqO_ok c5,He.eqO_ok c6,of_decide_eq_true c7,of_decide_eq_true c8⟩
def tCl:List V→TA
  | []=>tNil
  | v :: r=>tCons (tC v) (tCl r)
theorem jio {σ:L2.St} {H:Hp}:∀ (vs:List V) {Q:List V→Hp→Prop},Q vs H→tCl vs σ H Q
  | [],_,h=>h
  | _ :: vs,_,h=>jio vs h
end
end Mir
namespace Mir
open PySem PySem.Spec PyProof.Rows L2
section
variable {X:Cx} {cm:CM} {W:WX} {a b c:Expr} {ma mb:ME} {ca:MT} {mL mL2:Sg→Rs (List Dat)} {pos p p2:Pos}
def jjV (i j:Nat) (ma:ME) (mL:Sg→Rs (List Dat)):MS:=fun S=>(ma S).bind fun d S1=>(mL S1).bind fun ds S2=> .ok .nx ((S2.set i (.dat d)).set j (.loc ds))
theorem jk9 {i j:Nat} {x y:Str} {px py pt:Pos} {kt k2:Nat} {pt2:Pos} (hc:X.calm=true) (hN:X.N.Nodup) (hi:X.N[i]? =some x) (hj:X.N[j]? =some y) (hij:i ≠ j)
    (hx:X.env.scope.names.lookup x=some .local) (hy:X.env.scope.names.lookup y=some .local) (ha:PE X a (tE cm X.K W ma)) (hl:PE X b (tL cm X.K W mL))
    (hw:swappedStores [.Tuple [.Name x px,.Name y py] kt pt] (.Tuple [a,b] k2 pt2) X.env=pure (some [x,y])) (hs:swapsWithSole [.Tuple [.Name x px,.Name y py] kt pt] (.Tuple [a,b] k2 pt2) pos.line X.env=pure false:=by rfl)
    (h1:starEach [a,b] X.env=(false,eval a X.env) :: starEach [b] X.env:=by rfl) (h2:starEach [b] X.env=(false,eval b X.env) :: starEach [] X.env:=by rfl) :
    PS X (.Assign [.Tuple [.Name x px,.Name y py] kt pt] (.Tuple [a,b] k2 pt2) pos) (tS cm X.K W (jjV i j ma mL)):=
  PS.weak (ps_par hc hN hi hj hij hx hy (pa_cons ha (pa_cons hl pa_nil h2) h1) hw hs) fun D σ H ⟨F,S,e1,e2,R,h⟩=>Vd e1 e2 R h fun F x H1 d S1 e1 e2 R1 s1 p1 h1=>by
    refine ⟨F,S1,e1,e2,R1,?_⟩
    cases hm:mL S1 with
    | bad=>rw [hm] at h1; exact h1
    | exc c fs S2=>rw [hm] at h1; exact h1 σ
    | ok ds S2=>
      rw [hm,Rs.bind_ok] at h1
      intro F2 l xs H2 R2 s2 hl rx t2
      obtain ⟨R3,t3⟩:=R2.dat (i:=i) (v:=x) (d:=d) (by rw [t2.cm,t2.K,e1,e2]; exact p1.mono s2)
      obtain ⟨R4,t4⟩:=R3.newLoc (i:=j) (ds:=ds) hl (rx.mono t3)
      exact ⟨_,_,rfl,h1 _ _ R4 ((s2.trans t3).trans t4) t2⟩
end
end Mir
namespace Mir
open PySem PySem.Spec PyProof.Rows L2
end Mir
namespace Mir
open PySem PySem.Spec PyProof.Rows L2
section
variable {cm:CM} {K:PySem.W.Frag} {M:Hd} {H:Hp} {ls:List Addr} {j:Nat} {l:Addr} {us:List V} {ds:List Dat}
structure jjB (cm:CM) (K:PySem.W.Frag) (M:Hd) (H:Hp) (ls:List Addr) (j:Nat) (l:Addr) (us:List V) (ds:List Dat):Prop where
  at_:ls[j]? =some l
  hl:H l=some (.lst us)
  rp:RpAll cm K (hid M H) us ds
  lv:live M H
  sub:∀ l,l ∈ ls→l ∈ M
  nd:ls.Nodup
theorem jjB.out (z:jjB cm K M H ls j l us ds):∀ x,x ∈ ls.eraseIdx j→x ∈ ls∧x ≠ l:=fun x hx=>by
  refine ⟨List.mem_of_mem_eraseIdx hx,fun e=>?_⟩
  subst e
  obtain ⟨i,hi,e⟩:=List.getElem_of_mem hx
  have h2:(ls.eraseIdx j)[i]? =some x:=by rw [List.getElem?_eq_getElem hi,e]
  rw [List.getElem?_eraseIdx] at h2
  split at h2
  · exact absurd (nd_ix z.nd h2 z.at_) (by omega)
  · exact absurd (nd_ix z.nd h2 z.at_) (by omega)
theorem jjB.keep (z:jjB cm K M H ls j l us ds) {H':Hp} (kp:∀ a o,H a=some o→a ∉ ls.eraseIdx j→H' a=some o) :
    H' l=some (.lst us)∧(∀ a o,H a=some o→a ∉ ls→H' a=some o)∧(∀ a,a ∈ M→a ∈ M.wo l∨∃ us,H' a=some (.lst us))∧w8 cm K (hid M H') H' l (.lst ds):=by
  have h1:H' l=some (.lst us):=kp l _ z.hl fun q=>(z.out l q).2 rfl
  have h2:∀ a o,H a=some o→a ∉ ls→H' a=some o:=fun a o e n=>kp a o e fun q=>n (z.out a q).1
  refine ⟨h1,h2,fun a ha=>?_,.lst h1 (z.rp.mono (jdK fun a o n e=>h2 a o e fun q=>n (z.sub a q)))⟩
  by_cases e:a=l
  · exact .inr ⟨us,by rw [e]; exact h1⟩
  · exact .inl (Hd.mem_wo.mpr ⟨ha,e⟩)
end
theorem FnG.weak {P:Program} {w:World} {K:PySem.W.Frag} {mg:Str→Option Value} {base:Heap} {CX:CXT} {k:Nat} {f:Addr} {fd:FuncData} {ps:List Str} {sp sp':Sp} (F:FnG P w K mg base CX k f fd ps sp) (h:∀ vs H Q E,sp' vs H Q E→sp vs H Q E):FnG P w K mg base CX k f fd ps sp':=
  ⟨fun vs H Q E z=>F.len vs H Q E (h vs H Q E z),fun A outer s H args us vs Q E hr hg e0 hb r z=>F.run A outer s H args us vs Q E hr hg e0 hb r (h vs H Q E z)⟩
end Mir
namespace Mir
open PySem PySem.Spec PyProof.Rows L2
end Mir
namespace Mir
open PySem PySem.Spec PyProof.Rows L2
inductive RN where
  | ok (ds:List Dat) (outs:List Own)
  | exc (c:Str) (fs:List (Str×Dat)) (outs:List Own)
  | bad
def jol (cm:CM) (K:PySem.W.Frag) (M:Hd) (ls:List Addr) (H:Hp) (Q:VK) (E:XK):RN→Prop
  | .ok ds outs=> ∀ l xs H',(∀ a o,H a=some o→a ∉ ls→H' a=some o)→wa cm K (hid M H') H' ls outs→H' l=none→RpAll cm K (hid M H') xs ds→Q (.ref l) (upd H' l (.lst xs))
  | .exc c fs outs=> ∀ da gs H',(∀ a o,H a=some o→a ∉ ls→H' a=some o)→wa cm K (hid M H') H' ls outs→hid M H' da=some (.xd gs)→RpF cm K (hid M H') gs fs→E (.ref (cm c)) (some da) H'
  | .bad=>False
def spN (cm:CM) (K:PySem.W.Frag) (L:List FA→RN):Sp:=fun vs H Q E=> ∃ M as ls,live M H∧(∀ l,l ∈ ls→l ∈ M)∧ls.Nodup∧vO cm K (hid M H) H vs as ls∧jol cm K M ls H Q E (L as)
def jm5 (L:List FA→RN) (as:List FA):RF:=match L as with
  | .ok ds outs=> .ok (.lst ds) outs
  | .exc c fs outs=> .exc c fs outs
  | .bad=> .bad
theorem jfX {cm:CM} {K:PySem.W.Frag} {G G':VH} {H H':Hp} (s:Same G G') (e:∀ a o,H a=some o→H' a=some o):∀ {ls:List Addr} {os:List Own},wa cm K G H ls os→wa cm K G' H' ls os
  | _,_,.nil=> .nil
  | _,_,.cons a b=> .cons (a.mono s fun _ q=>e _ _ q) (jfX s e b)
theorem jfJ {cm:CM} {K:PySem.W.Frag} {G:VH} {H:Hp}:∀ {ls:List Addr} {os:List Own},wa cm K G H ls os→∀ l,l ∈ ls→Lv (H l)
  | _,_,.nil,l,h=>by cases h
  | _,_,.cons a b,l,h=>by
    rcases List.mem_cons.mp h with z | z
    · rw [z]; exact a.lv
    · exact jfJ b l z
section
variable {cm:CM} {K:PySem.W.Frag} {H:Hp} {vs:List V} {Q:VK} {E:XK} {L:List FA→RN} {n:Nat}
theorem jlK (h:spF cm K (jm5 L) vs H Q E):spN cm K L vs H Q E:=by
  obtain ⟨M,as,ls,lv,lm,ln,ao,of⟩:=h
  refine ⟨M,as,ls,lv,lm,ln,ao,?_⟩
  unfold jm5 at of
  cases hF:L as with
  | bad=>rw [hF] at of; exact of
  | exc c es outs=>rw [hF] at of; exact of
  | ok ds outs=>
    rw [hF] at of
    intro l xs H' kp oo hl rx
    have lv':live M H':=⟨fun m hm=>by
      by_cases hm2:m ∈ ls
      · exact jfJ oo m hm2
      · have y:=lv.v m hm
        cases q:H m with
        | none=>exact absurd q y.ne
        | some o=>rw [kp m o q hm2]; rw [q] at y; exact y⟩
    have sn:L2.Same H' (upd H' l (.lst xs)):=jZ hl
    exact of _ _ (fun a o e n=>sn a o (kp a o e n)) (jfX (w5 sn) sn oo) (.lst (wK lv' hl) (RpAll.mono (w5 sn) rx))
end
section
variable {P:Program} {w:World} {K:PySem.W.Frag} {mg:Str→Option Value} {base:Heap} {CX:CXT} {k:Nat} {f:Addr} {fd:FuncData} {ps:List Str} {cm:CM} {L:List FA→RN}
theorem FnG.dat (F:FnG P w K mg base CX k f fd ps (spN cm K L)):FnG P w K mg base CX k f fd ps (spF cm K (jm5 L)):=F.weak fun _ _ _ _ h=>jlK h
end
theorem Rel.drop {F:Fm} {S:Sg} {σ:L2.St} {H:Hp} (R:Rel F S σ H) {i:Nat} {l:Addr} {ds:List Dat} (hi:S[i]? =some (.loc ds)) (hl:σ[i]? =some (some (.ref l))) :
    ∃ vs H',H=upd H' l (.lst vs)∧H' l=none∧Rel F (S.set i .no) σ H'∧vis F (S.set i .no) σ H'=vis F S σ H∧RpAll F.cm F.K (vis F S σ H) vs ds:=by
  have hin:l ∈ jP S σ:=J6.mpr ⟨i,ds,hi,hl⟩
  have hM:=R.locM hin
  have nl:F.H0 l=none:=R.new l hin
  have y:=R.sl i _ _ hi hl
  have sub:List.Sublist (jP (S.set i .no) σ) (jP S σ):=by
    have:=zL (S:=S) (σ:=σ) (i:=i) (s:= .no) (v:=some (.ref l)) rfl
    rw [jfx hl] at this
    exact this
  have gone:l ∉ jP (S.set i .no) σ:=vX R.nd hi hl rfl
  have inS:∀ a,a ∈ jP S σ→a=l∨a ∈ jP (S.set i .no) σ:=fun a ha=>by
    obtain ⟨k,es,a1,a2⟩:=J6.mp ha
    by_cases e:k=i
    · subst e; rw [hl] at a2; cases a2; exact .inl rfl
    · exact .inr (J6.mpr ⟨k,es,by rw [List.getElem?_set_ne fun z=>e z.symm]; exact a1,a2⟩)
  cases y with
  | @loc _ _ vs eh r=>
    refine ⟨vs,fun a=>if a=l then none else H a,?_,if_pos rfl,?_,?_,r⟩
    · funext a
      by_cases e:a=l
      · rw [e,upd_same]; exact eh
      · rw [upd_ne e,if_neg e]
    all_goals
      have eV:vis F (S.set i .no) σ (fun a=>if a=l then none else H a)=vis F S σ H:=by
        have e:(vis F (S.set i .no) σ (fun a=>if a=l then none else H a)).h=(vis F S σ H).h:=by
          funext a
          unfold vis
          by_cases e:a=l
          · rw [e,jb7 (M:=F.M ++ jP S σ) (Hd.mem_right _ hin)]
            rw [vQ fun z=>(Hd.mem_app.mp z).elim hM gone,if_pos rfl]
          · by_cases ha:a ∈ F.M ++ jP S σ
            · rw [jb7 ha]
              refine jb7 ?_
              rcases Hd.mem_app.mp ha with z | z
              · exact Hd.mem_left _ z
              · exact Hd.mem_right _ ((inS a z).resolve_left e)
            · rw [vQ ha,vQ,if_neg e]
              intro z
              refine ha ?_
              rcases Hd.mem_app.mp z with z | z
              · exact Hd.mem_left _ z
              · exact Hd.mem_right _ (sub.subset z)
        show (⟨(vis F (S.set i .no) σ (fun a=>if a=l then none else H a)).h,F.M.ρ⟩:VH)=⟨(vis F S σ H).h,F.M.ρ⟩
        rw [e]
    · refine ⟨by rw [List.length_set]; exact R.len,fun k t w a b=>?_,R.nd.sublist sub,fun x hx=>R.new x (sub.subset hx),R.ond.sublist (yb fun _ _ z=>by cases z),R.and_,R.ain,fun a h=>?_,fun x hx=>R.lom x (sub.subset hx),fun q h=>⟨?_,(R.tmp q h).2⟩,fun a o q n=>?_,?_⟩
      · rw [eV]
        rcases jO a with ⟨ek,rfl⟩ | ⟨ek,a⟩
        · exact .no
        · refine (R.sl k t w a b).mono (.refl _) fun l' x hd q=>?_
          show (if l'=l then none else H l')=some x
          rw [if_neg fun z=>ek (R.apart a b hi hl (by rw [← z]; exact hd) rfl)]; exact q
      · show Lv (if a=l then none else H a)
        rw [if_neg fun z=>hM (by rw [← z]; exact h)]
        exact R.liv a h
      · show (if q.1=l then none else H q.1)=some q.2
        rw [if_neg fun z=>hM (by rw [← z]; exact (R.tmp q h).2.1)]
        exact (R.tmp q h).1
      · show (if a=l then none else H a)=some o
        rw [if_neg fun z=>by rw [z,nl] at q; cases q]
        exact R.keep a o q n
      · have y:=R.hp.set (H':=H) (i:=i) (s:= .no) (fun _ z=>by cases z) (fun _ _ z=>by cases z) fun _ z=>z
        exact ⟨y.one,y.him,y.thl,y.lnd,y.thn,y.n0,y.nr⟩
    · exact eV
end Mir
namespace Mir
open PySem PySem.Spec PyProof.Rows L2
end Mir
namespace Mir
open PySem
section
variable {S S1 S2 S3:Sg} {ma mb:ME} {d:Dat} {i j:Nat} {P:Rs Fl→Prop} {rest:MS} {ds:List Dat}
theorem jlF {mL:Sg→Rs (List Dat)} (h1:ma S= .ok d S1) (h2:mL S1= .ok ds S2) (hS:(S2.set i (.dat d)).set j (.loc ds)=S3) (k:P (rest S3)):P (Jo (jjV i j ma mL) rest S):=jfR (by unfold jjV; rw [h1,Rs.bind_ok,h2,Rs.bind_ok,hS]) k
end
end Mir
namespace Mir
open PySem
end Mir
namespace Mir
open PySem PySem.Spec PyProof.Rows L2
structure jon (K:PySem.W.Frag) (C f:Addr):Prop where
  ad:PySem.W.findIn K (.ref C) "__add__" =some (some (.ref f))
  fn:PySem.W.isFn K (.ref f)=true
  sf:PySem.W.selfFirst K C=true
theorem Kn.addI {fa:List Fc} {fn:List v7} {K:PySem.W.Frag} {mg:Str→Option Value} {x y:Str} (c:Kn fa fn K mg) (i:Nat) (h:fa[i]? =some (.addI x y):=by rfl):jon K (He.ga K x) (He.ma K (He.ga K y) "__add__"):=by
  have z:=c.fact i h
  obtain ⟨c1,z⟩:=He.ba z
  obtain ⟨c2,c3⟩:=He.ba z
  exact ⟨He.eqO_ok c1,c2,c3⟩
end Mir
namespace Mir
open PySem L2
end Mir
namespace Mir
open PySem L2
end Mir
namespace Mir
open PySem PySem.Spec PyProof.Rows L2
end Mir
namespace Mir
open PySem PySem.Spec PyProof.Rows L2
end Mir
namespace Mir
open PySem
end Mir
namespace Mir
open PySem PySem.Spec PyProof.Rows L2
end Mir
namespace Mir
open PySem
end Mir
namespace Mir
open PySem PySem.Spec PyProof.Rows L2
end Mir
namespace Mir
open PySem L2
end Mir
namespace Mir
open PySem PySem.Spec PyProof.Rows L2
section
variable {X:Cx} {cm:CM} {W:WX} {elt tg iter tg1 iter1:Expr} {ifs ifs1:List Expr} {scope:Scope} {own:List (Str×Nat)} {vs1:List Nat} {pos:Pos} {mi mi1:Sg→Rs (List Dat)} {t t1:TG} {g g1:Dat→Sg→Option Sg} {c c1:MT} {e:ME}
theorem jkx.sub {K:PySem.W.Frag} {ws vs:List Nat} (h:jkx cm K t ws g) (hs:∀ i,i ∈ ws→i ∈ vs):jkx cm K t vs g:=fun F S σ H x d S' Q e1 e2 R p e k=>
  h F S σ H x d S' Q e1 e2 R p e fun σ2 ew R2 s2=>k σ2 (by
    rw [← jcr vs ws σ2 hs,ew,jcr vs ws σ hs]) R2 s2
end
end Mir
namespace Mir
open PySem PySem.Spec PyProof.Rows L2
def jjz (g:Nat) (S:Sg):Option Ths:=match S[g]? with
  | some (.heap T)=>some T
  | _=>none
section
variable {F:Fm} {S:Sg} {σ:L2.St} {H:Hp} {g k:Nat}
theorem jjk {T U:Ths} (h:S[g]? =some (.heap T)):jP (S.set g (.heap U)) σ=jP S σ:=by
  have key:∀ (S:Sg) (σ:L2.St) (g:Nat),S[g]? =some (.heap T)→jP (S.set g (.heap U)) σ=jP S σ:=by
    intro S
    induction S with
    | nil=>intro σ g h; simp at h
    | cons s S ih=>
      intro σ g h
      cases σ with
      | nil=>
        have:∀ T:Sg,jP T []= []:=fun T=>by cases T with
          | nil=>rfl
          | cons x r=>cases x <;> rfl
        simp [this]
      | cons v σ=>
        cases g with
        | zero=>simp at h; subst h; rfl
        | succ g=>
          have:=ih σ g (by simpa using h)
          show jP (s :: S.set g _) (v :: σ)=jP (s :: S) (v :: σ)
          cases s with
          | loc ds=>
            cases v with
            | none=>exact this
            | some v=>
              cases v with
              | ref l=>simp [jP,this]
              | _=>exact this
          | _=>simpa [jP] using this
  exact key S σ g h
theorem jiF {T U:Ths} (h:S[g]? =some (.heap T)):wP (S.set g (.heap U))=wP S:=by
  have key:∀ (S:Sg) (g:Nat),S[g]? =some (.heap T)→wP (S.set g (.heap U))=wP S:=by
    intro S
    induction S with
    | nil=>intro g h; simp at h
    | cons s S ih=>
      intro g h
      cases g with
      | zero=>simp at h; subst h; rfl
      | succ g=>
        have:=ih g (by simpa using h)
        show wP (s :: S.set g _)=wP (s :: S)
        cases s with
        | own j o=>simp [wP,this]
        | _=>simpa [wP] using this
  exact key S g h
theorem Rel.slotAt (R:Rel F S σ H) {i:Nat} {s:vW} (h:S[i]? =some s):∃ v,σ[i]? =some v∧Ye F (vis F S σ H) H s v:=by
  have hl:i < σ.length:=by rw [← R.len]; exact (List.getElem?_eq_some_iff.mp h).1
  exact ⟨_,List.getElem?_eq_getElem hl,R.sl i s _ h (List.getElem?_eq_getElem hl)⟩
theorem Rel.th (R:Rel F S σ H) {T:Ths} {o:Own} (hg:S[g]? =some (.heap T)) (hk:T[k]? =some o):∃ l,F.M.ρ[k]? =some l∧l ∈ F.M∧w8 F.cm F.K (vis F S σ H) H l o:=by
  obtain ⟨v,_,y⟩:=R.slotAt hg
  cases y with
  | heap e f=>exact f k o hk
theorem Rel.thl (R:Rel F S σ H) {T:Ths} (hg:S[g]? =some (.heap T)):T.length=F.M.ρ.length:=by
  obtain ⟨v,_,y⟩:=R.slotAt hg
  cases y with
  | heap e f=>exact e
def Fm.more (F:Fm) (p:Addr):Fm:={ F with M:=⟨p :: F.M.as,F.M.ρ ++ [p]⟩ }
end
end Mir
namespace Mir
open PySem PySem.Spec PyProof.Rows L2
section
variable {X:Cx} {cm:CM} {W:WX} {a b e o:Expr} {ma mb me mo:ME} {mL:Sg→Rs (List Dat)} {pos pos' p:Pos} {nm:Str} {g:Nat} {cs:List Str}
theorem jj3 {S:Sg} {T:Ths} (h:jjz g S=some T):S[g]? =some (.heap T):=by
  unfold jjz at h
  cases hs:S[g]? with
  | none=>rw [hs] at h; cases h
  | some s=>
    rw [hs] at h
    cases s with
    | heap T=>cases h; rfl
    | _=>cases h
end
end Mir
namespace Mir
open PySem PySem.Spec PyProof.Rows L2
inductive RT where
  | ok (d:Dat) (outs:List Own) (T:Ths)
  | exc (c:Str) (fs:List (Str×Dat)) (outs:List Own) (T:Ths)
  | bad
structure jjh (cm:CM) (K:PySem.W.Frag) (G:VH) (H:Hp) (M:Hd) (T:Ths):Prop where
  len:T.length=M.ρ.length
  at_:∀ (k:Nat) (o:Own),T[k]? =some o→∃ l,M.ρ[k]? =some l∧l ∈ M∧w8 cm K G H l o
  nd:M.ρ.Nodup
structure jnb (M M':Hd) (H H':Hp) (ls:List Addr):Prop where
  sub:∀ a,a ∈ M→a ∈ M'
  ρ:∃ r,M'.ρ=M.ρ ++ r
  lv:live M' H'
  keep:∀ a o,H a=some o→a ∉ ls→a ∉ M.ρ→H' a=some o
  new:∀ (k:Nat) (l:Addr),M'.ρ[k]? =some l→M.ρ.length≤k→H l=none
def jnQ (cm:CM) (K:PySem.W.Frag) (M:Hd) (ls:List Addr) (H:Hp) (Q:VK) (E:XK):RT→Prop
  | .ok d outs T=> ∀ v M' H',jnb M M' H H' ls→wa cm K (hid M' H') H' ls outs→jjh cm K (hid M' H') H' M' T→Rp cm K (hid M' H') v d→Q v H'
  | .exc c fs outs T=> ∀ da gs M' H',jnb M M' H H' ls→wa cm K (hid M' H') H' ls outs→jjh cm K (hid M' H') H' M' T→hid M' H' da=some (.xd gs)→RpF cm K (hid M' H') gs fs→E (.ref (cm c)) (some da) H'
  | .bad=>False
def spT (cm:CM) (K:PySem.W.Frag) (Fn:List FA→Ths→RT):Sp:=fun vs H Q E=> ∃ M as ls T,live M H∧(∀ l,l ∈ ls→l ∈ M)∧ls.Nodup∧(∀ l,l ∈ ls→l ∉ M.ρ)∧vO cm K (hid M H) H vs as ls∧jjh cm K (hid M H) H M T∧jnQ cm K M ls H Q E (Fn as T)
end Mir
namespace Mir
open PySem PySem.Spec L2
def jja (g:Nat) (Fn:List FA→Ths→RT) (as:List AV) (S:Sg):Rs Dat:=match Y4 S as with
  | none=> .bad
  | some (fs,is)=>(match jjz g S with
    | none=> .bad
    | some T=>if yr is then (match Fn fs T with
      | .ok d outs T'=>(match wb S is outs with
        | some S'=> .ok d (S'.set g (.heap T'))
        | none=> .bad)
      | .exc c es outs T'=>(match wb S is outs with
        | some S'=> .exc c es (S'.set g (.heap T'))
        | none=> .bad)
      | .bad=> .bad) else .bad)
section
variable {F:Fm} {S S':Sg} {σ:L2.St} {H H':Hp}
theorem Rel.lentT (R:Rel F S σ H) {g:Nat} {T T':Ths} {M':Hd} (hg:S[g]? =some (.heap T)) {is:List Nat} {ls:List Addr} {outs:List Own} (nd:is.Nodup) (ha:∀ (t i:Nat),is[t]? =some i→∃ l,ls[t]? =some l∧WJ F S σ i l) (hb:∀ (t:Nat) (l:Addr),ls[t]? =some l→∃ i:Nat,is[t]? =some i)
    (go:jnb (F.M ++ jP S σ) M' H H' ls) (oo:wa F.cm F.K (hid M' H') H' ls outs) (to:jjh F.cm F.K (hid M' H') H' M' T') (hw:wb S is outs=some S') :
    ∃ F',F.to F'∧Rel F' (S'.set g (.heap T')) σ H'∧Same (vis F S σ H) (vis F' (S'.set g (.heap T')) σ H')∧Same (hid M' H') (vis F' (S'.set g (.heap T')) σ H'):=by
  obtain ⟨a1,a2,a3,a4,a5⟩:=jd0 (σ:=σ) nd hw
  obtain ⟨r,hr⟩:=go.ρ
  have hr:M'.ρ=F.M.ρ ++ r:=hr
  have him:=R.hp.him g T hg
  have lT:=R.thl hg
  obtain ⟨vg,hvg,_⟩:=R.slotAt hg
  have mem:∀ l,l ∈ ls→∃ i,i ∈ is∧WJ F S σ i l:=fun l hl=>by
    obtain ⟨t,ht,e⟩:=List.getElem_of_mem hl
    have et:ls[t]? =some l:=by rw [List.getElem?_eq_getElem ht,e]
    obtain ⟨i,hi⟩:=hb t l et
    obtain ⟨l',e2,q⟩:=ha t i hi
    rw [et] at e2; cases e2
    exact ⟨i,List.mem_of_getElem? hi,q⟩
  have ρM:∀ a,a ∈ F.M.ρ→a ∈ F.M:=fun a h=>by
    obtain ⟨k,hk,e⟩:=List.getElem_of_mem h
    obtain ⟨l,h1,h2,_⟩:=R.th hg (List.getElem?_eq_getElem (show k < T.length by omega))
    rw [List.getElem?_eq_getElem hk,e] at h1; cases h1; exact h2
  have lsρ:∀ l,l ∈ ls→l ∉ F.M.ρ:=fun l hl hρ=>by
    obtain ⟨i,_,l0,lk⟩:=mem l hl
    obtain ⟨k,hk,e⟩:=List.getElem_of_mem hρ
    have hk':k < T.length:=by omega
    have hh:(vW.heap T).holds F vg l:=⟨k,T[k],List.getElem?_eq_getElem hk',by rw [List.getElem?_eq_getElem hk,e]⟩
    rcases lk with ⟨ds,lk⟩ | ⟨j,u,lk,lj⟩
    · have:=R.apart lk l0 hg hvg rfl hh
      subst this; rw [hg] at lk; cases lk
    · have:=R.apart lk l0 hg hvg rfl hh
      subst this; rw [hg] at lk; cases lk
  have rnew:∀ a,a ∈ r→H a=none∧a ∈ M':=fun a h=>by
    obtain ⟨n,hn,e⟩:=List.getElem_of_mem h
    have hk:M'.ρ[F.M.ρ.length + n]? =some a:=by
      rw [hr,List.getElem?_append_right (by omega),Nat.add_sub_cancel_left,List.getElem?_eq_getElem hn,e]
    have hk2:F.M.ρ.length + n < T'.length:=by rw [to.len]; exact (List.getElem?_eq_some_iff.mp hk).1
    obtain ⟨l,h1,h2,_⟩:=to.at_ _ _ (List.getElem?_eq_getElem hk2)
    rw [hk] at h1; cases h1
    exact ⟨go.new _ _ hk (by show F.M.ρ.length≤_; omega),h2⟩
  have outl:∀ l,l ∈ ls→H' l ≠ none:=fun l hl=>by
    obtain ⟨t,ht,e⟩:=List.getElem_of_mem hl
    obtain ⟨o,_,ok⟩:=oo.get (show ls[t]? =some l by rw [List.getElem?_eq_getElem ht,e])
    exact ok.live
  have gis:g ∉ is:=fun z=>by
    obtain ⟨t,ht,e⟩:=List.getElem_of_mem z
    obtain ⟨s0,o,s1,b1,_,b3,_⟩:=a5 t g (by rw [List.getElem?_eq_getElem ht,e])
    rw [hg] at b1; cases b1; cases b3
  have hg':S'[g]? =some (.heap T):=by rw [a4 g gis]; exact hg
  have back:∀ (k:Nat) (s':vW),S'[k]? =some s'→S[k]? =some s'∨(∃ ds ds',S[k]? =some (.loc ds)∧s'= .loc ds')∨∃ j u u',S[k]? =some (.own j u)∧s'= .own j u':=fun k s' hk=>by
    by_cases hi:k ∈ is
    · obtain ⟨t,ht,e⟩:=List.getElem_of_mem hi
      obtain ⟨s0,o,s1,b1,b2,b3,b4⟩:=a5 t k (by rw [List.getElem?_eq_getElem ht,e])
      rw [hk] at b4; cases b4
      unfold jh8 at b3
      cases s0 with
      | loc ds=>
        cases o with
        | lst es=>cases b3; exact .inr (.inl ⟨_,_,b1,rfl⟩)
        | _=>cases b3
      | own j u=>cases b3; exact .inr (.inr ⟨_,_,_,b1,rfl⟩)
      | _=>cases b3
    · rw [a4 k hi] at hk; exact .inl hk
  have oneH:∀ (i:Nat) (U:Ths),S'[i]? =some (.heap U)→i=g:=fun i U h=>by
    rcases back i _ h with z | ⟨_,_,_,z⟩ | ⟨_,_,_,_,z⟩
    · exact R.hp.one i g _ _ z hg
    · cases z
    · cases z
  have hpS:∀ (i:Nat) (U:Ths),(S'.set g (.heap T'))[i]? =some (.heap U)→i=g∧U=T':=fun i U h=>by
    rcases jO h with ⟨e,e2⟩ | ⟨e,h⟩
    · exact ⟨e,by cases e2; rfl⟩
    · exact absurd (oneH i U h) e
  have ownS:∀ (j m:Nat) (u:Own),(S'.set g (.heap T'))[j]? =some (.own m u)→∃ u',S[j]? =some (.own m u'):=fun j m u h=>by
    rcases jO h with ⟨_,e⟩ | ⟨_,h⟩
    · cases e
    · rcases back j _ h with z | ⟨_,_,_,z⟩ | ⟨_,_,_,y,z⟩
      · exact ⟨_,z⟩
      · cases z
      · cases z; exact ⟨_,y⟩
  have eL:jP (S'.set g (.heap T')) σ=jP S σ:=by rw [jjk hg',a2]
  have keep:∀ a o,H a=some o→a ∉ ls→a ∉ F.M.ρ→H' a=some o:=fun a o q n1 n2=>go.keep a o q n1 n2
  refine ⟨{ F with M:=⟨r ++ F.M.as,M'.ρ⟩ },⟨rfl,fun z=>by rw [him] at z; cases z⟩,?_⟩
  have inF:∀ a,a ∈ ({ F with M:=⟨r ++ F.M.as,M'.ρ⟩ }:Fm).M ↔ a ∈ r∨a ∈ F.M:=fun a=>List.mem_append
  have s2:Same (hid M' H') (vis { F with M:=⟨r ++ F.M.as,M'.ρ⟩ } (S'.set g (.heap T')) σ H'):=ya (fun a h=>by
    rcases Hd.mem_app.mp h with h | h
    · rcases (inF a).mp h with h | h
      · exact (rnew a h).2
      · exact go.sub a (Hd.mem_left _ h)
    · rw [eL] at h; exact go.sub a (Hd.mem_right _ h)) rfl
  have s1:Same (vis F S σ H) (vis { F with M:=⟨r ++ F.M.as,M'.ρ⟩ } (S'.set g (.heap T')) σ H'):=jdS (fun a o na q=>⟨fun z=>by
    rcases Hd.mem_app.mp z with z | z
    · rcases (inF a).mp z with z | z
      · rw [(rnew a z).1] at q; cases q
      · exact na (Hd.mem_left _ z)
    · rw [eL] at z; exact na (Hd.mem_right _ z),keep a o q (fun z=>by obtain ⟨i,_,q⟩:=mem a z; exact na (R.lentIn q)) fun z=>na (Hd.mem_left _ (ρM a z))⟩) fun k a h=>by
      show M'.ρ[k]? =some a
      have h:F.M.ρ[k]? =some a:=h
      rw [hr,List.getElem?_append_left (List.getElem?_eq_some_iff.mp h).1]; exact h
  have stay:∀ {k:Nat} {s:vW} {v:Option V} {l:Addr} {x:HO},S[k]? =some s→σ[k]? =some v→k ∉ is→k ≠ g→s.holds F v l→H l=some x→H' l=some x:=fun {k s v l x} hs hv hk hkg hd q=>by
    refine keep l x q (fun z=>?_) fun z=>?_
    · obtain ⟨i,hi,l0,lk⟩:=mem l z
      have e:i=k:=by
        rcases lk with ⟨ds,lk⟩ | ⟨j,u,lk,lj⟩
        · exact R.apart lk l0 hs hv rfl hd
        · exact R.apart lk l0 hs hv rfl hd
      exact hk (by rw [← e]; exact hi)
    · obtain ⟨n,hn,e⟩:=List.getElem_of_mem z
      have hn':n < T.length:=by omega
      exact hkg (R.apart hs hv hg hvg hd ⟨n,T[n],List.getElem?_eq_getElem hn',by rw [List.getElem?_eq_getElem hn,e]⟩)
  refine ⟨⟨by rw [List.length_set,a1,R.len],fun k s v hs hv=>?_,by rw [eL]; exact R.nd,fun l h=>R.new l (by rw [← eL]; exact h),by rw [jiF hg',a3]; exact R.ond,R.and_,fun a h=>(inF a).mpr (.inr (R.ain a h)),fun a h=>?_,fun l h z=>?_,fun p h=>?_,fun a o q n=>?_,?_⟩,s1,s2⟩
  · rcases jO hs with ⟨ek,rfl⟩ | ⟨ek,hs⟩
    · refine .heap to.len fun n o hn=>?_
      obtain ⟨l,h1,h2,h3⟩:=to.at_ n o hn
      refine ⟨l,h1,(inF l).mpr ?_,h3.mono s2 fun _ q=>q⟩
      have h1':(F.M.ρ ++ r)[n]? =some l:=by rw [← hr]; exact h1
      rcases List.mem_append.mp (List.mem_of_getElem? h1') with z | z
      · exact .inr (ρM l z)
      · exact .inl z
    · by_cases hk:k ∈ is
      · obtain ⟨t,ht,e⟩:=List.getElem_of_mem hk
        have et:is[t]? =some k:=by rw [List.getElem?_eq_getElem ht,e]
        obtain ⟨s0,o,s1',b1,b2,b3,b4⟩:=a5 t k et
        rw [hs] at b4; cases b4
        obtain ⟨l,el,lv,lk⟩:=ha t k et
        rw [hv] at lv; cases lv
        obtain ⟨o',eo,ok⟩:=oo.get el
        rw [b2] at eo; cases eo
        have ok:=ok.mono s2 fun _ q=>q
        rcases lk with ⟨ds,lk⟩ | ⟨j,u,lk,lj⟩
        · rw [b1] at lk; cases lk
          cases o with
          | lst es=>
            cases b3
            cases ok with
            | lst h r=>exact .loc h r
          | obj _ _=>cases b3
          | dic _=>cases b3
          | dit _=>cases b3
          | gone _=>cases b3
          | tab _ _=>cases b3
        · rw [b1] at lk; cases lk
          cases b3
          exact .own lj ok
      · rw [a4 k hk] at hs
        have y:=(R.sl k s v hs hv).mono s1 fun l x hd q=>stay hs hv hk ek hd q
        cases y with
        | no=>exact .no
        | dat r=>exact .dat r
        | loc h r=>exact .loc h r
        | own h r=>exact .own h r
        | exn h q r=>exact .exn h q r
        | heap e f=>exact absurd (R.hp.one k g _ _ hs hg) ek
  · rcases (inF a).mp h with h | h
    · exact go.lv.v a (rnew a h).2
    · exact go.lv.v a (go.sub a (Hd.mem_left _ h))
  · rw [eL] at h
    rcases (inF l).mp z with z | z
    · exact R.hlive (Hd.mem_right F.M h) (rnew l z).1
    · exact R.lom l h z
  · obtain ⟨t1,t2,t3⟩:=R.tmp p h
    refine ⟨keep _ _ t1 (fun z=>?_) fun z=>?_,(inF p.1).mpr (.inr t2),t3⟩
    · obtain ⟨i,_,l0,lk⟩:=mem p.1 z
      rcases lk with ⟨ds,lk⟩ | ⟨j,u,lk,lj⟩
      · exact R.lom p.1 (J6.mpr ⟨i,ds,lk,l0⟩) t2
      · exact t3 (List.mem_of_getElem? lj)
    · obtain ⟨n,hn,e⟩:=List.getElem_of_mem z
      exact (R.hp.thl g T n _ p.1 hg (List.getElem?_eq_getElem (show n < T.length by omega)) (by rw [List.getElem?_eq_getElem hn,e])).2.1 p h rfl
  · refine keep a o (R.keep a o q n) (fun z=>?_) fun z=>?_
    · obtain ⟨i,_,l0,lk⟩:=mem a z
      rcases lk with ⟨ds,lk⟩ | ⟨j,u,lk,lj⟩
      · have q:F.H0 a=some o:=q
        rw [R.new a (J6.mpr ⟨i,ds,lk,l0⟩)] at q; cases q
      · exact n (List.mem_of_getElem? lj)
    · obtain ⟨m,hm,e⟩:=List.getElem_of_mem z
      rcases (R.hp.thl g T m _ a hg (List.getElem?_eq_getElem (show m < T.length by omega)) (by rw [List.getElem?_eq_getElem hm,e])).1 with y | y
      · exact n y
      · have q:F.H0 a=some o:=q
        rw [y] at q; cases q
  ·
    have atO:∀ {k:Nat} {l:Addr},k < F.M.ρ.length→M'.ρ[k]? =some l→F.M.ρ[k]? =some l:=fun hk h=>by
      rw [hr,List.getElem?_append_left hk] at h; exact h
    have atN:∀ {k:Nat} {l:Addr},F.M.ρ.length≤k→M'.ρ[k]? =some l→l ∈ r:=fun hk h=>by
      rw [hr,List.getElem?_append_right hk] at h; exact List.mem_of_getElem? h
    have h0:∀ l,l ∈ r→F.H0 l=none:=fun l hl=>R.fresh0 (rnew l hl).1
    refine ⟨fun i j U V a b=>?_,fun _ _ _=>him,fun i U k o l a b c=>?_,fun i U k m o u l a b c d e=>?_,fun i U k o l a b c d=>?_,fun a h=>(inF a).mpr (.inr (R.hp.n0 a h)),?_⟩
    · rw [(hpS i U a).1,(hpS j V b).1]
    · by_cases hk:k < F.M.ρ.length
      · obtain ⟨z1,z2,z3⟩:=R.hp.thl g T k T[k] l hg (List.getElem?_eq_getElem (by omega)) (atO hk c)
        refine ⟨z1,z2,fun j m u hj=>?_⟩
        obtain ⟨u',hu⟩:=ownS j m u hj
        exact z3 j m u' hu
      · have hl:=atN (Nat.not_lt.mp hk) c
        refine ⟨.inr (h0 l hl),fun p h z=>?_,fun j m u hj z=>?_⟩
        · have:=(R.tmp p h).1
          rw [z,(rnew l hl).1] at this; cases this
        · exact R.alv l (List.mem_of_getElem? z) (rnew l hl).1
    · exact nd_ix to.nd d e
    · by_cases hk:k < F.M.ρ.length
      · exact R.hp.thn g T k T[k] l hg (List.getElem?_eq_getElem (by omega)) (atO hk c) d
      · exact h0 l (atN (Nat.not_lt.mp hk) c)
    · obtain ⟨r0,hr0⟩:=R.hp.nr
      exact ⟨r0 ++ r,by show M'.ρ=_; rw [hr,hr0,List.append_assoc]⟩
theorem jiM {cm:CM} {K:PySem.W.Frag} {W:WX} {g:Nat} {Fn:List FA→Ths→RT} {vs:List V} {as:List AV} {Q:VK} (e1:F.cm=cm) (e2:F.K=K) (R:Rel F S σ H) (av:jo cm K σ (vis F S σ H) vs as) (h:out F W σ (vis F S σ H) (rE cm K) Q (jja g Fn as S)) :
    spT cm K Fn vs H Q (WE W σ):=by
  unfold jja at h
  cases hf:Y4 S as with
  | none=>rw [hf] at h; exact h.elim
  | some q=>
    obtain ⟨fs,is⟩:=q
    rw [hf] at h
    dsimp only at h
    cases ht:jjz g S with
    | none=>rw [ht] at h; exact h.elim
    | some T=>
    rw [ht] at h
    dsimp only at h
    have hg:=jj3 ht
    by_cases hn:yr is=true
    · rw [if_pos hn] at h
      have nd:=jdX hn
      obtain ⟨ls,c1,c2,c3⟩:=jdG e1 e2 R av hf
      have lk:∀ l,l ∈ ls→∃ i,WJ F S σ i l:=fun l hl=>by
        obtain ⟨t,ht,e⟩:=List.getElem_of_mem hl
        have et:ls[t]? =some l:=by rw [List.getElem?_eq_getElem ht,e]
        obtain ⟨i,hi⟩:=c3 t l et
        obtain ⟨l',e3,q⟩:=c2 t i hi
        rw [et] at e3; cases e3
        exact ⟨i,q⟩
      have lin:∀ l,l ∈ ls→l ∈ F.M ++ jP S σ:=fun l hl=>by
        obtain ⟨i,q⟩:=lk l hl
        exact R.lentIn q
      have lnd:ls.Nodup:=jcd fun t u l ht hl=>by
        obtain ⟨i,hi⟩:=c3 u l hl
        obtain ⟨k,hk⟩:=c3 t l ht
        obtain ⟨l1,d1,d2⟩:=c2 u i hi
        obtain ⟨l2,d3,d4⟩:=c2 t k hk
        rw [hl] at d1; cases d1
        rw [ht] at d3; cases d3
        have ik:=R.lent1 d2 d4
        subst ik
        exact nd_ix nd hk hi
      have lT:=R.thl hg
      obtain ⟨vg,hvg,_⟩:=R.slotAt hg
      have lsρ:∀ l,l ∈ ls→l ∉ (F.M ++ jP S σ).ρ:=fun l hl hρ=>by
        have hρ:l ∈ F.M.ρ:=hρ
        obtain ⟨i,l0,lk⟩:=lk l hl
        obtain ⟨k,hk,e⟩:=List.getElem_of_mem hρ
        have hh:(vW.heap T).holds F vg l:=⟨k,T[k],List.getElem?_eq_getElem (by omega),by rw [List.getElem?_eq_getElem hk,e]⟩
        rcases lk with ⟨ds,lk⟩ | ⟨j,u,lk,lj⟩
        · have:=R.apart lk l0 hg hvg rfl hh
          subst this; rw [hg] at lk; cases lk
        · have:=R.apart lk l0 hg hvg rfl hh
          subst this; rw [hg] at lk; cases lk
      have to:jjh cm K (vis F S σ H) H (F.M ++ jP S σ) T:=⟨lT,fun k o hk=>by
        obtain ⟨l,h1,h2,h3⟩:=R.th hg hk
        exact ⟨l,h1,Hd.mem_left _ h2,by rw [← e1,← e2]; exact h3⟩,jcd fun k n l hk hn=>by
          have hk:F.M.ρ[k]? =some l:=hk
          have hn:F.M.ρ[n]? =some l:=hn
          have h1:=(List.getElem?_eq_some_iff.mp hk).1
          have h2:=(List.getElem?_eq_some_iff.mp hn).1
          exact R.hp.lnd g T k n T[k] T[n] l hg (List.getElem?_eq_getElem (by omega)) (List.getElem?_eq_getElem (by omega)) hk hn⟩
      refine ⟨F.M ++ jP S σ,fs,ls,T,R.live,lin,lnd,lsρ,c1,to,?_⟩
      cases hF:Fn fs T with
      | bad=>rw [hF] at h; exact h
      | ok d outs T'=>
        rw [hF] at h
        intro v M' H' go oo to' rv
        dsimp only at h
        cases hw:wb S is outs with
        | none=>rw [hw] at h; exact h.elim
        | some S'=>
          rw [hw] at h
          obtain ⟨F',t',R',s1,s2⟩:=R.lentT hg nd c2 c3 go (by rw [e1,e2]; exact oo) (by rw [e1,e2]; exact to') hw
          exact h v H' R' s1 (rv.mono s2) t'
      | exc c es outs T'=>
        rw [hF] at h
        intro da gs M' H' go oo to' hda rg
        dsimp only at h
        cases hw:wb S is outs with
        | none=>rw [hw] at h; exact h.elim
        | some S'=>
          rw [hw] at h
          obtain ⟨F',t',R',s1,s2⟩:=R.lentT hg nd c2 c3 go (by rw [e1,e2]; exact oo) (by rw [e1,e2]; exact to') hw
          have z:=h da gs H' R' s1 (s2 _ _ hda) (by rw [t'.cm,t'.K,e1,e2]; exact rg.mono s2) t'
          rw [t'.cm,e1] at z
          exact z
    · rw [if_neg hn] at h; exact h.elim
end
end Mir
namespace Mir
open PySem PySem.Spec L2
def jlI (X:Cx) (cm:CM) (W:WX) (sp:Sp) (app:List AV→Sg→Rs Dat):Prop:= ∀ {F:Fm} {S:Sg} {σ:L2.St} {H:Hp} {vs:List V} {as:List AV} {Q:VK},F.cm=cm→F.K=X.K→Rel F S σ H→jo cm X.K σ (vis F S σ H) vs as→out F W σ (vis F S σ H) (rE cm X.K) Q (app as S)→sp vs H Q (WE W σ)
theorem okT {X:Cx} {cm:CM} {W:WX} {g:Nat} {Fn:List FA→Ths→RT}:jlI X cm W (spT cm X.K Fn) (jja g Fn):=fun e1 e2 R av h=>jiM e1 e2 R av h
end Mir
namespace Mir
open PySem PySem.Spec L2
end Mir
namespace Mir
open PySem PySem.Spec PyProof.Rows L2
end Mir
namespace Mir
open PySem PySem.Spec PyProof.Rows L2
end Mir
namespace Mir
open PySem PySem.Spec PyProof.Rows L2
end Mir
namespace Mir
open PySem PySem.Spec PyProof.Rows L2
end Mir
namespace Mir
open PySem PySem.Spec PyProof.Rows L2
end Mir
namespace Mir
open PySem PySem.Spec PyProof.Rows L2
end Mir
namespace Mir
open PySem PySem.Spec PyProof.Rows L2
end Mir
namespace Mir
open PySem PySem.Spec PyProof.Rows L2
def jik (kvs:List (Key×Dat)) (k:Key) (d:Dat):List (Key×Dat):=
  if (kvs.any fun kv=>decide (kv.1=k))=true then kvs.map (fun kv=>if kv.1=k then (kv.1,d) else kv) else kvs ++ [(k,d)]
def jmZ (kvs:List (Key×Dat)) (k:Key):Option Dat:=(kvs.find? fun kv=>decide (kv.1=k)).map (·.2)
def jbV (kvs more:List (Key×Dat)):List (Key×Dat):=more.foldl (fun acc kv=>jik acc kv.1 kv.2) kvs
section
variable {cm:CM} {K:PySem.W.Frag} {G:VH}
theorem RpK.any:∀ {gs:List (Key×V)} {ks:List (Key×Dat)},RpK cm K G gs ks→∀ k,(gs.any fun kv=>decide (kv.1=k))=ks.any fun kv=>decide (kv.1=k)
  | _,_,.nil,k=>rfl
  | _,_,.cons (f:=f) a b,k=>by
    rw [List.any_cons,List.any_cons,RpK.any b k]
theorem RpK.length:∀ {gs:List (Key×V)} {ks:List (Key×Dat)},RpK cm K G gs ks→gs.length=ks.length
  | _,_,.nil=>rfl
  | _,_,.cons a b=>congrArg Nat.succ (RpK.length b)
theorem RpK.snoc {k:Key} {v:V} {d:Dat} (r:Rp cm K G v d):∀ {gs:List (Key×V)} {ks:List (Key×Dat)},RpK cm K G gs ks→RpK cm K G (gs ++ [(k,v)]) (ks ++ [(k,d)])
  | _,_,.nil=> .cons r .nil
  | _,_,.cons a b=> .cons a (RpK.snoc r b)
theorem RpK.repl {k:Key} {v:V} {d:Dat} (r:Rp cm K G v d):∀ {gs:List (Key×V)} {ks:List (Key×Dat)},RpK cm K G gs ks→RpK cm K G (gs.map fun kv=>if kv.1=k then (kv.1,v) else kv) (ks.map fun kv=>if kv.1=k then (kv.1,d) else kv)
  | _,_,.nil=> .nil
  | _,_,.cons (f:=f) a b=>by
    rw [List.map_cons,List.map_cons]
    by_cases h:f=k
    · rw [if_pos h,if_pos h]; exact .cons r (RpK.repl r b)
    · rw [if_neg h,if_neg h]; exact .cons a (RpK.repl r b)
theorem RpK.put {k:Key} {v:V} {d:Dat} (r:Rp cm K G v d) {gs:List (Key×V)} {ks:List (Key×Dat)} (h:RpK cm K G gs ks):RpK cm K G (putK gs k v) (jik ks k d):=by
  unfold putK jik
  rw [h.any k]
  split
  · exact h.repl r
  · exact h.snoc r
theorem RpK.val:∀ {gs:List (Key×V)} {ks:List (Key×Dat)},RpK cm K G gs ks→∀ {k:Key} {d:Dat},jmZ ks k=some d→∃ v,valV gs k=some v∧Rp cm K G v d
  | _,_,.nil,k,d,h=>by cases h
  | _,_,.cons (f:=f) (v:=v) (d:=d0) (gs:=gs) (fs:=fs) a b,k,d,h=>by
    unfold jmZ at h
    unfold valV
    rw [List.find?_cons] at h ⊢
    by_cases hz:f=k
    · have e:decide (f=k)=true:=by simp [hz]
      dsimp only at h ⊢
      rw [e] at h ⊢
      cases h
      exact ⟨v,rfl,a⟩
    · have e:decide (f=k)=false:=by simp [hz]
      dsimp only at h ⊢
      rw [e] at h ⊢
      exact RpK.val b h
theorem RpK.merge:∀ {ms:List (Key×V)} {mds:List (Key×Dat)},RpK cm K G ms mds→∀ {gs:List (Key×V)} {ks:List (Key×Dat)},RpK cm K G gs ks→RpK cm K G (mergeK gs ms) (jbV ks mds)
  | _,_,.nil,_,_,h=>h
  | _,_,.cons (f:=f) a b,gs,ks,h=>RpK.merge b (h.put (k:=f) a)
end
def jhr:List (Str×ME)→MA
  | []=>jY
  | (_,m) :: r=>je m (jhr r)
def Vf (kms:List (Str×ME)):List Key:=kms.map fun km=> .inr km.1
section
variable {X:Cx} {cm:CM} {W:WX} {a b e o i:Expr} {ma mb me mo mi:ME} {g:Nat} {pos pos' p:Pos}
def jhK (cm:CM) (K:PySem.W.Frag) (W:WX) (kms:List (Str×ME)):List (TE×TE):=kms.map fun km=>(tC (.str km.1),tE cm K W km.2)
theorem jgS:∀ (kms:List (Str×ME)) {F:Fm} {S:Sg} {σ:L2.St} {H:Hp} {Q:List (V×V)→Hp→Prop},F.cm=cm→F.K=X.K→Rel F S σ H→out F W σ (vis F S σ H) (rA cm X.K) (fun vs H'=>Q ((kms.map fun km=>V.str km.1).zip vs) H') (jhr kms S)→tPairs (jhK cm X.K W kms) σ H Q
  | [],F,S,σ,H,Q,e1,e2,R,h=>h [] H R (.refl _) .nil
  | (k,m) :: r,F,S,σ,H,Q,e1,e2,R,h=>by
    show tE cm X.K W m σ H fun y H2=>tPairs (jhK cm X.K W r) σ H2 fun ps H3=>Q ((.str k,y) :: ps) H3
    refine jD e1 e2 R h fun F1 y H1 d S1 e1 e2 R1 s1 p1 h1=>jgS r e1 e2 R1 ?_
    cases hm:jhr r S1 with
    | bad=>rw [hm] at h1; exact h1
    | exc c fs S2=>rw [hm] at h1; exact h1
    | ok ds S2=>
      rw [hm,Rs.bind_ok] at h1
      intro F' vs H' R' s' rv t
      exact h1 (y :: vs) H' R' s' (.cons (p1.mono s') rv) t
theorem jkj {K:PySem.W.Frag} {G:VH}:∀ (kms:List (Str×ME)) {vs:List V} {ds:List Dat},RpAll cm K G vs ds→RpK cm K G ((Vf kms).zip vs) ((Vf kms).zip ds)
  | [],_,_,_=> .nil
  | _ :: r,_,_,.nil=> .nil
  | (k,m) :: r,_,_,.cons a b=> .cons a (jkj r b)
theorem jgy:∀ (kms:List (Str×ME)) (vs:List V),(kms.map fun km=>V.str km.1).zip vs=((Vf kms).zip vs).map fun kv=>(kV kv.1,kv.2)
  | [],vs=>by simp [Vf]
  | _ :: r,[]=>by simp [Vf]
  | (k,m) :: r,v :: vs=>by
    have:=jgy r vs
    show (V.str k,v) :: (r.map fun km=>V.str km.1).zip vs=_
    rw [this]; rfl
theorem jgC:PPs X pos [] [] (jhK cm X.K W []):=pps_nil
theorem jaI {k:Str} {v:Expr} {ks:List (Option Expr)} {vs:List Expr} {m:ME} {r:List (Str×ME)} {j:Nat} {kp:Pos} (hv:PE X v (tE cm X.K W m)) (hr:PPs X pos ks vs (jhK cm X.K W r)) :
    PPs X pos (some (.Constant (.str k) j kp) :: ks) (v :: vs) (jhK cm X.K W ((k,m) :: r)):=pps_cons pe_str hv hr
end
end Mir
namespace Mir
open PySem PySem.Spec PyProof.Rows L2
inductive jm2 (X:Cx):List ExceptHandler→List (Nat×Value×(Addr→Value→Option Addr→TS))→Prop
  | nil:jm2 X [] []
  | cons {i:Nat} {x n:Str} {c:Value} {ts:Addr→Value→Option Addr→TS} {b₀:Stmt} {suite:List Stmt} {np pp:Pos} {hds:List ExceptHandler} {l:List (Nat×Value×(Addr→Value→Option Addr→TS))}
      (hi:X.N[i]? =some n) (hln:X.env.kindOf n=some .local) (hc:Names X x c)
      (hsu:∀ (a:Addr) (oe:Obj) (cls:Value) (d:Option Addr) (pn:List (Addr×Obj)),Zc cls d oe→(∃ vs,oe.data= .fields vs)→
        PSs (X.suite a ((a,oe) :: pn)) (b₀ :: suite) (ts a cls d)) (r:jm2 X hds l) :
      jm2 X (.ExceptHandler (some (.Name x np)) (some n) (b₀ :: suite) pp :: hds) ((i,c,ts) :: l)
structure Hnd where
  tab:List (Str×Bool)
  i:Nat
  ms:MS
section
variable {X:Cx} {cm:CM} {W:WX} {body:List Stmt} {hd0:ExceptHandler} {hds:List ExceptHandler} {pos:Pos} {mb:MS}
inductive jl1 (X:Cx) (cm:CM):List ExceptHandler→List (Hnd×Value)→Prop
  | nil:jl1 X cm [] []
  | cons {i:Nat} {x n:Str} {cv:Value} {tab:List (Str×Bool)} {ms:MS} {b₀:Stmt} {suite:List Stmt} {np pp:Pos} {hds:List ExceptHandler} {l:List (Hnd×Value)}
      (hi:X.N[i]? =some n) (hln:X.env.kindOf n=some .local) (hc:Names X x cv) (htab:∀ q,q ∈ tab→PySem.W.exmOne X.K (.ref (cm q.1)) cv=some q.2)
      (hsu:∀ (a:Addr) (oe:Obj) (c:Str) (dd:Addr) (pn:List (Addr×Obj)),Zc (.ref (cm c)) (some dd) oe→(∃ vs,oe.data= .fields vs)→PSs (X.suite a ((a,oe) :: pn)) (b₀ :: suite) (tS (cm.sx (some (a,c,dd))) X.K W0 ms)) (r:jl1 X cm hds l) :
      jl1 X cm (.ExceptHandler (some (.Name x np)) (some n) (b₀ :: suite) pp :: hds) ((⟨tab,i,ms⟩,cv) :: l)
def jom (K:PySem.W.Frag) (cm:CM) (h:Hnd×Value):Nat×Value×(Addr→Value→Option Addr→TS):=(h.1.i,h.2,fun a cls d D σ H=> ∃ c dd,cls= .ref (cm c)∧d=some dd∧tS (cm.sx (some (a,c,dd))) K W0 h.1.ms D σ H)
theorem jl1.a {hds:List ExceptHandler} {l:List (Hnd×Value)} (h:jl1 X cm hds l):jm2 X hds (l.map (jom X.K cm)):=by
  induction h with
  | nil=>exact .nil
  | cons hi hln hc htab hsu r ih=>
    refine .cons hi hln hc (fun a oe cls d pn hz hv=>?_) ih
    refine ⟨fun pins s σ H D I ⟨c,dd,e1,e2,h⟩=>?_⟩
    subst e1 e2
    exact (hsu a oe c dd pn hz hv).run pins s σ H D I h
end
end Mir
namespace Mir
open PySem PySem.Spec PyProof.Rows L2
end Mir
namespace PySem
section
variable {prog:Program} {w:World} {h₀:Heap}
mutual
inductive RdE (h:Heap):Value→PyData→List Addr→Prop
  | none:RdE h .none .none []
  | bool (b):RdE h (.bool b) (.bool b) []
  | int (i t):RdE h (.int i t) (.int i) []
  | str (x t):RdE h (.str x t) (.str x) []
  | list {a o vs n xs as}:h.get? a=some o→o.cls= .type "list" →o.data= .seq vs n→RdAllE h vs.toList xs as→RdE h (.ref a) (.list xs) (a :: as)
  | tuple {a o vs n xs as}:h.get? a=some o→o.cls= .type "tuple" →o.data= .seq vs n→RdAllE h vs.toList xs as→RdE h (.ref a) (.tuple xs) as
  | dict {a o es n kvs as}:h.get? a=some o→o.cls= .type "dict" →o.data= .dict es n→ReadsAll h (es.toList.map (·.key)) (kvs.map (·.1)) []→RdAllE h (es.toList.map (·.val)) (kvs.map (·.2)) as→(a == sysModules)=false→RdE h (.ref a) (.dict kvs) (a :: [] ++ as)
inductive RdAllE (h:Heap):List Value→List PyData→List Addr→Prop
  | nil:RdAllE h [] [] []
  | cons {v vs d ds as bs}:RdE h v d as→RdAllE h vs ds bs→RdAllE h (v :: vs) (d :: ds) (as ++ bs)
end
mutual
theorem RdE.reads:∀ {v:Value} {d:PyData} {as:List Addr},RdE h₀ v d as→Reads h₀ v d as
  | _,_,_,.none=> .none
  | _,_,_,.bool b=> .bool b
  | _,_,_,.int i t=> .int i t
  | _,_,_,.str x t=> .str x t
  | _,_,_,.list h1 h2 h3 h4=> .list h1 h2 h3 (RdAllE.reads h4)
  | _,_,_,.tuple h1 h2 h3 h4=> .tuple h1 h2 h3 (RdAllE.reads h4)
  | _,_,_,.dict h1 h2 h3 e f _=> .dict h1 h2 h3 e (RdAllE.reads f)
theorem RdAllE.reads:∀ {vs:List Value} {ds:List PyData} {as:List Addr},RdAllE h₀ vs ds as→ReadsAll h₀ vs ds as
  | _,_,_,.nil=> .nil
  | _,_,_,.cons r rs=> .cons (RdE.reads r) (RdAllE.reads rs)
end
mutual
theorem ReprK.of_rdE:∀ {v:Value} {d:PyData} {as:List Addr},RdE h₀ v d as→d.showable=true→d.shown.length≤sizeLine→∃ bs,ReadAtMost h₀ d.depth bs∧ReprK prog w bs h₀ d.depth v d.shown
  | _,_,_,.none,_,_=>⟨[],(fun _ h=>nomatch h),by simp only [PyData.shown]; exact .of_is ReprIs.none _ _ _⟩
  | _,_,_,.bool b,_,_=>⟨[],(fun _ h=>nomatch h),by simp only [PyData.shown]; exact .of_is (ReprIs.bool b) _ _ _⟩
  | _,_,_,.int i t,hs,_=>⟨[],(fun _ h=>nomatch h),by simp only [PyData.shown]; exact .of_is (ReprIs.int t (by simpa [PyData.showable] using hs)) _ _ _⟩
  | _,_,_,.str x t,_,hz=>⟨[],(fun _ h=>nomatch h),by simp only [PyData.shown]; exact .of_is (ReprIs.str x t (by simpa only [PyData.shown] using hz)) _ _ _⟩
  | _,_,_,.list (a:=a) (vs:=vs) (xs:=xs) h1 h2 h3 h4,hs,hz=>by
    have hz':(listText (PyData.shownAll xs)).length≤sizeLine:=by simpa only [PyData.shown] using hz
    obtain ⟨bs,hb,hk⟩:=ReprAllK.of_rdE h4 (by simpa [PyData.showable] using hs) (fun t ht=>Nat.le_trans (listText_mem_le ht) hz')
    have r:Reads h₀ (.ref a) (.list xs) _:= .list h1 h2 h3 h4.reads
    have hna:a ∉ bs:=not_mem_of_deeper r (by simp only [PyData.depth]; omega) hb
    refine ⟨a :: bs,ReadAtMost.cons r (by simp only [PyData.depth]; omega) hb,?_⟩
    simp only [PyData.depth,PyData.shown]
    obtain ⟨l⟩:=vs
    cases l with
    | nil=>
      have h4':RdAllE h₀ [] xs _:=h4
      cases h4'
      simp only [PyData.shownAll,listText_nil]
      exact ReprK.listEmpty h1 h2 h3
    | cons x l=>exact ReprK.list h1 h2 h3 hna (by simpa using hk.length_eq) (fun i y e=>hk.item i y (by simpa using e))
  | _,_,_,.tuple (a:=a) (xs:=xs) h1 h2 h3 h4,hs,hz=>by
    have hz':(tupleText (PyData.shownAll xs)).length≤sizeLine:=by simpa only [PyData.shown] using hz
    obtain ⟨bs,hb,hk⟩:=ReprAllK.of_rdE h4 (by simpa [PyData.showable] using hs) (fun t ht=>Nat.le_trans (tupleText_mem_le ht) hz')
    have r:Reads h₀ (.ref a) (.tuple xs) _:= .tuple h1 h2 h3 h4.reads
    have hna:a ∉ bs:=not_mem_of_deeper r (by simp only [PyData.depth]; omega) hb
    refine ⟨a :: bs,ReadAtMost.cons r (by simp only [PyData.depth]; omega) hb,?_⟩
    simp only [PyData.depth,PyData.shown]
    exact ReprK.tuple h1 h2 h3 hna hk
  | _,_,_,.dict (a:=a) (es:=es) (kvs:=kvs) h1 h2 h3 e f hsys,hs,hz=>by
    have hz':(dictText (PyData.shownKv kvs)).length≤sizeLine:=by simpa only [PyData.shown] using hz
    obtain ⟨hs1,hs2⟩:=PyData.showableKv_split kvs (by simpa [PyData.showable] using hs)
    obtain ⟨b1,hb1,k1⟩:=ReprAllK.of_readsAll (prog:=prog) (w:=w) e hs1 (fun _ hm=>nomatch hm) (fun t ht=>let ⟨p,hp,hl⟩:=PyData.shownKv_key_le kvs t ht; Nat.le_trans hl (Nat.le_trans (dictText_mem_le hp) hz'))
    obtain ⟨b2,hb2,k2⟩:=ReprAllK.of_rdE f hs2 (fun t ht=>let ⟨p,hp,hl⟩:=PyData.shownKv_val_le kvs t ht; Nat.le_trans hl (Nat.le_trans (dictText_mem_le hp) hz'))
    have rd:Reads h₀ (.ref a) (.dict kvs) _:= .dict h1 h2 h3 e f.reads
    have hb:ReadAtMost h₀ (PyData.depthKv kvs) (b1 ++ b2):=(hb1.mono (PyData.depthAll_keys_le kvs)).append (hb2.mono (PyData.depthAll_vals_le kvs))
    have out:a ∉ b1 ++ b2:=not_mem_of_deeper rd (by simp only [PyData.depth]; omega) hb
    refine ⟨a :: (b1 ++ b2),ReadAtMost.cons rd (by simp only [PyData.depth]; omega) hb,?_⟩
    simp only [PyData.depth,PyData.shown]
    rw [PyData.shownKv_eq]
    exact ReprK.dict h1 h2 h3 hsys out (ReprEntriesK.of_two es.toList _ _
      (k1.more_le (fun b hb=>List.mem_append_left _ hb) (PyData.depthAll_keys_le kvs))
      (k2.more_le (fun b hb=>List.mem_append_right _ hb) (PyData.depthAll_vals_le kvs)))
theorem ReprAllK.of_rdE:∀ {vs:List Value} {ds:List PyData} {as:List Addr},RdAllE h₀ vs ds as→PyData.showableAll ds=true→(∀ t ∈ PyData.shownAll ds,t.length≤sizeLine)→
    ∃ bs,ReadAtMost h₀ (PyData.depthAll ds) bs∧ReprAllK prog w bs h₀ (PyData.depthAll ds) vs (PyData.shownAll ds)
  | _,_,_,.nil,_,_=>⟨[],(fun _ h=>nomatch h),by simp only [PyData.shownAll]; exact .nil⟩
  | _,_,_,.cons (d:=d) (ds:=ds) r rs,hs,hz=>by
    have hs':d.showable=true∧PyData.showableAll ds=true:=by simpa [PyData.showableAll] using hs
    obtain ⟨b1,hb1,k1⟩:=ReprK.of_rdE r hs'.1 (hz _ (by simp only [PyData.shownAll]; exact List.mem_cons_self ..))
    obtain ⟨b2,hb2,k2⟩:=ReprAllK.of_rdE rs hs'.2 (fun t ht=>hz t (by simp only [PyData.shownAll]; exact List.mem_cons_of_mem _ ht))
    refine ⟨b1 ++ b2,?_,?_⟩
    · intro b hm
      simp only [PyData.depthAll]
      rcases List.mem_append.mp hm with hm | hm
      · obtain ⟨d',as',r',hd'⟩:=hb1 b hm
        exact ⟨d',as',r',Nat.le_trans hd' (Nat.le_max_left _ _)⟩
      · obtain ⟨d',as',r',hd'⟩:=hb2 b hm
        exact ⟨d',as',r',Nat.le_trans hd' (Nat.le_max_right _ _)⟩
    · simp only [PyData.depthAll,PyData.shownAll]
      exact .cons ((k1.more fun b hb=>List.mem_append_left _ hb).level_le (Nat.le_max_left _ _)) (k2.more_le (fun b hb=>List.mem_append_right _ hb) (Nat.le_max_right _ _))
end
theorem jbT {a:Addr} {d:PyData} {as:List Addr} (r:RdE h₀ (.ref a) d as) (hs:d.showable=true) (hsz:d.shown.length≤sizeLine):∃ T idr,ShowsBy prog w h₀ a d T idr:=by
  cases r with
  | list h1 h2 h3 h4=>
    rename_i o vs n xs bs₀
    have hz':(listText (PyData.shownAll xs)).length≤sizeLine:=by simpa only [PyData.shown] using hsz
    obtain ⟨bs,hb,hk⟩:=ReprAllK.of_rdE (prog:=prog) (w:=w) h4 (by simpa [PyData.showable] using hs) (fun t ht=>Nat.le_trans (listText_mem_le ht) hz')
    have hna:a ∉ bs:=not_mem_of_deeper (.list h1 h2 h3 h4.reads) (by simp only [PyData.depth]; omega) hb
    refine ⟨"list","list.__repr__",F.slot_list_repr.toG,F.slot_list_str,F.slot_list_format,fun s hk0=>⟨o,hk0 _ _ h1,h2⟩,fun A E s Q hg hu hk0 hQ=>?_⟩
    simp only [PyData.depth] at hu
    simp only [PyData.shown] at hQ
    obtain ⟨l⟩:=vs
    cases l with
    | nil=>
      have h4':RdAllE h₀ [] xs _:=h4
      cases h4'
      simp only [PyData.shownAll,listText_nil] at hQ
      exact call_list_repr_empty ⟨o,hk0 _ _ h1,h2⟩ (hk0 _ _ h1) h3 (hQ s.heap _ _ fun _ _ e=>e)
    | cons x l=>
      exact call_list_reprK h1 h2 h3 hna (by simpa using hk.length_eq) (fun i y e=>hk.item i y (by simpa using e)) hg (fun b _=>Clear.nil b) hu hk0 hQ hz'
  | tuple h1 h2 h3 h4=>
    rename_i o vs n xs
    have hz':(tupleText (PyData.shownAll xs)).length≤sizeLine:=by simpa only [PyData.shown] using hsz
    obtain ⟨bs,hb,hk⟩:=ReprAllK.of_rdE (prog:=prog) (w:=w) h4 (by simpa [PyData.showable] using hs) (fun t ht=>Nat.le_trans (tupleText_mem_le ht) hz')
    have hna:a ∉ bs:=not_mem_of_deeper (.tuple h1 h2 h3 h4.reads) (by simp only [PyData.depth]; omega) hb
    refine ⟨"tuple","tuple.__repr__",F.slot_tuple_repr,F.slot_tuple_str,F.slot_tuple_format,fun s hk0=>⟨o,hk0 _ _ h1,h2⟩,fun A E s Q hg hu hk0 hQ=>?_⟩
    simp only [PyData.depth] at hu
    simp only [PyData.shown] at hQ
    exact call_tuple_reprK h1 h2 h3 hna hk hg (fun b _=>Clear.nil b) hu hk0 hQ hz'
  | dict h1 h2 h3 e f hsys=>
    rename_i o es n kvs as₁
    have hz':(dictText (PyData.shownKv kvs)).length≤sizeLine:=by simpa only [PyData.shown] using hsz
    obtain ⟨hs1,hs2⟩:=PyData.showableKv_split kvs (by simpa [PyData.showable] using hs)
    obtain ⟨b1,hb1,k1⟩:=ReprAllK.of_readsAll (prog:=prog) (w:=w) e hs1 (fun _ hm=>nomatch hm) (fun t ht=>let ⟨p,hp,hl⟩:=PyData.shownKv_key_le kvs t ht; Nat.le_trans hl (Nat.le_trans (dictText_mem_le hp) hz'))
    obtain ⟨b2,hb2,k2⟩:=ReprAllK.of_rdE (prog:=prog) (w:=w) f hs2 (fun t ht=>let ⟨p,hp,hl⟩:=PyData.shownKv_val_le kvs t ht; Nat.le_trans hl (Nat.le_trans (dictText_mem_le hp) hz'))
    have hb:ReadAtMost h₀ (PyData.depthKv kvs) (b1 ++ b2):=(hb1.mono (PyData.depthAll_keys_le kvs)).append (hb2.mono (PyData.depthAll_vals_le kvs))
    have out:a ∉ b1 ++ b2:=not_mem_of_deeper (.dict h1 h2 h3 e f.reads) (by simp only [PyData.depth]; omega) hb
    refine ⟨"dict","dict.__repr__",F.slot_dict_repr,F.slot_dict_str,F.slot_dict_format,fun s hk0=>⟨o,hk0 _ _ h1,h2⟩,fun A E s Q hg hu hk0 hQ=>?_⟩
    simp only [PyData.depth] at hu
    simp only [PyData.shown] at hQ
    rw [PyData.shownKv_eq] at hQ
    exact call_dict_reprK h1 h2 h3 hsys out (ReprEntriesK.of_two es.toList _ _
      (k1.more_le (fun b hb=>List.mem_append_left _ hb) (PyData.depthAll_keys_le kvs)) (k2.more_le (fun b hb=>List.mem_append_right _ hb) (PyData.depthAll_vals_le kvs))) hg (fun b _=>Clear.nil b) hu hk0 hQ (by rw [← PyData.shownKv_eq]; exact hz')
variable {A:Around} {E:Value→Shared→Prop} {s:Shared} {Q:Value→Shared→Prop}
theorem jgk {a:Addr} {d:PyData} {as:List Addr} (r:RdE h₀ (.ref a) d as) (hs:d.showable=true) (hg:A.guards=some []) (hu:A.units + (d.depth + 1) < cLine) (hk0:∀ b o,h₀.get? b=some o→s.heap.get? b=some o)
    (hQ:∀ h' u tk,(∀ b o,s.heap.get? b=some o→h'.get? b=some o)→Q (.str d.shown u) { s with heap:=h',toks:=tk })
    (hsz:d.shown.length≤sizeLine):wpAny (model prog w) A (call (.builtin "repr") [.ref a]) Q E s:=by
  obtain ⟨T,idr,S⟩:=jbT (prog:=prog) (w:=w) r hs hsz
  exact call_repr_slot (by omega) (S.typeIs s hk0) S.slotRepr (S.call A.in1 E s _ hg (by show A.units + 1 + d.depth < cLine; omega) hk0 fun h' u tk hk=>⟨_,_,rfl,hQ h' u tk hk⟩)
end
end PySem
namespace Mir
open PySem PySem.Spec PyProof.Rows L2
def jlw:Key→PyData
  | .inl i=> .int i
  | .inr x=> .str x
mutual
def jbE:Dat→Option PyData
  | .non=>some .none
  | .bl b=>some (.bool b)
  | .int i=>some (.int i)
  | .str x=>some (.str x)
  | .lst ds=>match toPyEs ds with
    | some ps=>some (.list ps)
    | none=>none
  | .tup ds=>match toPyEs ds with
    | some ps=>some (.tuple ps)
    | none=>none
  | .ro ds=>match toPyEs ds with
    | some ps=>some (.list ps)
    | none=>none
  | .ins _ _=>none
  | .dic ks=>(dicPy ks).map .dict
  | .ptr _=>none
  | .exn _ _=>none
def toPyEs:List Dat→Option (List PyData)
  | []=>some []
  | d :: ds=>match jbE d,toPyEs ds with
    | some p,some ps=>some (p :: ps)
    | _,_=>none
def dicPy:List (Key×Dat)→Option (List (PyData×PyData))
  | []=>some []
  | (k,d) :: r=>match jbE d,dicPy r with
    | some p,some ps=>some ((jlw k,p) :: ps)
    | _,_=>none
end
def jkH (p:PyData):Option Str:=if p.showable && decide (p.depth≤60) && decide (p.shown.length≤sizeLine) then some p.shown else none
def zO (d:Dat):Option Str:=match jbE d with
  | some p=>jkH p
  | none=>none
def J8:List Dat→Option Dat
  | [d]=>(zO d).map Dat.str
  | _=>none
theorem jld {P:Program} {w:World} {h:Heap} {k:Key} {key:Value} (e:(mixKind P w).is k key=true):Reads h key (jlw k) []:=by
  rcases keyIs_shape (show keyIs k key=true from e) with ⟨i,t,rfl,rfl⟩ | ⟨x,t,rfl,rfl⟩
  · exact .int i t
  · exact .str x t
theorem jj8 {P:Program} {w:World} {h:Heap}:∀ {es:List DictEntry} {kvs:List (Key×Value)},Pairs (mixKind P w) es kvs→ReadsAll h (es.map (·.key)) (kvs.map fun q=>jlw q.1) []∧es.map (·.val)=kvs.map (·.2)
  | _,_,.nil=>⟨.nil,rfl⟩
  | _,_,.cons hk hv hp=>by
    obtain ⟨a,b⟩:=jj8 hp
    refine ⟨ReadsAll.cons (jld hk) a,?_⟩
    rw [List.map_cons,List.map_cons,hv,b]
section
variable {X:Cx} {cm:CM} {pins:List (Addr×Obj)} {σ:L2.St} {H:Hp} {s:Shared} {ρ:List Addr}
mutual
theorem jgH (I:L2.Inv X pins σ H s):∀ {v:V} {d:Dat} {p:PyData} {u:Value},Rp cm X.K ⟨H,ρ⟩ v d→jbE d=some p→RelV v u→∃ as,RdE s.heap u p as
  | _,_,_,_,.non,e,r=>by cases e; cases r; exact ⟨_,.none⟩
  | _,_,_,_,.bl b,e,r=>by cases e; cases r; exact ⟨_,.bool b⟩
  | _,_,_,_,.int b,e,r=>by cases e; obtain ⟨t,rfl⟩:=r; exact ⟨_,.int b t⟩
  | _,_,_,_,.str b,e,r=>by cases e; obtain ⟨t,rfl⟩:=r; exact ⟨_,.str b t⟩
  | _,_,p,_,.lst (ds:=ds) hs ha,e,r=>by
    rw [jbE] at e
    cases h:toPyEs ds with
    | none=>rw [h] at e; cases e
    | some ps=>
      rw [h] at e; cases e
      cases r
      obtain ⟨its,rv,⟨o,n,ho,hc,_,hd⟩,_⟩:=I.list (SqL.of hs)
      obtain ⟨as,hr⟩:=rdAllE_of I ha h rv
      exact ⟨_,.list ho hc hd hr⟩
  | _,_,p,_,.ro (ds:=ds) hs ha,e,r=>by
    rw [jbE] at e
    cases h:toPyEs ds with
    | none=>rw [h] at e; cases e
    | some ps=>
      rw [h] at e; cases e
      cases r
      obtain ⟨its,rv,⟨o,n,ho,hc,_,hd⟩,_⟩:=I.list hs
      obtain ⟨as,hr⟩:=rdAllE_of I ha h rv
      exact ⟨_,.list ho hc hd hr⟩
  | _,_,p,_,.tup (ds:=ds) hs ha,e,r=>by
    rw [jbE] at e
    cases h:toPyEs ds with
    | none=>rw [h] at e; cases e
    | some ps=>
      rw [h] at e; cases e
      cases r
      obtain ⟨its,rv,⟨o,ho,hc,n,hd⟩,_⟩:=I.tuple hs
      obtain ⟨as,hr⟩:=rdAllE_of I ha h rv
      exact ⟨_,.tuple ho hc hd hr⟩
  | _,_,_,_,.ins _ _,e,r=>by rw [jbE] at e; cases e
  | _,_,_,_,.dic (a:=a) (fs:=fs) hh rk,e,r=>by
    rw [jbE] at e
    cases hD:dicPy fs with
    | none=>rw [hD] at e; cases e
    | some D=>
      rw [hD] at e; cases e
      cases r
      obtain ⟨_,hn,vs,kv,o,es,ep,h1,h2,h3,_,h4,_⟩:=(show ObjOk X.prog X.w H s.heap a (.dK _) from I.hok a _ hh)
      obtain ⟨as,q1,q2⟩:=rdKsE_of I rk hD kv
      obtain ⟨k1,k2⟩:=jj8 (h:=s.heap) h4
      exact ⟨_,.dict h1 h2.1 h3 (by rw [q1]; exact k1) (by rw [k2]; exact q2) hn⟩
  | _,_,_,_,.ptr _,e,r=>by rw [jbE] at e; cases e
  | _,_,_,_,.exn _ _ _,e,r=>by rw [jbE] at e; cases e
  | _,_,_,_,.exn0 _,e,r=>by rw [jbE] at e; cases e
theorem rdAllE_of (I:L2.Inv X pins σ H s):∀ {vs:List V} {ds:List Dat} {ps:List PyData} {us:List Value},RpAll cm X.K ⟨H,ρ⟩ vs ds→toPyEs ds=some ps→Vals vs us→∃ as,RdAllE s.heap us ps as
  | _,_,_,_,.nil,e,r=>by rw [toPyEs] at e; cases e; cases r; exact ⟨_,.nil⟩
  | _,_,_,_,.cons (d:=d) (ds:=ds) a b,e,r=>by
    rw [toPyEs] at e
    cases h:jbE d with
    | none=>rw [h] at e; cases e
    | some p=>
      cases h2:toPyEs ds with
      | none=>rw [h,h2] at e; cases e
      | some ps=>
        rw [h,h2] at e; cases e
        cases r with
        | cons r1 r2=>
          obtain ⟨as,q1⟩:=jgH I a h r1
          obtain ⟨bs,q2⟩:=rdAllE_of I b h2 r2
          exact ⟨_,.cons q1 q2⟩
theorem rdKsE_of (I:L2.Inv X pins σ H s):∀ {gs:List (Key×V)} {fs:List (Key×Dat)} {D:List (PyData×PyData)} {vs:List (Key×Value)},RpK cm X.K ⟨H,ρ⟩ gs fs→dicPy fs=some D→KV gs vs→∃ as,D.map (·.1)=vs.map (fun q=>jlw q.1)∧RdAllE s.heap (vs.map (·.2)) (D.map (·.2)) as
  | _,_,_,_,.nil,e,kv=>by
    rw [dicPy] at e
    cases e
    have kv:Paired _ _ _:=kv
    cases kv
    exact ⟨_,rfl,.nil⟩
  | _,_,_,_,.cons (f:=f) (d:=d) (fs:=fs) a b,e,kv=>by
    rw [dicPy] at e
    cases h:jbE d with
    | none=>rw [h] at e; cases e
    | some p=>
      cases h2:dicPy fs with
      | none=>rw [h,h2] at e; cases e
      | some D=>
        rw [h,h2] at e; cases e
        have kv:Paired _ _ _:=kv
        cases kv with
        | @cons p' q _ _ r t=>
          obtain ⟨e1,w⟩:=r
          obtain ⟨as,z1⟩:=jgH I a h w
          obtain ⟨bs,z2,z3⟩:=rdKsE_of I b h2 t
          refine ⟨_,?_,.cons z1 z3⟩
          rw [List.map_cons,List.map_cons,z2]
          show jlw f :: _=jlw q.1 :: _
          rw [show q.1=f from e1.symm]
end
theorem jg5 {p:PyData} {x:Str} (e:jkH p=some x):p.showable=true∧p.depth≤60∧p.shown.length≤sizeLine∧x=p.shown:=by
  unfold jkH at e
  by_cases hz:(p.showable && decide (p.depth≤60) && decide (p.shown.length≤sizeLine))=true
  · rw [if_pos hz] at e
    cases e
    simp only [Bool.and_eq_true,decide_eq_true_eq] at hz
    exact ⟨hz.1.1,hz.1.2,hz.2,rfl⟩
  · rw [if_neg hz] at e; cases e
theorem jjO {Q:VK} {M:Hd} {x:V} {u:Value} {d:Dat} {z:Str} (I:L2.Inv X pins σ H s) (hg:X.A.guards=some []) (hu:X.A.units + 64 < cLine) (p:Rp cm X.K (hid M H) x d) (rx:RelV x u) (e:zO d=some z)
    (q:Q (.str z) H):wpAny (model X.prog X.w) X.A (call (.builtin "repr") [u]) (EP X pins σ Q) X.xe s:=by
  unfold zO at e
  cases hp:jbE d with
  | none=>rw [hp] at e; cases e
  | some py=>
    rw [hp] at e
    obtain ⟨h1,h3,h4,rfl⟩:=jg5 e
    obtain ⟨as,rd⟩:=jgH I (p.mono jeh) hp rx
    have ref:∀ a,u= .ref a→wpAny (model X.prog X.w) X.A (call (.builtin "repr") [u]) (EP X pins σ Q) X.xe s:=fun a ea=>by
      subst ea
      exact jgk rd h1 hg (by omega) (fun _ _ z=>z) (fun h' t tk k=>⟨.str py.shown,H,I.kept k,⟨_,rfl⟩,q⟩) h4
    cases rd with
    | none=>exact PySem.P.repr_of_none ⟨.str _,H,I.tok _,⟨_,rfl⟩,q⟩
    | bool b=>
      have eb:PyData.shown (.bool b)=if b=true then Str.ofString "True" else Str.ofString "False" :=by cases b <;> rfl
      rw [eb] at q
      exact PySem.P.repr_of_bool ⟨.str _,H,I.tok _,⟨_,rfl⟩,q⟩
    | int i t=>exact PySem.P.repr_of_int (of_decide_eq_true (by simpa [PyData.showable] using h1)) ⟨.str _,H,I.tok _,⟨_,rfl⟩,q⟩
    | str i t=>exact PySem.P.repr_of_str ⟨.str _,H,I.tok _,⟨_,rfl⟩,q⟩ h4
    | _=>exact ref _ rfl
theorem jaL (hg:X.A.guards=some []) (hu:X.A.units + 64 < cLine):CallR X (.builtin "repr") (rDs cm X.K J8):=by
  rintro pins s σ H xs us Q I r ⟨M,ds,c,lv,pa,e,q⟩
  cases pa with
  | nil=>cases e
  | @cons v d vs ds p1 p2=>
    cases p2 with
    | cons _ _=>cases p1 <;> cases e
    | nil=>
      obtain ⟨u,rfl,rx⟩:=vals1 r
      have e':(zO d).map Dat.str=some c:=e
      cases h:zO d with
      | none=>rw [h] at e'; cases e'
      | some z=>
        rw [h] at e'; cases e'
        exact jjO I hg hu p1 rx h (q _ H (.refl _) (.str _))
end
theorem wI {d:Dat} {s:Str} (h:zO d=some s):J8 [d]=some (.str s):=by show (zO d).map Dat.str=_; rw [h]; rfl
end Mir
namespace Mir
open PySem L2
end Mir
namespace Mir
open PySem PySem.Spec PyProof.Rows L2
def jlp (x:Int):List Int→List Int
  | []=>[x]
  | y :: ys=>if x≤y then x :: y :: ys else y :: jlp x ys
def jft:List Int→List Int
  | []=>[]
  | x :: xs=>jlp x (jft xs)
theorem jd9 (x:Int):∀ ys:List Int,(jlp x ys).Perm (x :: ys)
  | []=> .refl _
  | y :: ys=>by
    unfold jlp
    split
    · exact .refl _
    · exact (List.Perm.cons y (jd9 x ys)).trans (List.Perm.swap x y ys)
theorem jfd:∀ xs:List Int,(jft xs).Perm xs
  | []=> .refl _
  | x :: xs=>(jd9 x (jft xs)).trans (List.Perm.cons x (jfd xs))
theorem jiv (x:Int):∀ ys:List Int,ys.Pairwise (· ≤ ·)→(jlp x ys).Pairwise (· ≤ ·)
  | [],_=>List.pairwise_singleton _ _
  | y :: ys,h=>by
    unfold jlp
    rw [List.pairwise_cons] at h
    split
    · rename_i hz
      rw [List.pairwise_cons]
      refine ⟨fun z hm=>?_,by rw [List.pairwise_cons]; exact h⟩
      rcases List.mem_cons.mp hm with rfl | hm
      · exact hz
      · exact Int.le_trans hz (h.1 z hm)
    · rename_i hz
      rw [List.pairwise_cons]
      refine ⟨fun z hm=>?_,jiv x ys h.2⟩
      rcases List.mem_cons.mp ((jd9 x ys).mem_iff.mp hm) with rfl | hm
      · omega
      · exact h.1 z hm
theorem jgP:∀ xs:List Int,(jft xs).Pairwise (· ≤ ·)
  | []=>List.Pairwise.nil
  | x :: xs=>jiv x _ (jgP xs)
theorem jin:∀ {xs ys:List Int},xs.Perm ys→xs.Pairwise (· ≤ ·)→ys.Pairwise (· ≤ ·)→xs=ys
  | [],ys,p,_,_=>(List.Perm.nil_eq p)
  | x :: xs,[],p,_,_=>by have:=p.length_eq; simp at this
  | x :: xs,y :: ys,p,h,k=>by
    rw [List.pairwise_cons] at h k
    have a:x≤y:=by
      rcases List.mem_cons.mp (p.mem_iff.mpr (List.mem_cons_self ..)) with e | e
      · omega
      · exact h.1 y e
    have b:y≤x:=by
      rcases List.mem_cons.mp (p.mem_iff.mp (List.mem_cons_self ..)) with e | e
      · omega
      · exact k.1 x e
    obtain rfl:x=y:=by omega
    rw [jin (List.Perm.cons_inv p) h.2 k.2]
end Mir
namespace Mir
open PySem PySem.Spec PyProof.Rows L2
section
variable {X:Cx} {cm:CM} {k:Nat} {f:Addr} {fd:FuncData} {ps:List Str} {Fn:List FA→RF}
structure jnU (cm:CM) (K:PySem.W.Frag) (G:VH) (c:Str) (cs:List Str) (Fn:List FA→RF) (x y:V):Prop where
  ex:∃ fs c2 gs,Rp cm K G x (.ins c fs)∧Rp cm K G y (.ins c2 gs)∧cs.contains c2=true∧jmB Fn [.ins c fs,.ins c2 gs]=some (.bl true)
theorem jnU.mono {K:PySem.W.Frag} {G G':VH} {c:Str} {cs:List Str} {x y:V} (e:Same G G') (h:jnU cm K G c cs Fn x y):jnU cm K G' c cs Fn x y:=by
  obtain ⟨fs,c2,gs,a,b,r⟩:=h.ex
  exact ⟨fs,c2,gs,a.mono e,b.mono e,r⟩
end
end Mir
namespace Mir
open PySem PySem.Spec PyProof.Rows L2
end Mir
namespace Mir
open PySem L2
end Mir
namespace Mir
open PySem PySem.Spec PyProof.Rows L2
end Mir
namespace Mir
open PySem PySem.Spec PyProof.Rows L2
end Mir
namespace Mir
open PySem PySem.Spec PyProof.Rows L2
end Mir
namespace Mir
open PySem PySem.Spec PyProof.Rows L2
end Mir
namespace Mir
open PySem PySem.Spec PyProof.Rows L2
end Mir
namespace Mir
open PySem PySem.Spec PyProof.Rows L2
end Mir
namespace Mir
open PySem PySem.Spec PyProof.Rows L2
end Mir
namespace Mir
open PySem PySem.Spec PyProof.Rows L2 PySem.Calls Builtin
end Mir
namespace Mir
open PySem PySem.Spec PyProof.Rows L2
end Mir
namespace Mir
open PySem PySem.Spec PyProof.Rows L2
def rSetL (K:PySem.W.Frag) (w:World):List V→Hp→VK→Prop:=fun xs H Q=> ∃ (l:Addr) (ns:List Int),xs= [V.ref l]∧SqL K H l (ns.map V.int)∧ns.length < 1000∧
  ∀ a c,H a=none→c≤ns.length→Q (.ref a) (upd H a (SetO w a (fun j=>decide (j ∈ ns)) c))
end Mir
namespace Mir
open PySem PySem.Spec PyProof.Rows L2
end Mir
namespace Mir
open PySem PySem.Spec PyProof.Rows L2
end Mir
namespace Mir
open PySem PySem.Spec PyProof.Rows L2
mutual
def ndc:Dat→Bool
  | .non=>true
  | .bl _=>true
  | .int _=>true
  | .str _=>true
  | .lst ds=>ndcs ds
  | .tup ds=>ndcs ds
  | .ro ds=>ndcs ds
  | .ins _ fs=>ndcf fs
  | .dic _=>false
  | .ptr _=>true
  | .exn _ _=>false
def ndcs:List Dat→Bool
  | []=>true
  | d :: ds=>ndc d && ndcs ds
def ndcf:List (Str×Dat)→Bool
  | []=>true
  | (_,d) :: ds=>ndc d && ndcf ds
end
section
variable {cm:CM} {K:PySem.W.Frag} {G G':VH} {a0:Addr}
theorem jma {H H':Hp} {a:Addr} {xs:List V} {a0:Addr} (hG:∀ a o,a ≠ a0→H a=some o→H' a=some o) (h0:∀ ys,H a0 ≠ some (.lst ys)∧∀ o,H a0 ≠ some (.frz o (.lst ys))) (h:SqL K H a xs):SqL K H' a xs:=by
  rcases h with (h | ⟨o,h⟩) | h
  · exact .inl (.inl (hG _ _ (fun z=>(h0 xs).1 (by rw [← z]; exact h)) h))
  · exact .inl (.inr ⟨o,hG _ _ (fun z=>(h0 xs).2 o (by rw [← z]; exact h)) h⟩)
  · exact .inr h
theorem jlZ {H H':Hp} {a:Addr} {xs:List V} {a0:Addr} (hG:∀ a o,a ≠ a0→H a=some o→H' a=some o) (h0:∀ ys,H a0 ≠ some (.tup ys)∧∀ o,H a0 ≠ some (.frz o (.tup ys))) (h:SqT K H a xs):SqT K H' a xs:=by
  rcases h with (h | ⟨o,h⟩) | h
  · exact .inl (.inl (hG _ _ (fun z=>(h0 xs).1 (by rw [← z]; exact h)) h))
  · exact .inl (.inr ⟨o,hG _ _ (fun z=>(h0 xs).2 o (by rw [← z]; exact h)) h⟩)
  · exact .inr h
structure jiB (G:VH) (a0:Addr) (gs:List (Key×V)):Prop where
  at_:G a0=some (.dK gs)∨∃ o,G a0=some (.frz o (.dK gs))
theorem jiB.nl {gs:List (Key×V)} (h:jiB G a0 gs):∀ ys,G.h a0 ≠ some (.lst ys)∧∀ o,G.h a0 ≠ some (.frz o (.lst ys)):=fun ys=>by
  rcases h.at_ with h | ⟨o,h⟩
  · exact ⟨fun z=>(by rw [h] at z; cases z),fun o z=>(by rw [h] at z; cases z)⟩
  · exact ⟨fun z=>(by rw [h] at z; cases z),fun o' z=>(by rw [h] at z; cases z)⟩
theorem jiB.nt {gs:List (Key×V)} (h:jiB G a0 gs):∀ ys,G.h a0 ≠ some (.tup ys)∧∀ o,G.h a0 ≠ some (.frz o (.tup ys)):=fun ys=>by
  rcases h.at_ with h | ⟨o,h⟩
  · exact ⟨fun z=>(by rw [h] at z; cases z),fun o z=>(by rw [h] at z; cases z)⟩
  · exact ⟨fun z=>(by rw [h] at z; cases z),fun o' z=>(by rw [h] at z; cases z)⟩
variable {gs0:List (Key×V)} (hd:jiB G a0 gs0) (hG:∀ a o,a ≠ a0→G.h a=some o→G'.h a=some o) (hr:∀ (k:Nat) (a:Addr),G.ρ[k]? =some a→G'.ρ[k]? =some a)
include hd hG hr
mutual
theorem Rp.nd:∀ {v:V} {d:Dat},Rp cm K G v d→ndc d=true→Rp cm K G' v d
  | _,_,.non,_=> .non
  | _,_,.bl b,_=> .bl b
  | _,_,.int i,_=> .int i
  | _,_,.str x,_=> .str x
  | _,_,.lst (a:=a) (vs:=vs) s r,n=> .lst (hG _ _ (fun z=>(hd.nl vs).1 (by rw [← z]; exact s)) s) (RpAll.nd r (by rw [ndc] at n; exact n))
  | _,_,.ro s r,n=> .ro (jma hG hd.nl s) (RpAll.nd r (by rw [ndc] at n; exact n))
  | _,_,.tup s r,n=> .tup (jlZ hG hd.nt s) (RpAll.nd r (by rw [ndc] at n; exact n))
  | _,_,.ins (a:=a) (dx:=dx) (c:=c) (gs:=gs) s r,n=> .ins (hG _ _ (fun z=>by
      rw [z] at s
      rcases hd.at_ with h | ⟨o,h⟩ <;> (rw [h] at s; cases s)) s) (RpF.nd r (by rw [ndc] at n; exact n))
  | _,_,.dic _ _,n=>by rw [ndc] at n; cases n
  | _,_,.ptr q,_=> .ptr (hr _ _ q)
  | _,_,.exn _ _ _,n=>by rw [ndc] at n; cases n
  | _,_,.exn0 _,n=>by rw [ndc] at n; cases n
theorem RpAll.nd:∀ {vs:List V} {ds:List Dat},RpAll cm K G vs ds→ndcs ds=true→RpAll cm K G' vs ds
  | _,_,.nil,_=> .nil
  | _,_,.cons x y,n=>by
    rw [ndcs,Bool.and_eq_true] at n
    exact .cons (Rp.nd x n.1) (RpAll.nd y n.2)
theorem RpF.nd:∀ {vs:List (Str×V)} {ds:List (Str×Dat)},RpF cm K G vs ds→ndcf ds=true→RpF cm K G' vs ds
  | _,_,.nil,_=> .nil
  | _,_,.cons x y,n=>by
    rw [ndcf,Bool.and_eq_true] at n
    exact .cons (Rp.nd x n.1) (RpF.nd y n.2)
end
end
end Mir
namespace Mir
open PySem PySem.Spec PyProof.Rows L2
end Mir
namespace Mir
open PySem PySem.Spec PyProof.Rows L2
end Mir
namespace Mir
open PySem PySem.Spec PyProof.Rows L2
def jmT (kvs:List (List Key×Dat)) (k:List Key) (d:Dat):List (List Key×Dat):=
  if (kvs.any fun kv=>decide (kv.1=k))=true then kvs.map (fun kv=>if kv.1=k then (kv.1,d) else kv) else kvs ++ [(k,d)]
def jk3 (kvs:List (List Key×Dat)) (k:List Key):Option Dat:=(kvs.find? fun kv=>decide (kv.1=k)).map (·.2)
section
variable {cm:CM} {K:PySem.W.Frag} {G:VH}
theorem RpT.any:∀ {gs:List (List Key×V)} {ks:List (List Key×Dat)},RpT cm K G gs ks→∀ k,(gs.any fun kv=>decide (kv.1=k))=ks.any fun kv=>decide (kv.1=k)
  | _,_,.nil,k=>rfl
  | _,_,.cons (f:=f) a b,k=>by
    rw [List.any_cons,List.any_cons,RpT.any b k]
theorem RpT.length:∀ {gs:List (List Key×V)} {ks:List (List Key×Dat)},RpT cm K G gs ks→gs.length=ks.length
  | _,_,.nil=>rfl
  | _,_,.cons a b=>congrArg Nat.succ (RpT.length b)
theorem RpT.snoc {k:List Key} {v:V} {d:Dat} (r:Rp cm K G v d):∀ {gs:List (List Key×V)} {ks:List (List Key×Dat)},RpT cm K G gs ks→RpT cm K G (gs ++ [(k,v)]) (ks ++ [(k,d)])
  | _,_,.nil=> .cons r .nil
  | _,_,.cons a b=> .cons a (RpT.snoc r b)
theorem RpT.repl {k:List Key} {v:V} {d:Dat} (r:Rp cm K G v d):∀ {gs:List (List Key×V)} {ks:List (List Key×Dat)},RpT cm K G gs ks→RpT cm K G (gs.map fun kv=>if kv.1=k then (kv.1,v) else kv) (ks.map fun kv=>if kv.1=k then (kv.1,d) else kv)
  | _,_,.nil=> .nil
  | _,_,.cons (f:=f) a b=>by
    rw [List.map_cons,List.map_cons]
    by_cases h:f=k
    · rw [if_pos h,if_pos h]; exact .cons r (RpT.repl r b)
    · rw [if_neg h,if_neg h]; exact .cons a (RpT.repl r b)
theorem RpT.put {k:List Key} {v:V} {d:Dat} (r:Rp cm K G v d) {gs:List (List Key×V)} {ks:List (List Key×Dat)} (h:RpT cm K G gs ks):RpT cm K G (putK gs k v) (jmT ks k d):=by
  unfold putK jmT
  rw [h.any k]
  split
  · exact h.repl r
  · exact h.snoc r
theorem RpT.val:∀ {gs:List (List Key×V)} {ks:List (List Key×Dat)},RpT cm K G gs ks→∀ (k:List Key),(∀ d,jk3 ks k=some d→∃ v,valV gs k=some v∧Rp cm K G v d)∧(jk3 ks k=none→valV gs k=none)
  | _,_,.nil,k=>⟨fun d h=>(by cases h),fun _=>rfl⟩
  | _,_,.cons (f:=f) (v:=v) (d:=d0) (gs:=gs) (fs:=fs) a b,k=>by
    unfold jk3 valV
    rw [List.find?_cons,List.find?_cons]
    by_cases hz:f=k
    · have e:decide (f=k)=true:=by simp [hz]
      dsimp only
      rw [e]
      exact ⟨fun d h=>by cases h; exact ⟨v,rfl,a⟩,fun h=>by cases h⟩
    · have e:decide (f=k)=false:=by simp [hz]
      dsimp only
      rw [e]
      exact RpT.val b k
end
end Mir
namespace Mir
open PySem PySem.Spec PyProof.Rows L2
theorem Rel.castD {F:Fm} {S:Sg} {σ:L2.St} {H:Hp} (R:Rel F S σ H) {cm:CM} {l:Addr} {o:HO} (e:F.cm=cm.lkx l o) {g k:Nat} {T:Ths} {w:Own} (hg:S[g]? =some (.heap T)) (hk:T[k]? =some w) (hw:w ≠ .gone cm.lk.length) (hl:F.M.ρ[k]? =some l):Rel (F.cw cm) S σ H where
  len:=R.len
  sl:=fun i s v a b=>by
    have ea:F.cm.at_=cm.at_:=by rw [e]
    have y:=R.sl i s v a b
    have old:∀ {n:Nat} {x:Addr} {u:HO},F.cm.lk[n]? =some (x,u)→(n=cm.lk.length∧x=l)∨cm.lk[n]? =some (x,u):=fun {n x u} h=>by
      rw [e] at h
      have h:(cm.lk ++ [(l,o)])[n]? =some (x,u):=h
      by_cases hn:n < cm.lk.length
      · rw [List.getElem?_append_left hn] at h; exact .inr h
      · by_cases hn2:n=cm.lk.length
        · subst hn2
          rw [List.getElem?_concat_length] at h
          cases h; exact .inl ⟨rfl,rfl⟩
        · rw [List.getElem?_eq_none (by simp; omega)] at h; cases h
    have castO:∀ {x:Addr} {q:Own} {G:VH},(q= .gone cm.lk.length→x ≠ l)→w8 F.cm F.K G H x q→w8 cm F.K G H x q:=fun {x q G} hq y=>by
      cases y with
      | lst h r=>exact .lst h (r.cast ea)
      | obj h r=>exact .obj (by rw [← ea]; exact h) (r.cast ea)
      | dic h r=>exact .dic h (r.cast ea)
      | dit h r=>exact .dit h (r.cast ea)
      | gone h z v=>
        rcases old h with ⟨e1,e2⟩ | h
        · exact absurd e2 (hq (by rw [e1]))
        · exact .gone h z v
      | tab a h t c=>exact .tab (by rw [← ea]; exact a) h t c
    cases y with
    | no=>exact .no
    | dat r=>exact .dat (r.cast ea)
    | loc h r=>exact .loc h (r.cast ea)
    | own h r=>exact .own h (castO (fun _ z=>by
        subst z
        exact (R.hp.thl g T k w _ hg hk hl).2.2 _ _ _ a h) r)
    | exn h q r=>exact .exn (by rw [e] at h; exact h) q (r.cast ea)
    | heap e1 f=>
      refine .heap e1 fun k' q hk'=>(f k' q hk').imp fun x z=>⟨z.1,z.2.1,castO (fun eq z2=>?_) z.2.2⟩
      have eT:i=g:=R.hp.one i g _ _ a hg
      subst eT
      rw [a] at hg
      cases hg
      subst z2
      have:k'=k:=R.hp.lnd i _ k' k q w _ a hk' hk z.1 hl
      subst this
      rw [hk] at hk'
      cases hk'
      exact hw eq
  nd:=R.nd
  new:=R.new
  ond:=R.ond
  and_:=R.and_
  ain:=R.ain
  liv:=R.liv
  lom:=R.lom
  tmp:=R.tmp
  keep:=R.keep
  hp:=⟨R.hp.one,R.hp.him,R.hp.thl,R.hp.lnd,R.hp.thn,R.hp.n0,R.hp.nr⟩
end Mir
namespace Mir
open PySem PySem.Spec PyProof.Rows L2
end Mir
namespace PySem
open PySem.Spec PyProof.Rows
end PySem
namespace Mir
open PySem PySem.Spec PyProof.Rows L2
end Mir
namespace Mir
open PySem PySem.Spec PyProof.Rows L2
end Mir
namespace Mir
open PySem PySem.Spec PyProof.Rows L2
def jgJ:List FA→Bool
  | []=>true
  | .dat _ :: r=>jgJ r
  | .own _ :: _=>false
def lkF (F:List FA→RF) (as:List FA):RF:=if jgJ as=true then F as else .bad
theorem vO.castD {cm cm':CM} {K:PySem.W.Frag} {G:VH} {H:Hp} (e:cm'.at_=cm.at_) {vs:List V} {as:List FA} {ls:List Addr} (x:vO cm' K G H vs as ls):jgJ as=true→ls= []∧vO cm K G H vs as []:=by
  induction x with
  | nil=>exact fun _=>⟨rfl,.nil⟩
  | dat a b ih=>
    intro h
    obtain ⟨e1,e2⟩:=ih h
    exact ⟨e1,.dat (Rp.cast e a) e2⟩
  | own a b ih=>intro h; cases h
theorem jkk {cm cm':CM} {K:PySem.W.Frag} {F:List FA→RF} (e:cm.at_=cm'.at_) (vs:List V) (H:Hp) (Q:VK) (E:XK) (h:spF cm' K (lkF F) vs H Q E):spF cm K F vs H Q E:=by
  obtain ⟨M,as,ls,h1,h2,h3,h4,h5⟩:=h
  unfold lkF at h5
  by_cases hz:jgJ as=true
  · rw [if_pos hz] at h5
    obtain ⟨rfl,a2⟩:=h4.castD e.symm hz
    refine ⟨M,as,[],h1,h2,h3,a2,?_⟩
    cases hF:F as with
    | bad=>rw [hF] at h5; exact h5
    | ok d outs=>
      rw [hF] at h5
      intro v H' q o r
      cases o
      exact h5 v H' q .nil (r.cast e)
    | exc c fs outs=>
      rw [hF] at h5
      intro da gs H' q o z r
      cases o
      have:=h5 da gs H' q .nil z (r.cast e)
      rw [e]
      exact this
  · rw [if_neg hz] at h5; exact h5.elim
theorem FnG.lk {P:Program} {w:World} {K:PySem.W.Frag} {mg:Str→Option Value} {base:Heap} {CX:CXT} {k:Nat} {f:Addr} {fd:FuncData} {ps:List Str} {cm cm':CM} {F:List FA→RF} (h:FnG P w K mg base CX k f fd ps (spF cm K F)) (e:cm.at_=cm'.at_):FnG P w K mg base CX k f fd ps (spF cm' K (lkF F)):=
  ⟨fun vs H Q E z=>h.len vs H Q E (jkk e vs H Q E z),fun A outer s H args us vs Q E a b c d r z=>h.run A outer s H args us vs Q E a b c d r (jkk e vs H Q E z)⟩
end Mir
namespace Mir
open PySem PySem.Spec PyProof.Rows L2
end Mir
namespace Mir
open PySem L2
variable {X:Cx} {cm:CM}
theorem jfQ {K:PySem.W.Frag} {G:VH}:∀ {vs:List V} {ds:List Dat},RpAll cm K G vs ds→vs.length=ds.length
  | _,_,.nil=>rfl
  | _,_,.cons _ r=>by rw [List.length_cons,List.length_cons,jfQ r]
end Mir
namespace Mir
open PySem PySem.Spec PyProof.Rows L2
end Mir
namespace Mir
open PySem PySem.Spec PyProof.Rows L2
end Mir
namespace Mir
open PySem PySem.Spec PyProof.Rows
end Mir
namespace Mir
open PySem PySem.Spec PyProof.Rows L2
end Mir
namespace Mir
open PySem PySem.Spec PyProof.Rows L2
end Mir
namespace Mir
open PySem PySem.Spec PyProof.Rows L2
end Mir
namespace Mir
open PySem PySem.Spec L2
end Mir
namespace Mir
open PySem PySem.Spec L2
end Mir
namespace PySem
namespace HandSPX
open Builtin Builtin.ObjectAttr
section
variable {M:Model} {prog:Program} {w:World} {A:Around} {E:Value→Shared→Prop} {R:Result→Shared→Prop} {h:Heap} {g:Array GenState} {d:Drawn} {t:Nat} {os:OsState}
variable {nm q:Str} {C N:Addr} {bs bm bmB:List Value} {hdct:Bool}
variable {sn:List Str} {sub:List Value} {ab:Bool} {col:Option Bool} {dd:Option Addr}
variable {k0 k1 k2 k3 k5:Option Value} {B newId initId:String}
theorem jgo (F:ExcBaseFacts B newId initId bmB) (hT:∀ X:String,bm.contains (.type X)=bmB.contains (.type X)) {rest:List Value} {ks:List (Str×Value)} {Q:Unit→Shared→Prop}
    (lk:h.get? C=some (excClassObj nm q C N bs bm hdct sn sub ab col dd k0 k1 k2 k3 k5 newId)) (fin:Q () ⟨h,g,d,t,os⟩) :
    wpAny M A (checkBuiltinCall newId ⟨.ref C :: rest,ks⟩) Q E ⟨h,g,d,t,os⟩:=by
  have has:(Value.ref C :: bm).contains (.type B)=true:=by rw [List.contains_cons,hT]; rw [F.hasB,Bool.or_true]
  have ns:=F.noStar
  simp only [checkBuiltinCall,F.newKind,F.newSplit]
  simp only [F.newRow]
  repeat (first | refine wpAny_loadPart_at lk ?_ | (refine wpAny_isSubtype_exc lk ?_; rw [has]) | refine wpAny_staticBase_exc lk ?_ | refine wpAny_madeBy_exc lk ?_ | simp only [bne_self_eq_false,Bool.false_eq_true,if_false] | wp_step)
  exact fin
theorem jiU (F:ExcBaseFacts B newId initId bmB) (hT:∀ X:String,bm.contains (.type X)=bmB.contains (.type X)) {rest:List Value} {ks:List (Str×Value)}
    (lk:h.get? C=some (excClassObj nm q C N bs bm hdct sn sub ab col dd k0 k1 k2 k3 k5 newId))
    (fin:R (.ok (.ret (.ref (h.objs.size + 1)))) ⟨(h.push (W.kdv_tup rest)).push (excO C h.objs.size),g,d,t,os⟩) (small:rest.length≤sizeLine) :
    codeAny (model prog w) A (.builtin newId ⟨.ref C :: rest,ks⟩) R ⟨h,g,d,t,os⟩:=by
  have he:=F.ends
  have c1:(Value.ref C :: bm).contains (.type B)=true:=by rw [List.contains_cons,hT]; rw [F.hasB,Bool.or_true]
  have c2:(Value.ref C :: bm).contains (.type "AttributeError")=false:=by rw [List.contains_cons,hT]; rw [F.noAttr]; rfl
  have c3:(Value.ref C :: bm).contains (.type "NameError")=false:=by rw [List.contains_cons,hT]; rw [F.noName]; rfl
  refine codeAny_builtinAt F.entry ?_
  unfold Builtin.«BaseException.__new__»
  refine wpAt_bind ?_
  show wpAt _ _ _ (stack >>= _) _ _ _
  refine wpAt_bind (wpAt_stack fun p below=>wpAt_of_wpAny ?_)
  wp_walk
  refine wpAt_of_wpAny ?_
  rw [F.owner]
  repeat (first | with_reducible refine wpAny_madeHere_exc F.canon lk ?_ | with_reducible refine wpAny_loadPart_at lk ?_ | (with_reducible refine wpAny_isSubtype_exc lk ?_; first | rw [c1] | rw [c2] | rw [c3]) | wp_step)
  show R _ _
  rw [Heap.size_push]
  exact fin
theorem jhF (F:ExcBaseFacts B newId initId bmB) (hT:∀ X:String,bm.contains (.type X)=bmB.contains (.type X)) {rest:List Value} {ks:List (Str×Value)} {fI:Addr} {Q:Fin→Shared→Prop}
    (lk:h.get? C=some (excClassObj nm q C N bs bm hdct sn sub ab col dd k0 k1 k2 k3 k5 newId))
    (hi:W.Looks (model prog w) h (typeLookup (.ref C) "__init__") (some (.ref fI))) (hb:∀ self,W.Looks (model prog w) h (bindSpecial (.ref fI) self) (.ref fI,[self])) (small:rest.length≤sizeLine)
    (fin:codeAny (model prog w) A (.call (.ref fI) ⟨.ref (h.objs.size + 1) :: rest,ks⟩)
      (fun r s'=>match r with | .ok (.ret v)=>v= .none∧Q (.done (.ret (.ref (h.objs.size + 1)))) s' | .ok _=>False | .error e=>E e s')
      ⟨(h.push (W.kdv_tup rest)).push (excO C h.objs.size),g,d,t,os⟩) :
    wpAny (model prog w) A (Builtin.«type.__call__» ⟨.ref C :: rest,ks⟩) Q E ⟨h,g,d,t,os⟩:=by
  repeat (first | with_reducible refine wpAny_loadPart_at lk ?_ | with_reducible refine wpAny_madeBy_exc lk ?_ | wp_step)
  refine codeAny_call_builtin_code (Code.quiet_builtin _ F.quiet) (jgo F hT lk ?_)
  refine jiU F hT lk ?_ small
  show wpAny _ _ _ _ _ _
  have up:∀ b o,h.get? b=some o→((h.push (W.kdv_tup rest)).push (excO C h.objs.size)).get? b=some o:=fun b o e=>Heap.get?_push_of_some _ (Heap.get?_push_of_some _ e)
  have lk2:=up _ _ lk
  have mine:((h.push (W.kdv_tup rest)).push (excO C h.objs.size)).get? (h.objs.size + 1)=some (excO C h.objs.size):=by heap_get
  have self_:(Value.ref C :: bm).contains (.ref C)=true:=by simp
  have i2:=hi.keeps up
  have b2:=(hb (.ref (h.objs.size + 1))).keeps up
  unfold isInstance
  repeat (first | with_reducible refine wpAny_loadPart_at mine ?_ | (with_reducible refine wpAny_isSubtype_exc lk2 ?_; rw [self_]) | wp_step)
  show wpAny _ _ (typeLookup (.ref C) _) _ _ _
  refine i2.at ?_
  refine wpAny_holding (wpAny_bind (b2.at ?_))
  refine wpAny_bind (wpAny_call (codeAny_mono fin fun r s' z=>?_))
  rcases r with e | (v | _ | _ | _) <;> first | exact z | exact z.elim | skip
  obtain ⟨rfl,z⟩:=z
  first
    | exact wpAny_pure (wpAny_pure z)
    | (wp_walk; exact z)
theorem kwCall_run (F:ExcBaseFacts B newId initId bmB) (hT:∀ X:String,bm.contains (.type X)=bmB.contains (.type X)) {rest:List Value} {ks:List (Str×Value)} {fI:Addr}
    (lk:h.get? C=some (excClassObj nm q C N bs bm hdct sn sub ab col dd k0 k1 k2 k3 k5 newId))
    (hi:W.Looks (model prog w) h (typeLookup (.ref C) "__init__") (some (.ref fI))) (hb:∀ self,W.Looks (model prog w) h (bindSpecial (.ref fI) self) (.ref fI,[self])) (small:rest.length≤sizeLine)
    (fin:codeAny (model prog w) (A.under (.builtin "type.__call__" ⟨.ref C :: rest,ks⟩)) (.call (.ref fI) ⟨.ref (h.objs.size + 1) :: rest,ks⟩) (W.InitBack (h.objs.size + 1) R)
      ⟨(h.push (W.kdv_tup rest)).push (excO C h.objs.size),g,d,t,os⟩) :
    codeAny (model prog w) A (.call (.ref C) ⟨rest,ks⟩) R ⟨h,g,d,t,os⟩:=by
  have tl:=tc_lookup
  have tb:=tc_bind (.ref C)
  have ty:(⟨h,g,d,t,os⟩:Shared).TypeIs (.ref C) "type" :=⟨_,lk,rfl⟩
  refine codeAny_of_tree ?_
  show wpAny _ _ (callAny (.ref C) _) _ _ _
  repeat (any_goals (first | assumption | with_reducible refine wpAny_loadPart_at lk ?_ | wp_step))
  refine ⟨rfl,?_⟩
  refine codeAny_call_builtin_at (Code.quiet_builtin _ (by decide +kernel)) entry_typeCall (wpAny_check_type_call_sub lk (jhF F hT lk hi hb small ?_))
  refine codeAny_mono fin fun r s' z=>?_
  rcases r with e | (v | _ | _ | _) <;> exact z
end
end HandSPX
end PySem
namespace Mir
open PySem PySem.Spec PyProof.Rows L2
structure MkE (K:PySem.W.Frag) (C:Addr):Prop where
  cls:∃ (B newId initId:String) (bmB:List Value) (nm q:Str) (N:Addr) (bs bm:List Value) (sn:List Str) (sub:List Value) (ab:Bool) (col:Option Bool) (dd:Option Addr) (k0 k1 k2 k3 k5:Option Value),
    ExcBaseFacts B newId initId bmB∧(∀ Y:String,bm.contains (.type Y)=bmB.contains (.type Y))∧K.lookup C=some (excClassObj nm q C N bs bm true sn sub ab col dd k0 k1 k2 k3 k5 newId)
  kC:PySem.W.keepIn K (.ref C)=true
theorem OexC.mkE {K:PySem.W.Frag} {C:Addr} (T:OexC K C):MkE K C:=by
  obtain ⟨z1,z2,z3,z4,z5,z6,z7,z8,z9,z10,y0,y1,y2,y3,y5,look,tail⟩:=T.cls
  exact ⟨⟨_,_,_,_,z1,z2,z3,z4,z5,z6,z7,z8,z9,z10,y0,y1,y2,y3,y5,F.excBase_ValueError,fun Y=>PySem.HandSPX.refsVE_contains Y z5 tail,look⟩,T.kC⟩
theorem Vi.mkE {b:Bse} {K:PySem.W.Frag} {C:Addr} (ok:jfq b) (T:Vi b K C):MkE K C:=by
  obtain ⟨z1,z2,z3,z4,z5,z6,z7,z8,z9,z10,y0,y1,y2,y3,y5,look,tail⟩:=T.cls
  exact ⟨⟨_,_,_,_,z1,z2,z3,z4,z5,z6,z7,z8,z9,z10,y0,y1,y2,y3,y5,ok.fb,fun Y=>PySem.W.excTail_contains Y z5 tail,look⟩,T.kC⟩
section
variable {X:Cx} {cm:CM} {W:WX} {k:Nat} {f:Addr} {fd:FuncData} {ps:List Str}
theorem jif {sp:Sp} {C:Addr} {pins:List (Addr×Obj)} {σ:L2.St} {H:Hp} {s:Shared} {Q:VK} {us:List Value} {kw:List (Str×Value)} {xs:Addr→List V} (T:MkE X.K C) (iC:PySem.W.findIn X.K (.ref C) "__init__" =some (some (.ref f))) (tI:PySem.W.typeIn X.K (.ref f)=some (.type "function"))
    (Fk:FnG X.prog X.w X.K X.mg X.base (L2.CX X.prog X.w) k f fd ps sp) (hr:Room (k + 1) X.A) (hgd:X.A.guards=some []) (tk:Takes X W) (I:L2.Inv X pins σ H s) (hul:us.length≤sizeLine)
    (hb:∀ (s':Shared) (a:Addr),X.K.In s'.heap→∃ ys,BindsTo s' fd ⟨.ref a :: us,kw⟩ (ps.zip ys)∧Vals (xs a) ys)
    (h:∀ a,H a=none→sp (xs a) (upd H a (exo a C none)) (fun v H2=>v= .non∧Q (.ref a) H2) (fun _ _ _=>False)) :
    wpAny (model X.prog X.w) X.A (call (.ref C) us kw) (EP X pins σ Q) X.xe s:=by
  obtain ⟨w1,w2,w3,w4,z1,z2,z3,z4,z5,z6,z7,z8,z9,z10,y0,y1,y2,y3,y5,fb,tl,look⟩:=T.cls
  obtain ⟨h0,g0,dr0,tk0,os0⟩:=s
  have new0:h0.objs.size≤h0.objs.size + 1:=Nat.le_succ _
  have hq:=h (h0.objs.size + 1) (I.hok.fresh new0)
  have grown:∀ b o,h0.get? b=some o→((h0.push (PySem.W.kdv_tup us)).push (PySem.HandSPX.excO C h0.objs.size)).get? b=some o:=fun b o q=>Heap.get?_push_of_some _ (Heap.get?_push_of_some _ q)
  have there:((h0.push (PySem.W.kdv_tup us)).push (PySem.HandSPX.excO C h0.objs.size)).get? (h0.objs.size + 1)=some (PySem.HandSPX.excO C h0.objs.size):=by heap_get
  have J:L2.Inv X pins σ (upd H (h0.objs.size + 1) (exo (h0.objs.size + 1) C none)) ⟨(h0.push (PySem.W.kdv_tup us)).push (PySem.HandSPX.excO C h0.objs.size),g0,dr0,tk0,os0⟩:=
    I.laid (t':=tk0) (a:=h0.objs.size + 1) (o:=exo (h0.objs.size + 1) C none) grown new0 (exo_ok there)
  obtain ⟨ys,hbi,rel⟩:=hb _ (h0.objs.size + 1) J.kIn
  have gd:(X.A.under (.builtin "type.__call__" ⟨.ref C :: us,kw⟩)).guards=some []:=by
    simp [Around.under,Code.guards,Code.isGuard,guardIds,hgd,pushGuards]
  refine wpAny_call (PySem.HandSPX.kwCall_run fb tl (I.kIn _ _ look) (PySem.W.looks_findIn I.kIn iC) (fun self=>PySem.W.bind_fn I.kIn self tI) hul
    (codeAny_mono (Fk.run _ X.stack _ _ ⟨Value.ref (h0.objs.size + 1) :: us,kw⟩ ys _ _ (fun _ _ _=>False) (hr.make C us kw) gd (J.env0.make C us kw) hbi rel hq) fun res s' hres=>?_))
  rcases res with er | fl
  · exact passes_call tk (E:=fun _ _ _=>False) (fun _ _ _ _ z=>z.elim) pins σ _ _ er s' J hres
  · rcases fl with _ | _ | _ | u
    · exact False.elim hres
    · exact False.elim hres
    · exact False.elim hres
    · obtain ⟨v,H',I3,rv,ev,q3⟩:=J.after hres
      subst ev
      exact ⟨rv,⟨V.ref (h0.objs.size + 1),H',I3,rfl,q3⟩⟩
def jgl (c:Str) (Fx:List Dat→Option (List (Str×Dat))) (as:List AV) (S:Sg):Rs Dat:=Rs.of ((jdN as).bind fun ds=>(Fx ds).map fun fs=>Dat.exn c fs) S
def jv (c:Str) (Fx:List Dat→Option (List (Str×Dat))) (n m:Nat) (arr:List AV→List AV→List AV) (ma mk:MAv):ME:=fun S=>(ma S).bind fun as S1=>(mk S1).bind fun bs S2=>if as.length=n∧bs.length=m then jgl c Fx (arr as bs) S2 else .bad
theorem jgE {c:Str} {Fx:List Dat→Option (List (Str×Dat))} {F:Fm} {S:Sg} {σ:L2.St} {H:Hp} {K:PySem.W.Frag} {vs:List V} {as:List AV} {Q:VK} (e1:F.cm=cm) (e2:F.K=K) (R:Rel F S σ H) (av:jo cm K σ (vis F S σ H) vs as) (h:out F W σ (vis F S σ H) (rE cm K) Q (jgl c Fx as S)) (a:Addr) (hna:H a=none) :
    spX cm K (cm c) Fx (.ref a :: vs) (upd H a (exo a (cm c) none)) (fun v H2=>v= .non∧Q (.ref a) H2) (fun _ _ _=>False):=by
  obtain ⟨d,hd,hq⟩:=yR R h
  cases hda:jdN as with
  | none=>rw [hda] at hd; cases hd
  | some ds=>
    rw [hda] at hd
    cases hx:Fx ds with
    | none=>rw [Option.bind_some,hx] at hd; cases hd
    | some fs=>
      rw [Option.bind_some,hx] at hd
      cases hd
      have rp:=jfz av hda
      have sn:=jZ (o:=exo a (cm c) none) hna
      have gg:Same (vis F S σ H) (hid ((F.M ++ jP S σ).cons a) (upd H a (exo a (cm c) none))):=jdS (fun b o hb' q=>⟨fun z=>(Hd.mem_cons.mp z).elim (ne_of_none q hna) hb',sn b o q⟩) fun _ _ z=>z
      refine ⟨(F.M ++ jP S σ).cons a,a,vs,ds,fs,rfl,⟨fun m hm'=>?_⟩,Hd.mem_cons.mpr (.inl rfl),upd_same,rp.mono gg,hx,fun d gs H' kp hd0 ea ed rf=>⟨rfl,?_⟩⟩
      · rcases Hd.mem_cons.mp hm' with z | z
        · rw [z,upd_same]; exact trivial
        · exact (R.hlv z).upd trivial
      · have hda:d ≠ a:=fun z=>by rw [z,upd_same] at hd0; cases hd0
        have hd1:H d=none:=by rw [upd_ne hda] at hd0; exact hd0
        have kp1:L2.Same H H':=fun b o q=>kp b o (ne_of_none q hna) (by rw [upd_ne (ne_of_none q hna)]; exact q)
        refine hq (.ref a) H' kp1 (.exn (dx:=d) (gs:=gs) (by rw [vQ (R.fresh hna)]; exact ea) (by rw [vQ (R.fresh hd1)]; exact ed) ?_)
        refine RpF.mono (G:=hid (((F.M ++ jP S σ).cons a).cons d) H') (G':=hid (F.M ++ jP S σ) H') (ya fun b hb=>Hd.mem_cons.mpr (.inr (Hd.mem_cons.mpr (.inr hb)))) rf
section
variable {n m:Nat} {c:Str} {x:Str} {e:Expr} {es:List Expr} {p pos:Pos} {mr mk:MAv} {Fx:List Dat→Option (List (Str×Dat))} {kwl:List Keyword} {ks:List Str} {gV gW:List V→List V→List V} {arr:List AV→List AV→List AV}
theorem jkq {F:Fm} {S2:Sg} {σ:L2.St} {H2:Hp} {Q:VK} {as bs:List AV} {K:PySem.W.Frag} (h2:out F W σ (vis F S2 σ H2) (rE cm K) Q (if as.length=n∧bs.length=m then jgl c Fx (arr as bs) S2 else .bad)) :
    (as.length=n∧bs.length=m)∧out F W σ (vis F S2 σ H2) (rE cm K) Q (jgl c Fx (arr as bs) S2):=by
  by_cases hz:as.length=n∧bs.length=m
  · rw [if_pos hz] at h2; exact ⟨hz,h2⟩
  · rw [if_neg hz] at h2; exact h2.elim
theorem jF (T:MkE X.K (cm c)) (iC:PySem.W.findIn X.K (.ref (cm c)) "__init__" =some (some (.ref f))) (tI:PySem.W.typeIn X.K (.ref f)=some (.type "function")) (Fk:FnG X.prog X.w X.K X.mg X.base (L2.CX X.prog X.w) k f fd ps (spX cm X.K (cm c) Fx)) (hr:Room (k + 1) X.A) (hgd:X.A.guards=some []) (tk:Takes X W) (hg:Gl X x) (hm:X.mg x=some (.ref (cm c))) (hb:∃ g,KBn X.K fd ps (n + 1) [] g gV) (hS:∀ a vs zs,gV (.ref a :: vs) zs= .ref a :: gW vs zs) (hA:Arr X.K n 0 gW arr)
    (ha:PA X (e :: es) (tAv cm X.K W mr)) (hn:n≤1000:=by decide) (hdb:(x == ("__debug__" :Str))=false:=by decide) (he:starEach (e :: es) X.env=(false,eval e X.env) :: starEach es X.env:=by rfl) (hpl:(backTo pos (starEach es X.env)).any (·.1)=false:=by rfl) :
    PE X (.Call (.Name x p) (e :: es) [] pos) (tE cm X.K W (jv c Fx n 0 arr mr jn)):=by
  obtain ⟨g,hb⟩:=hb
  refine ⟨fun pins s σ H Q I ⟨F,S,e1,e2,R,h⟩=>wpAny_Call_Name_kw (ld_glob I hg hm (PySem.W.callWith_K (h₀:=X.base) I.ok.mod.kin T.kC (thn (ha.run pos pins s σ H (fun vs H1=> ∃ F:Fm,∃ as S1,F.cm=cm∧F.K=X.K∧Rel F S1 σ H1∧jo cm X.K σ (vis F S1 σ H1) vs as∧out F W σ (vis F S1 σ H1) (rE cm X.K) Q (if as.length=n∧([]:List AV).length=0 then jgl c Fx (arr as []) S1 else .bad)) I
      (jD e1 e2 R h fun F vs H1 as S1 e1 e2 R1 s1 p1 h1=>⟨F,as,S1,e1,e2,R1,p1,h1⟩)) fun us s1 ⟨vs,H1,I1,r,F,as,S1,e1,e2,R1,p1,h1⟩=>⟨I1.kIn,?_⟩) he hpl) hdb)⟩
  obtain ⟨hz,h1⟩:=jkq (bs:=[]) h1
  have lv:vs.length=n:=by rw [jo.length p1]; exact hz.1
  refine jif (us:=us) (kw:=[]) (xs:=fun a=> .ref a :: gW vs []) T iC tI Fk hr hgd tk I1 (by rw [← r.length,lv,sizeLine_eq]; omega) (fun s' a kin=>⟨g (.ref a :: us) [],hb.to s' (.ref a :: us) [] kin (by rw [List.length_cons,← r.length,lv]) rfl,?_⟩) (jgE e1 e2 R1 (hA.ok lv rfl p1 .nil) h1)
  rw [← hS a vs []]
  exact hb.rel (.cons rfl r) .nil
theorem jr (T:MkE X.K (cm c)) (iC:PySem.W.findIn X.K (.ref (cm c)) "__init__" =some (some (.ref f))) (tI:PySem.W.typeIn X.K (.ref f)=some (.type "function")) (Fk:FnG X.prog X.w X.K X.mg X.base (L2.CX X.prog X.w) k f fd ps (spX cm X.K (cm c) Fx)) (hr:Room (k + 1) X.A) (hgd:X.A.guards=some []) (tk:Takes X W) (hg:Gl X x) (hm:X.mg x=some (.ref (cm c))) (hb:∃ g,KBn X.K fd ps 1 ks g gV) (hS:∀ a vs zs,gV (.ref a :: vs) zs= .ref a :: gW vs zs) (hA:Arr X.K 0 ks.length gW arr)
    (hkw:PK X kwl (tAv cm X.K W mk)) (hall:(backToKw pos (keywordEach kwl X.env)).all (·.1.isSome)=true:=by rfl) (hks:(backToKw pos (keywordEach kwl X.env)).filterMap (·.1)=ks:=by rfl)
    (hdb:(x == ("__debug__" :Str))=false:=by decide) (hpl:((backTo pos (starEach [] X.env)).any (·.1) || (backToKw pos (keywordEach kwl X.env)).any (·.1.isNone))=false:=by rfl) :
    PE X (.Call (.Name x p) [] kwl pos) (tE cm X.K W (jv c Fx 0 ks.length arr jn mk)):=by
  obtain ⟨g,hb⟩:=hb
  refine ⟨fun pins s σ H Q I ⟨F,S,e1,e2,R,h⟩=>wpAny_Call_Name_kw (ld_glob I hg hm (PySem.W.callWith_KW0 (h₀:=X.base) I.ok.mod.kin T.kC hall (thn (hkw.run pos pins s σ H (fun zs H2=> ∃ F:Fm,∃ bs S2,F.cm=cm∧F.K=X.K∧Rel F S2 σ H2∧jo cm X.K σ (vis F S2 σ H2) zs bs∧out F W σ (vis F S2 σ H2) (rE cm X.K) Q (if ([]:List AV).length=0∧bs.length=ks.length then jgl c Fx (arr [] bs) S2 else .bad)) I
      (jD e1 e2 R h fun F zs H2 bs S2 e1 e2 R2 s2 p2 h2=>⟨F,bs,S2,e1,e2,R2,p2,h2⟩)) fun ws s2 ⟨zs,H2,I2,rz,F,bs,S2,e1,e2,R2,q2,h2⟩=>⟨I2.kIn,?_⟩) hpl) hdb)⟩
  rw [hks]
  obtain ⟨hz,h2⟩:=jkq (as:=[]) h2
  have lz:zs.length=ks.length:=by rw [jo.length q2]; exact hz.2
  refine jif (us:=[]) (xs:=fun a=> .ref a :: gW [] zs) T iC tI Fk hr hgd tk I2 (Nat.zero_le _) (fun s' a kin=>⟨g [.ref a] ws,hb.to s' [.ref a] ws kin rfl (by rw [← rz.length]; exact lz),?_⟩) (jgE e1 e2 R2 (hA.ok rfl lz .nil q2) h2)
  rw [← hS a [] zs]
  exact hb.rel (.cons rfl .nil) rz
end
end
section
variable {X:Cx} {cm:CM} {W:WX} {e:Expr} {ma:ME} {x c:Str} {p pos:Pos}
def zc (c:Str) (ma:ME):ME:=fun S=>(ma S).bind fun _ S1=>Rs.of (some (Dat.exn c [])) S1
theorem wN {bmB:List Value} {B newId initId:String} (F:ExcBaseFacts B newId initId bmB) (q:PySem.W.excIn X.K (cm c) bmB newId=true) (kC:PySem.W.keepIn X.K (.ref (cm c))=true) (hg:Gl X x) (hm:X.mg x=some (.ref (cm c)))
    (he:PE X e (tE cm X.K W ma)) (hs:starEach [e] X.env=(false,eval e X.env) :: starEach [] X.env:=by rfl) (hdb:(x == ("__debug__" :Str))=false:=by decide) :
    PE X (.Call (.Name x p) [e] [] pos) (tE cm X.K W (zc c ma)):=
  PE.weak (pe_exc1 F q hm kC hg he hs hdb) fun σ H Q ⟨F,S,e1,e2,R,h⟩=>jD e1 e2 R h fun F v H1 d S1 e1 e2 R1 s1 p1 h1=>by
    obtain ⟨d,hd,hq⟩:=yR R1 h1
    cases hd
    intro a hna
    exact hq (.ref a) _ (jZ hna) (.exn0 (by rw [vQ (R1.fresh hna),upd_same]))
end
section
variable {X:Cx} {cm:CM} {W:WX} {e:Expr} {ma:ME} {nm:Str} {pos p apos:Pos}
def zm (cs:List Str) (nm:Str):Dat→Option Dat
  | .exn c fs=>if cs.contains c then fs.lookup nm else none
  | _=>none
theorem vE {cs:List Str} (hc:∀ c,c ∈ cs→XfC X.K (cm c)∧PySem.W.findIn X.K (.ref (cm c)) nm=some none) (he:PE X e (tE cm X.K W ma)) (hab:attributeBase e nm X.env (eval e X.env)=eval e X.env:=by rfl):PE X (.Attribute e nm pos) (tE cm X.K W (m1 (zm cs nm) ma)):=by
  refine ⟨fun pins s σ H Q I ⟨F,S,e1,e2,R,h⟩=>?_⟩
  refine attr_of hab (thn (he.run pins s σ H (fun v H1=> ∃ F:Fm,∃ d S1,F.cm=cm∧F.K=X.K∧Rel F S1 σ H1∧Rp cm X.K (vis F S1 σ H1) v d∧out F W σ (vis F S1 σ H1) (rE cm X.K) Q (Rs.of (zm cs nm d) S1)) I (jD e1 e2 R h fun F v H1 d S1 e1 e2 R1 s1 p1 h1=>⟨F,d,S1,e1,e2,R1,p1,h1⟩)) fun u s1 hh=>?_)
  obtain ⟨v,H1,I1,rv,F,d,S1,e1,e2,R1,p1,h1⟩:=hh
  obtain ⟨d',hd,hq⟩:=yR R1 h1
  cases p1 with
  | @exn a dx c gs fs ha hx hr=>
    unfold zm at hd
    dsimp only at hd
    by_cases hz:cs.contains c=true
    · rw [if_pos hz] at hd
      obtain ⟨T,hno⟩:=hc c (by simpa using hz)
      obtain rfl:u=Value.ref a:=rv
      obtain ⟨y,hv,ry⟩:=hr.lookup hd
      obtain ⟨t1,hob⟩:=exo_at I1.hok (Jk _ _ ha)
      obtain ⟨mA,hns,hrel⟩:=exd_at I1.hok (Jk _ _ hx)
      obtain ⟨od,ho,hl⟩:=lookIn_ns hns
      obtain ⟨w,hw,rw_⟩:=RelO.some_of (v:=y) (o:=mA nm) (by rw [← hv]; exact hrel nm)
      have J:PySem.W.InstAt s1.heap a _ (cm c) (some od):=⟨hob,rfl,rfl,ho⟩
      exact HandSPX.exc_get I1.kIn J T.ga T.gg T.exC (PySem.W.findObj_own T.hdC hno rfl (by rw [hl,hw])) (handed_of rw_) ⟨y,H1,I1.tok _,rw_,hq _ H1 (.refl _) ry⟩
    · rw [if_neg hz] at hd; cases hd
  | exn0 ha=>
    unfold zm at hd
    dsimp only at hd
    split at hd
    · simp [List.lookup] at hd
    · cases hd
  | _=>cases hd
def jfS (H:Hp) (a C:Addr):Prop:=(∃ dx gs,H a=some (exo a C (some dx))∧H dx=some (exd dx gs))∨H a=some (ExO (.ref C) a)
theorem Rp.exnAt {M:Hd} {H:Hp} {v:V} {c:Str} {fs:List (Str×Dat)} {K:PySem.W.Frag} (r:Rp cm K (hid M H) v (.exn c fs)):∃ a,v= .ref a∧jfS H a (cm c):=by
  cases r with
  | exn ha hx hr=>exact ⟨_,rfl,.inl ⟨_,_,Jk _ _ ha,Jk _ _ hx⟩⟩
  | exn0 ha=>exact ⟨_,rfl,.inr (Jk _ _ ha)⟩
theorem jfS.mono {H H':Hp} {a C:Addr} (s:L2.Same H H') (h:jfS H a C):jfS H' a C:=by
  rcases h with ⟨dx,gs,h1,h2⟩ | h
  · exact .inl ⟨dx,gs,s _ _ h1,s _ _ h2⟩
  · exact .inr (s _ _ h)
theorem jfS.inst {P:Program} {w:World} {H:Hp} {h:Heap} {a C:Addr} (x:jfS H a C) (hok:HOk P w H h):∃ ox od,PySem.W.InstAt h a ox C od:=by
  rcases x with ⟨dx,gs,h1,h2⟩ | h1
  · obtain ⟨t1,hob⟩:=exo_at hok h1
    obtain ⟨mA,hns,hrel⟩:=exd_at hok h2
    obtain ⟨od,ho,hl⟩:=lookIn_ns hns
    exact ⟨_,some od,hob,rfl,rfl,ho⟩
  · have z:ObjOk P w H h a (.ext fun h=> ∃ (oe:Obj) (vs:Array Value),h.get? a=some oe∧Zc (.ref C) none oe∧oe.data= .fields vs∧vs[1]? =some .none∧vs[2]? =some .none∧4 < vs.size):=hok a _ h1
    obtain ⟨oe,vs,hob,hz,hd,_⟩:=z.1
    obtain ⟨oc,od',oda,osl⟩:=oe
    obtain ⟨q1,q2⟩:=hz
    dsimp only at q1 q2 hd
    subst q1 q2 hd
    exact ⟨_,none,hob,rfl,rfl,trivial⟩
def jop (K:PySem.W.Frag):List V→Hp→VK→Prop:=fun xs H Q=> ∃ (a C:Addr) (t:V) (tv:Value) (b:Bool),xs= [.ref a,t]∧XcC K C∧jfS H a C∧(∀ u,RelV t u→u=tv)∧PySem.W.kitOne K (.ref C) tv=some b∧Q (.bl b) H
theorem jjM:CallR X (.builtin "isinstance") (jop X.K):=by
  intro pins s σ H xs us Q I r h
  obtain ⟨a,D,t,tv,b,rfl,C,hx,htv,hk,q⟩:=h
  cases r with
  | cons rx rr=>
    cases rr with
    | cons rt rr=>
      cases rr
      cases rx
      have ec:=htv _ rt
      subst ec
      obtain ⟨ox,od,J⟩:=hx.inst I.hok
      exact PySem.W.kia_one (PySem.W.kitx_exc C.cl C.ga C.gt C.sb C.ca C.sp C.tk C.mo) I.kIn J hk (fun z=>nomatch z) fun tk=>⟨.bl b,H,I.kept (t':=tk) fun _ _ z=>z,rfl,q⟩
def jna (K:PySem.W.Frag):List V→Hp→VK→Prop:=fun xs H Q=> ∃ (a C tp:Addr) (cs:List V) (us:List Value) (b:Bool),xs= [.ref a,.ref tp]∧XcC K C∧jfS H a C∧H tp=some (.tup cs)∧Paired ClsV cs us∧PySem.W.kitAny K (.ref C) us=some b∧Q (.bl b) H
theorem jiG:CallR X (.builtin "isinstance") (jna X.K):=by
  intro pins s σ H xs us Q I r h
  obtain ⟨a,D,tp,cs,ws,b,rfl,C,hx,hT,pc,hk,q⟩:=h
  cases r with
  | cons rx rr=>
    cases rr with
    | cons rt rr=>
      cases rr
      cases rx
      cases rt
      obtain ⟨ox,od,J⟩:=hx.inst I.hok
      obtain ⟨_,its,rv,o,h1,h2,n,h3⟩:=(show ObjOk X.prog X.w H s.heap tp (.tup cs) from I.hok tp _ hT)
      have ew:=ClsV.all pc rv
      subst ew
      obtain ⟨oc,od',dt,sl⟩:=o
      dsimp only at h2 h3
      subst h2 h3
      exact PySem.W.kia_tup (PySem.W.kitx_exc C.cl C.ga C.gt C.sb C.ca C.sp C.tk C.mo) I.kIn J h1 hk (fun z=>nomatch z) fun tk=>⟨.bl b,H,I.kept (t':=tk) fun _ _ z=>z,rfl,q⟩
def isX (all yes:List Str):Dat→Option Dat
  | .exn c _=>if all.contains c then some (.bl (yes.contains c)) else none
  | _=>none
theorem jke {all yes:List Str} {d r:Dat} (h:isX all yes d=some r):∃ c fs,d= .exn c fs∧c ∈ all∧r= .bl (yes.contains c):=by
  cases d with
  | exn c fs=>
    have h:(if all.contains c then some (Dat.bl (yes.contains c)) else none)=some r:=h
    by_cases hz:all.contains c=true
    · rw [if_pos hz] at h
      exact ⟨c,fs,rfl,by simpa using hz,(Option.some.inj h).symm⟩
    · rw [if_neg hz] at h; cases h
  | _=>cases h
theorem jL {all yes:List Str} {b:Expr} {cvv:V} {u:Value} (hm:X.mg "isinstance" =none) (hg:Gl X "isinstance") (htab:∀ c,c ∈ all→XcC X.K (cm c)∧PySem.W.kitOne X.K (.ref (cm c)) u=some (yes.contains c))
    (he:PE X e (tE cm X.K W ma)) (hT:PE X b (tC cvv)) (hu:ClsV cvv u) (hv:bootBuiltins ("isinstance" :Str)=some (.builtin "isinstance"):=by decide +kernel)
    (h1:starEach [e,b] X.env=(false,eval e X.env) :: starEach [b] X.env:=by rfl) (h2:starEach [b] X.env=(false,eval b X.env) :: starEach [] X.env:=by rfl) (hpl:(backTo pos (starEach [b] X.env)).any (·.1)=false:=by rfl) :
    PE X (.Call (.Name "isinstance" p) [e,b] [] pos) (tE cm X.K W (m1 (isX all yes) ma)):=
  PE.weak (pe_callB jjM hg hm hv (pa_cons he (pa_cons hT pa_nil h2) h1) (by decide) (by decide) h1 hpl) fun σ H Q ⟨F,S,e1,e2,R,h⟩=>jD e1 e2 R h fun F x H1 da S1 e1 e2 R1 s1 p1 h1=>by
    obtain ⟨d,hd,hq⟩:=yR R1 h1
    obtain ⟨c,fs,rfl,ht,rfl⟩:=jke hd
    obtain ⟨a,rfl,hx⟩:=p1.exnAt
    obtain ⟨k1,k2⟩:=htab _ ht
    exact ⟨a,_,cvv,u,_,rfl,k1,hx,fun u' r=>hu.eq r,k2,hq _ H1 (.refl _) (.bl _)⟩
theorem jdZ {all yes:List Str} {bs:List Expr} {cs:List V} {us:List Value} {ct} (hm:X.mg "isinstance" =none) (hg:Gl X "isinstance") (htab:∀ c,c ∈ all→XcC X.K (cm c)∧PySem.W.kitAny X.K (.ref (cm c)) us=some (yes.contains c))
    (he:PE X e (tE cm X.K W ma)) (hT:PA X bs (tCl cs)) (hu:Paired ClsV cs us) (hlen:cs.length≤1000) (hv:bootBuiltins ("isinstance" :Str)=some (.builtin "isinstance"):=by decide +kernel)
    (h1:starEach [e,.Tuple bs ct apos] X.env=(false,eval e X.env) :: starEach [.Tuple bs ct apos] X.env:=by rfl) (h2:starEach [.Tuple bs ct apos] X.env=(false,eval (.Tuple bs ct apos) X.env) :: starEach [] X.env:=by rfl) (hpl:(backTo pos (starEach [.Tuple bs ct apos] X.env)).any (·.1)=false:=by rfl) :
    PE X (.Call (.Name "isinstance" p) [e,.Tuple bs ct apos] [] pos) (tE cm X.K W (m1 (isX all yes) ma)):=
  PE.weak (pe_callB jiG hg hm hv (pa_cons he (pa_cons (pe_tup hT) pa_nil h2) h1) (by decide) (by decide) h1 hpl) fun σ H Q ⟨F,S,e1,e2,R,h⟩=>jD e1 e2 R h fun F x H1 da S1 e1 e2 R1 s1 p1 h1=>by
    obtain ⟨d,hd,hq⟩:=yR R1 h1
    obtain ⟨c,fs,rfl,ht,rfl⟩:=jke hd
    obtain ⟨a,rfl,hx⟩:=p1.exnAt
    obtain ⟨k1,k2⟩:=htab _ ht
    refine jio cs ⟨by rw [sizeLine_eq]; omega,fun q hqn=>?_⟩
    have sn:=jZ (o:= .tup cs) hqn
    exact ⟨a,_,q,cs,us,_,rfl,k1,hx.mono sn,upd_same,hu,k2,hq _ _ sn (.bl _)⟩
end
def YD (all yes:List Str) (t:Tr):PySem.W.Frag→Bool:=fun K=>all.all fun c=>decide (PySem.W.kitOne K (.ref (He.ga K c)) (t.v K)=some (yes.contains c))
def jgd (all yes:List Str) (ts:List Tr):PySem.W.Frag→Bool:=fun K=>all.all fun c=>decide (PySem.W.kitAny K (.ref (He.ga K c)) (ts.map (Tr.v K))=some (yes.contains c))
def jlN (all:List Str):PySem.W.Frag→Bool:=fun K=>all.all fun c=>Fc.ok K (.xc c)
def jfm (cs:List Str) (nm:Str):PySem.W.Frag→Bool:=fun K=>cs.all fun c=>Fc.ok K (.xfl c) && decide (PySem.W.findIn K (.ref (He.ga K c)) nm=some none)
def x0B (x:Str) (bm:List Value) (nw:String):PySem.W.Frag→Bool:=fun K=>PySem.W.excIn K (He.ga K x) bm nw && PySem.W.keepIn K (.ref (He.ga K x))
section
variable {fa:List Fc} {fn:List v7} {K:PySem.W.Frag} {mg:Str→Option Value}
theorem jnX {x:Str} (h:Fc.ok K (.xc x)=true):XcC K (He.ga K x):=by
  obtain ⟨c1,z⟩:=He.ba h
  obtain ⟨c2,z⟩:=He.ba z
  obtain ⟨c3,z⟩:=He.ba z
  obtain ⟨c4,z⟩:=He.ba z
  obtain ⟨c5,z⟩:=He.ba z
  obtain ⟨c6,z⟩:=He.ba z
  obtain ⟨c7,c8⟩:=He.ba z
  exact ⟨c1,He.eqO_ok c2,He.eqO_ok c3,of_decide_eq_true c4,He.eqO_ok c5,He.eqO_ok c6,of_decide_eq_true c7,of_decide_eq_true c8⟩
theorem Kn.kitV (c:Kn fa fn K mg) (i j:Nat) {all yes:List Str} {t:Tr} (h1:fa[i]? =some (.g (YD all yes t)):=by rfl) (h2:fa[j]? =some (.g (jlN all)):=by rfl):∀ x,x ∈ all→XcC K (He.ga K x)∧PySem.W.kitOne K (.ref (He.ga K x)) (t.v K)=some (yes.contains x):=fun x hx=>by
  have z1:YD all yes t K=true:=c.fact i h1
  have z2:jlN all K=true:=c.fact j h2
  exact ⟨jnX (List.all_eq_true.mp z2 x hx),of_decide_eq_true (List.all_eq_true.mp z1 x hx)⟩
theorem Kn.kitVT (c:Kn fa fn K mg) (i j:Nat) {all yes:List Str} {ts:List Tr} (h1:fa[i]? =some (.g (jgd all yes ts)):=by rfl) (h2:fa[j]? =some (.g (jlN all)):=by rfl):∀ x,x ∈ all→XcC K (He.ga K x)∧PySem.W.kitAny K (.ref (He.ga K x)) (ts.map (Tr.v K))=some (yes.contains x):=fun x hx=>by
  have z1:jgd all yes ts K=true:=c.fact i h1
  have z2:jlN all K=true:=c.fact j h2
  exact ⟨jnX (List.all_eq_true.mp z2 x hx),of_decide_eq_true (List.all_eq_true.mp z1 x hx)⟩
theorem Kn.xfV (c:Kn fa fn K mg) (i:Nat) {cs:List Str} {nm:Str} (h1:fa[i]? =some (.g (jfm cs nm)):=by rfl):∀ x,x ∈ cs→XfC K (He.ga K x)∧PySem.W.findIn K (.ref (He.ga K x)) nm=some none:=fun x hx=>by
  have z1:jfm cs nm K=true:=c.fact i h1
  obtain ⟨a,b⟩:=He.ba (List.all_eq_true.mp z1 x hx)
  exact ⟨xfB_ok a,of_decide_eq_true b⟩
theorem Kn.x0 (c:Kn fa fn K mg) (i:Nat) {x:Str} {bm:List Value} {nw:String} (h1:fa[i]? =some (.g (x0B x bm nw)):=by rfl):PySem.W.excIn K (He.ga K x) bm nw=true∧PySem.W.keepIn K (.ref (He.ga K x))=true:=by
  have z1:x0B x bm nw K=true:=c.fact i h1
  exact He.ba z1
end
section
variable {X:Cx} {cm:CM} {W:WX} {o i:Expr} {mo mi:ME} {pos:Pos}
def jhq (kms:List (Str×ME)):ME:=fun S=>match jhr kms S with
  | .ok ds S1=>if kms.length≤15 then .ok (.dic (jbV [] ((Vf kms).zip ds))) S1 else .bad
  | _=> .bad
theorem jix {keys:List (Option Expr)} {values:List Expr} {kms:List (Str×ME)} (h:PPs X pos keys values (jhK cm X.K W kms)) (hall:keys.all (·.isSome)=true) (hl:keys.length=values.length) (h0:keys ≠ []) (h15:keys.length≤15) :
    PE X (.Dict keys values pos) (tE cm X.K W (jhq kms)):=
  PE.weak (pe_disp h hall hl h0 h15) fun σ H Q ⟨F,S,e1,e2,R,h⟩=>fun p hp=>by
    obtain ⟨Rh,sh⟩:=R.hide (o:= .dK []) hp
    refine jgS kms (F:=F.hide p (.dK [])) (S:=S) e1 e2 Rh ?_
    unfold jhq at h
    replace h:=jdH sh h
    cases hm:jhr kms S with
    | bad=>rw [hm] at h; exact h
    | exc c fs S2=>rw [hm] at h; exact h.elim
    | ok ds S1=>
      rw [hm] at h
      dsimp only at h
      by_cases hz:kms.length≤15
      · rw [if_pos hz] at h
        intro F1 vs H2 R2 s2 rv t
        have c1:F1.cm=cm:=t.cm.trans e1
        have c2:F1.K=X.K:=t.K.trans e2
        have tm:=(R2.tmp (p,.dK []) (by rw [show F1.T=(p,.dK []) :: F.T from congrArg Fb.T t.1]; exact List.mem_cons_self ..)).1
        obtain ⟨R3,eG⟩:=R2.hidden (o':= .dK (mergeK [] ((Vf kms).zip vs))) t (R.fresh0 hp) (R.tnew hp)
        obtain ⟨R4,s4⟩:=Rel.unhide R hp t.hid R3
        have hx:=R3.tmp (p,.dK (mergeK [] ((Vf kms).zip vs))) (by rw [t.hid.T]; exact List.mem_cons_self ..)
        have s24:Same (vis F1 S1 σ H2) (vis ((F1.rehide (.dK (mergeK [] ((Vf kms).zip vs)))).unhide p) S1 σ (upd H2 p (.dK (mergeK [] ((Vf kms).zip vs))))):=by
          rw [← eG]; exact s4
        refine ⟨tm,(Vf kms).zip vs,jgy kms vs,?_,?_⟩
        · rw [List.length_zip]; have:(Vf kms).length=kms.length:=by simp [Vf]
          omega
        · refine h (.ref p) _ R4 (s2.trans s24) (.dic ?_ ((jkj kms (rv.mono s24)).merge .nil)) (t.hid.unh (R.freshM hp))
          unfold vis
          rw [vQ]
          · exact upd_same
          · intro z
            rcases Hd.mem_app.mp z with z | z
            · exact (Wu.mp z).2 rfl
            · exact R3.lom p z hx.2.1
      · rw [if_neg hz] at h; exact h.elim
def itP:Dat→Dat→Option Dat
  | .dic ks,.str k=>jmZ ks (.inr k)
  | _,_=>none
theorem jlR (hu:X.A.units + 64 < cLine) (ho:PE X o (tE cm X.K W mo)) (hi:PE X i (tE cm X.K W mi)) (hs:NoSl i:=by exact fun _ _=>rfl):PE X (.Subscript o i pos) (tE cm X.K W (m2 itP mo mi)):=
  PE.weak (pe_dget (by omega) ho hi hs) fun σ H Q ⟨F,S,e1,e2,R,h⟩=>jD e1 e2 R h fun F x H1 d S1 e1 e2 R1 s1 p1 h1=>jD e1 e2 R1 h1 fun F y H2 dk S2 e1 e2 R2 s2 p2 h2=>by
    obtain ⟨r,hr,hq⟩:=yR R2 h2
    cases d with
    | dic ks=>
      cases dk with
      | str k=>
        have hr:jmZ ks (.inr k)=some r:=hr
        cases p2
        cases p1.mono s2 with
        | @dic a gs _ hh rg=>
          obtain ⟨v,hv,rv⟩:=rg.val hr
          refine ⟨_,v,rfl,?_,hq v H2 (.refl _) rv⟩
          have:=DGet.k (k:= .inr k) (Jk _ _ hh)
          rw [hv] at this
          exact this
      | _=>cases hr
    | _=>cases hr
end
section
variable {X:Cx} {cm:CM} {W:WX} {e:Expr} {ma:ME} {pos:Pos}
def Ju (d:Dat):Option Dat:=(zO d).map Dat.str
theorem jz (hg:X.A.guards=some []) (hu:X.A.units + 64 < cLine) (he:PE X e (tE cm X.K W ma)):PE X (.FormattedValue e 114 none pos) (tE cm X.K W (m1 Ju ma)):=by
  refine ⟨fun pins s σ H Q I ⟨F,S,e1,e2,R,h⟩=>wpAny_FormattedValue_repr (thn (he.run pins s σ H (fun x H1=> ∃ d z M,Rp cm X.K (hid M H1) x d∧zO d=some z∧Q (.str z) H1) I (jD e1 e2 R h fun F x H1 da S1 e1 e2 R1 s1 p1 h1=>?_)) fun u s1 ⟨x,H1,I1,rx,d,z,M,p1,hz,q⟩=>?_)⟩
  · obtain ⟨d,hd,hq⟩:=yR R1 h1
    unfold Ju at hd
    cases hf:zO da with
    | none=>rw [hf] at hd; cases hd
    | some z=>
      rw [hf] at hd; cases hd
      exact ⟨da,z,_,p1,hf,hq (.str z) H1 (.refl _) (.str z)⟩
  · unfold zO at hz
    cases hp:jbE d with
    | none=>rw [hp] at hz; cases hz
    | some py=>
      rw [hp] at hz
      obtain ⟨k1,k3,k4,rfl⟩:=jg5 hz
      obtain ⟨as,rd⟩:=jgH I1 (p1.mono jeh) hp rx
      have fin:∀ {s2:Shared} {t:Tok},L2.Inv X pins σ H1 s2→wpAny (model X.prog X.w) X.A (formatField (.str py.shown t) Str.empty) (EP X pins σ Q) X.xe s2:=fun {s2 t} I2=>
        wpAny_formatField_str ⟨.str py.shown,H1,I2,⟨t,rfl⟩,q⟩ ⟨.str py.shown,H1,I2.tok _,⟨_,rfl⟩,q⟩ k4
      have ref:∀ a,u= .ref a→wpAny (model X.prog X.w) X.A (pyReprObj u) (fun r s₂=>wpAny (model X.prog X.w) X.A (formatField r Str.empty) (EP X pins σ Q) X.xe s₂) X.xe s1:=fun a ea=>by
        subst ea
        obtain ⟨T,idr,S⟩:=jbT (prog:=X.prog) (w:=X.w) rd k1 k4
        exact wpAny_pyReprObj_slot (by omega) (S.typeIs s1 fun _ _ z=>z) S.slotRepr (S.call X.A X.xe s1 _ hg (by omega) (fun _ _ z=>z) fun h' t tk kk=>⟨_,_,rfl,fin (I1.kept kk)⟩)
      cases rd with
      | none=>exact pyReprObj_none (fin (I1.tok _))
      | bool b=>
        have eb:PyData.shown (.bool b)=if b=true then Str.ofString "True" else Str.ofString "False" :=by cases b <;> rfl
        have f2:= @fin
        rw [eb] at f2
        exact pyReprObj_bool (f2 (I1.tok _))
      | int i t=>exact pyReprObj_int (of_decide_eq_true (by simpa [PyData.showable] using k1)) (fin (I1.tok _))
      | str i t=>exact pyReprObj_str (fin (I1.tok _)) k4
      | _=>exact ref _ rfl
end
section
variable {X:Cx} {cm:CM} {W:WX} {o a:Expr} {ma:ME} {pos:Pos}
def jjY (i:Nat) (ma:ME):Sg→Rs (List Dat):=fun S=>if vG i S=true then (ma S).bind fun a S1=>(match wd i S1 with
  | some ds=>(match jel (.lst ds) a with
    | some (.lst zs)=> .ok zs S1
    | _=> .bad)
  | none=> .bad) else .bad
theorem jf3 {i:Nat} (ho:PE X o (tVar i)) (ha:PE X a (tE cm X.K W ma)):PE X (.BinOp o .Add a pos) (tL cm X.K W (jjY i ma)):=
  PE.weak (pe_op op_cat ho ha) fun σ H Q ⟨F,S,e1,e2,R,h⟩=>by
    unfold jjY at h
    by_cases hz:vG i S=true
    · rw [if_pos hz] at h
      obtain ⟨l0,ds0,vs0,M0,hl0,la0,eh0,r0,_⟩:=R.peek hz
      refine ⟨_,hl0,jff e1 e2 R h fun F x H1 da S1 e1 e2 R1 s1 p1 h1=>?_⟩
      cases hq:wd i S1 with
      | none=>rw [hq] at h1; exact h1.elim
      | some ds=>
        rw [hq] at h1
        obtain ⟨l,ds1,vs,M,hl,la,eh,r,_⟩:=R1.peek (jgK hq)
        rw [hl0] at hl; cases hl
        rw [hq] at la; cases la
        dsimp only at h1
        cases hd:jel (.lst ds) da with
        | none=>rw [hd] at h1; exact h1.elim
        | some d=>
          rw [hd] at h1
          obtain ⟨xs,ys,ex,rfl,hlen,rfl⟩:=jcO hd
          cases ex
          cases p1 with
          | @lst aa vv dd hv rv=>
            refine ⟨_,aa,vs,vv,rfl,rfl,eh,Jk _ _ hv,?_,fun p hp=>?_⟩
            · rw [rv.length,r.length]; exact wm hlen
            · exact h1 p (vs ++ vv) H1 R1 (.refl _) hp (RpAll.append r (by rw [e1,e2]; exact rv))
    · rw [if_neg hz] at h; exact h.elim
end
def jjn:Bse:=⟨"ValueError","ValueError.__new__","ValueError.__init__",[.type "ValueError",.type "Exception",.type "BaseException",.type "object"]⟩
theorem jcU:ExcBaseFacts jjn.B jjn.nw jjn.ini jjn.bm:=F.excBase_ValueError
end Mir
namespace Mir
open PySem PySem.Spec PyProof.Rows L2
theorem jhw {x:Str} (t:Tok) (ha:x.cps.all (· < 128)=true):Begins (.str x t) { cls:= .type "str_ascii_iterator",data:= .fields #[.str x t,.int 0 0] } fun _=>True where
  iter:=fun prog w A E s Q _ h=>wpAny_pyIter_ascii ha h
  keeps:=fun _ _ _ _=>True.intro
  free:=rfl
def jn5 (K:PySem.W.Frag) (x:Str) (a:Addr) (n:Nat):It:=
  ⟨fun i H=>i < x.cps.size∧i < n∧∃ ys:List V,ys.length=n∧SqL K H a ys,
    fun i H v H'=> ∃ T c y,v= .ref T∧H T=none∧H'=upd H T (.tup [.str ⟨#[c]⟩,y])∧x.cps[i]? =some c∧∀ ys,SqL K H a ys→ys[i]? =some y,
    fun i H=>(i=x.cps.size∨i=n)∧∃ ys:List V,ys.length=n∧SqL K H a ys⟩
theorem jiL {P:Program} {w:World} {K:PySem.W.Frag} {elts:List Expr} {kk:Nat} {tpos:Pos} {x:Str} {t:Tok} {n:Nat} {a z TI TO i1 i2:Addr} (S:ZipSep2 z TI TO i1 i2 [i1] [i2,a]) (hai:a ≠ i2) :
    Turn P w K (.Tuple elts kk tpos) (jn5 K x a n) [z,TI,TO,i1,i2] z (fun i h=>IsZip h z TI TO .none∧IsTupOf2 h TI (.ref i1) (.ref i2)∧(∃ p q,IsTupOf2 h TO p q)∧h.IsStrIter i1 "str_ascii_iterator" x t i∧h.IsListIter i2 a i∧i≤x.cps.size∧i≤n) where
  mem:=by simp
  obj:=fun i h st c hc=>by
    obtain ⟨hz,hTI,⟨p,q,hTO⟩,⟨o1,e1,_,d1⟩,⟨o2,e2,_,d2⟩,_⟩:=st
    rcases (by simpa using hc:c=z∨c=TI∨c=TO∨c=i1∨c=i2) with q | q | q | q | q
    · rw [q]; exact ⟨_,hz,fun v q=>nomatch q⟩
    · rw [q]; exact ⟨_,hTI,fun v q=>nomatch q⟩
    · rw [q]; exact ⟨_,hTO,fun v q=>nomatch q⟩
    · rw [q]; exact ⟨o1,e1,fun v q=>by rw [d1] at q; cases q⟩
    · rw [q]; exact ⟨o2,e2,fun v q=>by rw [d2] at q; cases q⟩
  keep:=fun i h h' st k=>by
    obtain ⟨hz,hTI,⟨p,q,hTO⟩,⟨o1,e1,r1⟩,h2,l1,l2⟩:=st
    exact ⟨k z (by simp) _ hz,k TI (by simp) _ hTI,⟨p,q,k TO (by simp) _ hTO⟩,⟨o1,k i1 (by simp) o1 e1,r1⟩,h2.at fun o q=>k i2 (by simp) o q,l1,l2⟩
  item:=by
    intro X hP hw hK hc i pins s σ H E I hf st hg
    subst hP hw hK
    obtain ⟨hz,hTI,⟨p0,q0,hTO⟩,h1,h2,_,_⟩:=st
    obtain ⟨lx,ln,ys,yl,hq⟩:=hg
    obtain ⟨its,rv,p,_⟩:=I.list hq
    have il:its.toArray.size=n:=by rw [List.size_toArray,← rv.length,yl]
    have hzl:z < s.heap.objs.size:=Heap.lt_size hz
    have D1:=Draws.strAscii (prog:=X.prog) (w:=X.w) (A:=X.A.in1) (show X.A.in1.handled=none from I.ok.hd hc) i1 x t
    have D2:=Draws.list (prog:=X.prog) (w:=X.w) (A:=X.A.in1) (show X.A.in1.handled=none from I.ok.hd hc) i2 a hai its.toArray
    refine wpAny_pyNext_zipD2_item S D1 D2 hz hTI hTO h1 ⟨h2,p.isList⟩ lx (by rw [il]; exact ln) fun x1 x2 h' tk y1 y2 z' TO' h1' h2' hT hsz hk=>?_
    obtain ⟨c,u,hcx,rfl⟩:=y1
    refine ⟨_,rfl,wpAny_letOwnedTupleGo_zip (s:={ s with heap:=h',toks:=tk }) z' fun h'' z'' sb=>?_⟩
    have yi:i < ys.length:=by rw [yl]; exact ln
    obtain ⟨u2,hu2,ru2⟩:=rv.get (List.getElem?_eq_getElem yi)
    have y2:its.toArray[i]? =some x2:=y2
    obtain rfl:x2=u2:=by
      have e:its[i]? =some x2:=by simpa using y2
      rw [hu2] at e; exact (Option.some.inj e).symm
    have hT2:h''.get? s.heap.objs.size=some { cls:= .type "tuple",data:= .seq #[.str ⟨#[c]⟩ u,x2] }:=(sb.2 _ (Nat.ne_of_gt hzl)).trans hT
    have new:ObjOk X.prog X.w (upd H s.heap.objs.size (.tup [.str ⟨#[c]⟩,ys[i]])) h'' s.heap.objs.size (.tup [.str ⟨#[c]⟩,ys[i]]):=
      ⟨by show 2≤sizeLine; decide,[.str ⟨#[c]⟩ u,x2],.cons ⟨u,rfl⟩ (.cons ru2 .nil),⟨_,hT2,rfl,_,rfl⟩⟩
    have I1:Inv X pins σ (upd H s.heap.objs.size (.tup [.str ⟨#[c]⟩,ys[i]])) { s with heap:=h'',toks:=tk }:=
      I.turnedNew (t':=tk) (ch:=[z,TI,TO,i1,i2]) (fun c o hb q=>(sb.2 c (fun q'=>hb (by simp [q']))).trans (hk c o (fun q'=>hb (by simp [q'])) (fun q'=>hb (by simp [q'])) (fun q'=>hb (by simp [q'])) (fun q'=>hb (by simp [q'])) q)) hf (Nat.le_refl _) new
    have zi1:i1 ≠ z:=S.zi1.symm
    have zi2:i2 ≠ z:=S.zi2.symm
    refine ⟨.ref s.heap.objs.size,_,I1,rfl,⟨_,c,ys[i],rfl,I.hok.fresh (Nat.le_refl _),rfl,hcx,fun l hl=>by rw [I.list_inj hl hq]; exact List.getElem?_eq_getElem yi⟩,⟨z'',?_,⟨_,_,(sb.2 _ S.TOz).trans TO'⟩,?_,?_,by omega,by omega⟩,fun c hcm=>?_⟩
    · exact (sb.2 _ S.TIz).trans (hk _ _ S.TIz S.TITO S.TIi1 S.TIi2 hTI)
    · obtain ⟨o1,e1,r1⟩:=h1'
      exact ⟨o1,(sb.2 _ zi1).trans e1,r1⟩
    · exact h2'.1.at fun o q=>(sb.2 _ zi2).trans q
    · have hlt:c < s.heap.objs.size:=by
        rcases (by simpa using hcm:c=z∨c=TI∨c=TO∨c=i1∨c=i2) with q | q | q | q | q
        · rw [q]; exact hzl
        · rw [q]; exact Heap.lt_size hTI
        · rw [q]; exact Heap.lt_size hTO
        · rw [q]; obtain ⟨_,e1,_⟩:=h1; exact Heap.lt_size e1
        · rw [q]; obtain ⟨_,e2,_⟩:=h2; exact Heap.lt_size e2
      rw [upd_ne (Nat.ne_of_lt hlt)]
      exact (hf c hcm).1
  done:=by
    intro X hP hw hK hc i pins s σ H E I hf st hg
    subst hP hw hK
    obtain ⟨hz,hTI,⟨p0,q0,hTO⟩,h1,h2,l1,l2⟩:=st
    obtain ⟨hend,ys,yl,hq⟩:=hg
    obtain ⟨its,rv,p,_⟩:=I.list hq
    have il:its.toArray.size=n:=by rw [List.size_toArray,← rv.length,yl]
    have D1:=Draws.strAscii (prog:=X.prog) (w:=X.w) (A:=X.A.in1) (show X.A.in1.handled=none from I.ok.hd hc) i1 x t
    have D2:=Draws.list (prog:=X.prog) (w:=X.w) (A:=X.A.in1) (show X.A.in1.handled=none from I.ok.hd hc) i2 a hai its.toArray
    exact wpAny_pyNext_zipD2_end S D1 D2 hz hTI hTO h1 ⟨h2,p.isList⟩ l1 (by rw [il]; exact l2) (by rw [il]; exact hend) fun h' tk hk=>⟨rfl,I.turnedL (t':=tk) (ch:=[z,TI,TO,i1,i2]) (fun c o hb q=>
      hk c o (fun q'=>hb (by simp [q'])) (fun q'=>hb (by simp [q'])) (fun q'=>hb (by simp [q'])) (fun q'=>hb (by simp [q'])) q) hf⟩
  self:=fun A i s Q E st h=>wpAny_pyIter_zip st.1 h
def jnt (K:PySem.W.Frag) (ta:TA):TI:=fun σ H R=>ta σ H fun vs H1=> ∃ x a ys,vs= [.str x,.ref a]∧x.cps.all (· < 128)=true∧SqL K H1 a ys∧R (jn5 K x a ys.length) H1
theorem jkz {X:Cx} {e e2:Expr} {ta:TA} {p pos tpos:Pos} {elts:List Expr} {kk:Nat} (hg:Gl X "zip") (hm:X.mg "zip" =none) (ha:PA X [e,e2] ta)
    (hs:starEach [e,e2] X.env=(false,eval e X.env) :: starEach [e2] X.env:=by rfl) (hpl:(backTo pos (starEach [e2] X.env)).any (·.1)=false:=by rfl) :
    PI X (.Tuple elts kk tpos) (.Call (.Name "zip" p) [e,e2] [] pos) (jnt X.K ta):=by
  refine ⟨fun pins s σ H R I h=>?_⟩
  refine Call_ (ld_blt I hg hm PyProof.Rows.boot_zip (PyProof.Rows.callWith_type1 (thn (ha.run pos pins s σ H _ I h) fun us s1 ⟨vs,H1,I1,r1,q1⟩=>?_) hs hpl))
  obtain ⟨x,a,ys,ex,hx,hq,q⟩:=q1
  subst ex
  cases r1 with
  | cons r rr=>
    cases rr with
    | cons r' rr=>
      cases rr
      obtain ⟨t,rfl⟩:=r
      cases r'
      obtain ⟨its,rv,p2,_⟩:=I1.list hq
      have la:a < s1.heap.objs.size:=p2.lt
      refine zip_begins2 (jhw t hx) (begins_list a its.toArray) True.intro p2.isList fun h' hz hTI hTO h1 h2 hsz hk=>wpAny_pyIter_zip hz ?_
      have I2:Inv X pins σ H1 { s1 with heap:=h' }:=I1.kept (t':=s1.toks) hk
      have sep:ZipSep2 (s1.heap.objs.size + 4) (s1.heap.objs.size + 2) (s1.heap.objs.size + 3) s1.heap.objs.size (s1.heap.objs.size + 1) [s1.heap.objs.size] [s1.heap.objs.size + 1,a]:=by
        have na:∀ k:Nat,s1.heap.objs.size + k ≠ a:=fun k=>Nat.ne_of_gt (Nat.lt_of_lt_of_le la (Nat.le_add_right _ _))
        have n0:s1.heap.objs.size ≠ a:=Nat.ne_of_gt la
        constructor <;> first | (simp; done) | (simp [na,n0]; done) | exact Nat.ne_of_gt (by simp) | exact Nat.ne_of_lt (by simp)
      refine ⟨s1.heap.objs.size + 4,[s1.heap.objs.size + 4,s1.heap.objs.size + 2,s1.heap.objs.size + 3,s1.heap.objs.size,s1.heap.objs.size + 1],_,_,H1,rfl,I2,jiL sep (Nat.ne_of_lt (Nat.lt_succ_of_lt la)),⟨hz,hTI,⟨_,_,hTO⟩,⟨_,h1,rfl,rfl⟩,⟨_,h2,rfl,rfl⟩,Nat.zero_le _,Nat.zero_le _⟩,fun c hcm=>?_,q⟩
      have hle:s1.heap.objs.size≤c:=by
        rcases (by simpa using hcm:c=s1.heap.objs.size + 4∨c=s1.heap.objs.size + 2∨c=s1.heap.objs.size + 3∨c=s1.heap.objs.size∨c=s1.heap.objs.size + 1) with z | z | z | z | z <;> rw [z] <;> first | exact Nat.le_add_right _ _ | exact Nat.le_refl _
      exact I1.fpOk hle (I1.hok.fresh hle)
def jck (x:Str):List Dat:=x.cps.toList.map fun c=>Dat.str ⟨#[c]⟩
def jk4:List Dat→Option (List Dat)
  | [.str x,.lst ys]=>if x.cps.all (· < 128)=true then some (List.zipWith (fun x y=>Dat.tup [x,y]) (jck x) ys) else none
  | _=>none
section
variable {X:Cx} {cm:CM} {W:WX} {e e2':Expr} {mr:MA} {p pos:Pos}
theorem jlf {elts:List Expr} {kk:Nat} {tpos:Pos} (hg:Gl X "zip") (hm:X.mg "zip" =none) (ha:PA X [e,e2'] (tA cm X.K W mr)) (hs:starEach [e,e2'] X.env=(false,eval e X.env) :: starEach [e2'] X.env:=by rfl) (hpl:(backTo pos (starEach [e2'] X.env)).any (·.1)=false:=by rfl) :
    PI X (.Tuple elts kk tpos) (.Call (.Name "zip" p) [e,e2'] [] pos) (tG cm X.K W (rIt cm X.K) (jh5 jk4 mr)):=
  PI.weak (jkz hg hm ha hs hpl) fun σ H Q ⟨F,S,e1,e2,R,h⟩=>Wc e1 e2 R h fun F x H1 da S2 hm e1 e2 R1 s1 p1 h1=>by
    obtain ⟨d,hd,h1⟩:=jdV h1
    cases p1 with
    | nil=>cases hd
    | cons q1 q2=>
      cases q2 with
      | nil=>cases q1 <;> cases hd
      | cons q2 q3=>
        cases q3 with
        | cons _ _=>cases q1 <;> cases q2 <;> cases hd
        | nil=>
          cases q1 with
          | str x=>
            cases q2 with
            | @lst b us cs ks kr=>
              have hd:(if x.cps.all (· < 128)=true then some (List.zipWith (fun x y=>Dat.tup [x,y]) (jck x) cs) else none)=some d:=hd
              by_cases hx:x.cps.all (· < 128)=true
              · rw [if_pos hx] at hd
                cases hd
                have lc:(jck x).length=x.cps.size:=by unfold jck; simp
                have lz:(List.zipWith (fun x y=>Dat.tup [x,y]) (jck x) cs).length=min x.cps.size us.length:=by rw [List.length_zipWith,lc,kr.length]
                refine ⟨x,b,us,rfl,hx,SqL.of (Jk _ _ ks),h1 _ H1 R1 (.refl _) ⟨fun i H' s hi=>?_,fun H' s=>?_,fun i H' v H2 M s lv y hi=>?_⟩⟩
                · rw [lz] at hi
                  exact ⟨by omega,by omega,us,rfl,s.seq (SqL.of ks)⟩
                · refine ⟨?_,us,rfl,s.seq (SqL.of ks)⟩
                  rw [lz]
                  rcases Nat.le_total x.cps.size us.length with z | z
                  · exact .inl (Nat.min_eq_left z)
                  · exact .inr (Nat.min_eq_right z)
                · obtain ⟨T,c,z',rfl,nT,rfl,hc,y'⟩:=y
                  obtain ⟨d',k1',k2'⟩:=kr.get' (y' us ((s.h.trans Jk).seq (SqL.of ks)))
                  have k1:(jck x)[i]? =some (Dat.str ⟨#[c]⟩):=by
                    unfold jck
                    rw [List.getElem?_map,Array.getElem?_toList,hc]
                    rfl
                  refine ⟨jZ nT,.tup [.str ⟨#[c]⟩,d'],by rw [List.getElem?_zipWith,k1,k1'],.tup (SqT.of (wK lv nT)) (.cons (.str _) (.cons ((k2'.mono s).mono (w5 (jZ nT))) .nil))⟩
              · rw [if_neg hx] at hd; cases hd
            | _=>cases hd
          | _=>cases hd
end
end Mir
namespace Mir
open PySem PySem.Spec PyProof.Rows L2
section
variable {X:Cx} {cm:CM} {pins:List (Addr×Obj)} {σ:L2.St} {H:Hp} {s:Shared}
def jj2:Dat→Dat→Option Dat
  | .str x,.int j=>if j=0 then some (.str Str.empty) else if j=1 then some (.str x) else none
  | _,_=>none
theorem jmz:OpR X (binaryOp .Mult) (rD cm X.K jj2):=by
  rintro pins s σ H x y v u Q I rx ry ⟨M,a,b,c,lv,pa,pb,e,q⟩
  cases a with
  | str i=>
    cases b with
    | int j=>
      cases pa; cases pb
      obtain ⟨t,rfl⟩:=rx
      obtain ⟨t',rfl⟩:=ry
      unfold jj2 at e
      dsimp only at e
      by_cases h0:j=0
      · subst h0
        rw [if_pos rfl] at e; cases e
        exact PySem.SB.mul ⟨by decide,fun z=>absurd (by decide) z,fun z=>absurd (by decide) z⟩ fun t' k=>⟨.str Str.empty,H,I.tok _,⟨_,rfl⟩,q _ H (.refl _) (.str _)⟩
      · rw [if_neg h0] at e
        by_cases h1:j=1
        · subst h1
          rw [if_pos rfl] at e; cases e
          exact PySem.SB.mul ⟨by decide,fun z z2=>(nomatch z2),fun z z2=>(nomatch z2)⟩ fun t' k=>⟨.str i,H,I.tok _,⟨_,rfl⟩,q _ H (.refl _) (.str _)⟩
        · rw [if_neg h1] at e; cases e
    | _=>cases e
  | _=>cases e
def jco:List Dat→Option (List Int)
  | []=>some []
  | .lst [.int n] :: r=>(jco r).map (n :: ·)
  | _=>none
def jjH (n:Int):Dat:= .lst [.int n]
def jgN:List Dat→Option Dat
  | [.lst ds]=>if ds.length≤lim then (jco ds).map fun ns=> .lst ((jft ns).map jjH) else none
  | _=>none
theorem jez:∀ {ds:List Dat} {ps:List Int},jco ds=some ps→ds=ps.map jjH
  | [],_,h=>by cases h; rfl
  | d :: r,ps,h=>by
    unfold jco at h
    split at h
    · rename_i z; cases z
    · rename_i n r' z
      cases z
      cases hr:jco r with
      | none=>rw [hr] at h; cases h
      | some qs=>
        rw [hr] at h; cases h
        rw [jez hr]; rfl
    · cases h
def jnf (h:Heap) (v:Value) (x:V×Int):Prop:=RelV x.1 v∧∃ as,Reads h v (.list ([x.2].map .int)) as
theorem jfL (I:L2.Inv X pins σ H s) {ρ:List Addr}:∀ {vs:List V} {ps:List Int} {its:List Value},RpAll cm X.K ⟨H,ρ⟩ vs (ps.map jjH)→Vals vs its→PySem.W.EachIs (jnf s.heap) its (vs.zip ps)
  | [],ps,its,r,v=>by
    cases v
    rw [List.zip_nil_left]
    exact .nil
  | v :: vs,[],its,r,q=>by cases r
  | v :: vs,p :: ps,its,r,q=>by
    cases r with
    | cons r1 r2=>
      cases q with
      | cons q1 q2=>
        rw [List.zip_cons_cons]
        refine .cons ⟨q1,?_⟩ (jfL I r2 q2)
        cases r1 with
        | lst hs ha=>
          cases q1
          obtain ⟨its,n,rv,ob,_⟩:=I.lst hs
          cases ha with
          | cons a1 a2=>
            cases a1
            cases a2
            cases rv with
            | cons b1 b2=>
              obtain ⟨ta,rfl⟩:=b1
              cases b2
              exact ⟨_,.list ob rfl rfl (.cons (.int _ _) .nil)⟩
theorem jga {h:Heap}:∀ {out:List Value} {zs:List (V×Int)},PySem.W.EachIs (jnf h) out zs→Vals (zs.map (·.1)) out
  | _,_,.nil=> .nil
  | _,_,.cons a b=> .cons a.1 (jga b)
theorem jii {G:VH} {K:PySem.W.Frag}:∀ {vs:List V} {ps:List Int},RpAll cm K G vs (ps.map jjH)→∀ z,z ∈ vs.zip ps→Rp cm K G z.1 (jjH z.2)
  | [],ps,r,z,h=>by simp at h
  | v :: vs,[],r,z,h=>by simp at h
  | v :: vs,p :: ps,r,z,h=>by
    cases r with
    | cons r1 r2=>
      rw [List.zip_cons_cons] at h
      rcases List.mem_cons.mp h with rfl | h
      · exact r1
      · exact jii r2 z h
theorem jfK {G:VH} {K:PySem.W.Frag}:∀ {zs:List (V×Int)},(∀ z,z ∈ zs→Rp cm K G z.1 (jjH z.2))→RpAll cm K G (zs.map (·.1)) ((zs.map (·.2)).map jjH)
  | [],_=> .nil
  | z :: zs,h=> .cons (h z (List.mem_cons_self ..)) (jfK fun y hy=>h y (List.mem_cons_of_mem _ hy))
theorem ji3 (zs:List (V×Int)):(zs.mergeSort (PySem.W.dataLe false fun z:V×Int=> .list ([z.2].map .int))).map (·.2)=jft (zs.map (·.2)):=by
  rw [PySem.W.dataLe_rows fun z:V×Int=>[z.2]]
  rw [List.map_mergeSort (s:=fun x y:Int=>decide (x≤y)) (fun a _ b _=>by
    have:([a.2]≤ [b.2]) ↔ a.2≤b.2:=by
      rw [← List.not_lt,List.cons_lt_cons_iff]
      simp only [List.not_lt_nil,and_false,or_false]
      omega
    simp only [this])]
  have hs:=List.pairwise_mergeSort (le:=fun x y:Int=>decide (x≤y)) (by intro x y z h1 h2; simp only [decide_eq_true_eq] at *; omega) (by intro x y; simp only [Bool.or_eq_true,decide_eq_true_eq]; omega) (zs.map (·.2))
  exact jin ((List.mergeSort_perm _ _).trans (jfd _).symm) (hs.imp fun h=>of_decide_eq_true h) (jgP _)
theorem jli (hu:X.A.units + 64 < cLine):CallR X (.builtin "sorted") (rDs cm X.K jgN):=by
  rintro pins s σ H xs us Q I r ⟨M,ds,c,lv,pa,e,q⟩
  cases pa with
  | nil=>cases e
  | cons p1 p2=>
    cases p2 with
    | cons _ _=>cases p1 <;> cases e
    | nil=>
      cases p1 with
      | @lst a vs ds ha ra=>
        unfold jgN at e
        dsimp only at e
        by_cases hz:ds.length≤lim
        · rw [if_pos hz] at e
          cases h:jco ds with
          | none=>rw [h] at e; cases e
          | some ps=>
            rw [h] at e; cases e
            have ed:=jez h
            subst ed
            obtain ⟨its,n,rv,ob,_⟩:=I.lst (Jk _ _ ha)
            have r':=RpAll.mono jeh ra
            have e:=jfL (ρ:=M.ρ) I r' rv
            have lenV:vs.length=ps.length:=by rw [jfQ ra,List.length_map]
            have lz:(vs.zip ps).length=ps.length:=by rw [List.length_zip]; omega
            rw [List.length_map] at hz
            rw [Vals.ref1 r]
            refine PySem.W.sorted_data (R:=jnf s.heap) (enc:=fun z:V×Int=> .list ([z.2].map .int)) (vs:=its) ⟨_,ob,rfl,n,rfl⟩ e (e.mono fun _ _ h=>h.2) (.of fun b b'=>rfl) (.others fun b=>⟨(fun z=>nomatch z),(fun xs z=>nomatch z)⟩) (by rw [lz]; exact wm hz) (fun x _=>by show X.A.units + 2 + 1 < cLine; omega) fun out ho eo=>?_
            have fresh:H (s.heap.objs.size + 1)=none:=I.hok.fresh (Nat.le_succ _)
            have rb:=jga eo
            have es:=ji3 (vs.zip ps)
            rw [List.map_snd_zip (by omega)] at es
            have lb:(((vs.zip ps).mergeSort (PySem.W.dataLe false fun z:V×Int=> .list ([z.2].map .int))).map (·.1)).length=ps.length:=by rw [List.length_map,List.length_mergeSort,lz]
            have sn:=jZ (o:= .lst (((vs.zip ps).mergeSort (PySem.W.dataLe false fun z:V×Int=> .list ([z.2].map .int))).map (·.1))) fresh
            have rz:RpAll cm X.K (hid M H) (((vs.zip ps).mergeSort (PySem.W.dataLe false fun z:V×Int=> .list ([z.2].map .int))).map (·.1)) ((jft ps).map jjH):=by
              rw [← es]
              exact jfK fun z hz=>jii ra z (List.mem_mergeSort.mp hz)
            obtain ⟨ep,he'⟩:=PyProof.Rows.sortedAll_at s.heap its out.toArray
            exact ⟨.ref _,_,I.laid (t':=s.toks) (fun _ _=>PyProof.Rows.sortedAll_old) (Nat.le_succ _) (show ObjOk X.prog X.w _ _ _ (.lst _) from ⟨by rw [lb]; exact wm hz,out,ep,rb,he'⟩),rfl,q _ _ sn (.lst (wK lv fresh) (rz.mono (w5 sn)))⟩
        · rw [if_neg hz] at e; cases e
      | _=>cases e
end
end Mir
namespace Mir
open PySem L2
section
variable {S S1 S2:Sg} {ma mb:ME} {d a b:Dat}
theorem Jj {c:Str} {Fx:List Dat→Option (List (Str×Dat))} {n m:Nat} {arr:List AV→List AV→List AV} {mA mK:MAv} {as bs:List AV} {ds:List Dat} {fs:List (Str×Dat)} (ha:mA S= .ok as S1) (hk:mK S1= .ok bs S2) (hl:as.length=n∧bs.length=m) (hd:jdN (arr as bs)=some ds) (hF:Fx ds=some fs) :
    jv c Fx n m arr mA mK S= .ok (.exn c fs) S2:=by
  unfold jv jgl
  rw [ha,Rs.bind_ok,hk,Rs.bind_ok,if_pos hl,hd,Option.bind_some,hF]
  rfl
theorem jbL {c:Str} (ha:ma S= .ok d S1):zc c ma S= .ok (.exn c []) S1:=by
  unfold zc
  rw [ha,Rs.bind_ok]
  rfl
def wL (all yes:List Str):Dat→Option Bool
  | .exn c _=>if all.contains c then some (yes.contains c) else none
  | _=>none
theorem ju {all yes:List Str} {t:Bool} (h:wL all yes d=some t):isX all yes d=some (.bl t):=by
  cases d with
  | exn c fs=>
    have h:(if all.contains c then some (yes.contains c) else none)=some t:=h
    show (if all.contains c then some (Dat.bl (yes.contains c)) else none)=_
    by_cases hz:all.contains c=true
    · rw [if_pos hz] at h ⊢
      cases h; rfl
    · rw [if_neg hz] at h; cases h
  | _=>cases h
theorem jj4 {kms:List (Str×ME)} {ds:List Dat} {ks:List (Key×Dat)} (hv:jhr kms S= .ok ds S1) (hl:kms.length≤15) (hk:jbV [] ((Vf kms).zip ds)=ks):jhq kms S= .ok (.dic ks) S1:=by
  unfold jhq
  rw [hv]
  dsimp only
  rw [if_pos hl,hk]
theorem ji7 {α:Type} {f:α→Dat} {i:Nat} {xs ys zs:List α} (hm:vG i S=true) (ha:ma S= .ok (eL f ys) S1) (hl:wd i S1=some (xs.map f)) (h:Wa xs ys=some zs):jjY i ma S= .ok (zs.map f) S1:=by
  unfold jjY
  rw [if_pos hm,ha,Rs.bind_ok]
  simp only [hl]
  have e:jel (.lst (xs.map f)) (eL f ys)=some (eL f zs):=by
    unfold Wa at h
    split at h
    · rename_i z; cases h
      show (if (xs.map f).length + (ys.map f).length≤lim then _ else _)=_
      rw [List.length_map,List.length_map,if_pos z]
      exact congrArg some (congrArg Dat.lst List.map_append.symm)
    · cases h
  rw [e]
def jib (x:Str):List Str:=x.cps.toList.map fun c=>⟨#[c]⟩
theorem jmH {α:Type} {f:α→Dat} {x:Str} {ys:List α} (h:x.cps.all (· < 128)=true):jk4 [.str x,eL f ys]=some ((List.zip (jib x) ys).map (e2 eS f)):=by
  show (if x.cps.all (· < 128)=true then some (List.zipWith (fun x y=>Dat.tup [x,y]) (jck x) (ys.map f)) else none)=_
  rw [if_pos h]
  congr 1
  unfold jck jib
  generalize x.cps.toList=l
  induction l generalizing ys with
  | nil=>rfl
  | cons c l ih=>
    cases ys with
    | nil=>rfl
    | cons y ys=>
      rw [List.map_cons,List.map_cons,List.map_cons,List.zipWith_cons_cons,List.zip_cons_cons,List.map_cons,ih]
def jll (x:Str) (j:Int):Option Str:=if j=0 then some Str.empty else if j=1 then some x else none
theorem jlD {x z:Str} {j:Int} (h:jll x j=some z):jj2 (.str x) (.int j)=some (eS z):=by
  unfold jll at h
  show (if j=0 then some (Dat.str Str.empty) else if j=1 then some (Dat.str x) else none)=_
  by_cases h0:j=0
  · rw [if_pos h0] at h ⊢; cases h; rfl
  · rw [if_neg h0] at h ⊢
    by_cases h1:j=1
    · rw [if_pos h1] at h ⊢; cases h; rfl
    · rw [if_neg h1] at h; cases h
def jhZ:List (List Int)→Option (List Int)
  | []=>some []
  | [n] :: r=>(jhZ r).map (n :: ·)
  | _=>none
theorem jgR:∀ {xs:List (List Int)} {ns:List Int},jhZ xs=some ns→jco (xs.map (eL eI))=some ns
  | [],_,h=>h
  | [n] :: r,ns,h=>by
    have h:(jhZ r).map (n :: ·)=some ns:=h
    show (jco (r.map (eL eI))).map (n :: ·)=some ns
    cases hr:jhZ r with
    | none=>rw [hr] at h; cases h
    | some m=>rw [hr] at h; rw [jgR hr]; exact h
  | [] :: r,_,h=>nomatch h
  | (a :: b :: t) :: r,_,h=>nomatch h
def jgx (xs:List (List Int)):Option (List (List Int)):=if xs.length≤lim then (jhZ xs).map fun ns=>(jft ns).map fun n=>[n] else none
theorem jkV {xs ys:List (List Int)} (h:jgx xs=some ys):jgN [eL (eL eI) xs]=some (eL (eL eI) ys):=by
  unfold jgx at h
  show (if (xs.map (eL eI)).length≤lim then (jco (xs.map (eL eI))).map fun ns=>Dat.lst ((jft ns).map jjH) else none)=_
  rw [List.length_map]
  by_cases hz:xs.length≤lim
  · rw [if_pos hz] at h ⊢
    cases ho:jhZ xs with
    | none=>rw [ho] at h; cases h
    | some ns=>
      rw [ho] at h; cases h
      rw [jgR ho]
      show some (Dat.lst _)=some (Dat.lst _)
      rw [List.map_map]
      rfl
  · rw [if_neg hz] at h; cases h
end
end Mir
namespace K19
open PySem PySem.Spec PyProof.Rows L2 Mir
noncomputable section
def jnB:List Str:=["InvalidCurve","InvalidPiece","InvalidLength","InvalidCount","InvalidRecord","InvalidVisit","InvalidVisits","InvalidSupply","InvalidWindow","InvalidStation","InvalidNetwork","InvalidName","InvalidPath","InvalidSplit","InvalidTime","InvalidTick","InvalidFault","InvalidFaults","InvalidHanded","InvalidBook"]
def jm8:List Str:=["InvalidWeights","InvalidText","InvalidCommand","UnknownStation","UnknownStream","UnknownUnit","NoLink","NameTaken","NotGood","TooSlow","Refused","Overfull","NotPlain","HasReserves","NoSplits","Exposed","NotLate","RunFailed","TooLong","TooMany"]
def jH:List Str:=jnB ++ jm8
def Yx (i:Nat):Stmt:=PySem.Challenge.pw_dueways_k19_errors.main.body.getD i (.Pass ⟨0,0,0,0⟩)
abbrev jg7:Stmt:=Yx 44
abbrev jfB:Stmt:=Yx 46
abbrev zv:Stmt:=inClass (Yx 4) 0
abbrev Yf:Stmt:=inClass (Yx 3) 0
abbrev zH:Stmt:=inClass (Yx 6) 0
abbrev zW:Stmt:=inClass (Yx 5) 0
abbrev zz:Stmt:=inClass (Yx 8) 0
abbrev zY:Stmt:=inClass (Yx 7) 0
abbrev zR:Stmt:=inClass (Yx 10) 0
abbrev zy:Stmt:=inClass (Yx 9) 0
abbrev YK:Stmt:=inClass (Yx 13) 0
abbrev yP:Stmt:=inClass (Yx 11) 0
abbrev Yb:Stmt:=inClass (Yx 15) 0
abbrev YI:Stmt:=inClass (Yx 14) 0
abbrev YO:Stmt:=inClass (Yx 17) 0
abbrev YC:Stmt:=inClass (Yx 16) 0
abbrev zF:Stmt:=inClass (Yx 19) 0
abbrev Yc:Stmt:=inClass (Yx 18) 0
abbrev yL:Stmt:=inClass (Yx 24) 0
abbrev YB:Stmt:=inClass (Yx 23) 0
abbrev zx:Stmt:=inClass (Yx 26) 0
abbrev yM:Stmt:=inClass (Yx 25) 0
abbrev VW:Stmt:=inClass (Yx 29) 0
abbrev YN:Stmt:=inClass (Yx 27) 0
abbrev Wv:Stmt:=inClass (Yx 36) 0
abbrev jaM:Stmt:=inClass (Yx 32) 0
abbrev jaR:Stmt:=inClass (Yx 31) 0
abbrev jas:Stmt:=inClass (Yx 38) 0
abbrev jaF:Stmt:=inClass (Yx 37) 0
abbrev jap:Stmt:=inClass (Yx 41) 0
abbrev jaB:Stmt:=inClass (Yx 40) 0
abbrev jgL:Stmt:=Yx 47
abbrev VR:Stmt:=Yx 48
abbrev jgX:Stmt:=Yx 49
abbrev jgZ:Stmt:=Yx 53
abbrev jfI:Stmt:=Yx 54
abbrev jd8:Stmt:=Yx 52
abbrev Yg:Stmt:=inClass (Yx 2) 0
abbrev yS:Stmt:=inClass (Yx 12) 0
abbrev jbQ:Stmt:=inClass (Yx 28) 0
abbrev jaK:Stmt:=inClass (Yx 30) 0
abbrev Vz:Stmt:=inClass (Yx 39) 0
abbrev WO:Stmt:=inClass (Yx 33) 0
abbrev jgB:Stmt:=Yx 50
abbrev jf2:Stmt:=Yx 51
abbrev jfG:Stmt:=Yx 55
abbrev jjc:Stmt:=Yx 43
abbrev jlV:Stmt:=Yx 56
def ja7:v7:=⟨.glo "_law_draw","_law_draw","_law_draw",jg7,[],[]⟩
def Vv:v7:=⟨.glo "_law_thing","_law_thing","_law_thing",jfB,[],[]⟩
def jV:v7:=⟨.mth "InvalidLength" "__init__","__init__","InvalidLength.__init__",zv,[],[]⟩
def j7:v7:=⟨.mth "InvalidPiece" "__init__","__init__","InvalidPiece.__init__",Yf,[],[]⟩
def jW:v7:=⟨.mth "InvalidRecord" "__init__","__init__","InvalidRecord.__init__",zH,[],[]⟩
def j5:v7:=⟨.mth "InvalidCount" "__init__","__init__","InvalidCount.__init__",zW,[],[]⟩
def jX:v7:=⟨.mth "InvalidVisits" "__init__","__init__","InvalidVisits.__init__",zz,[],[]⟩
def j6:v7:=⟨.mth "InvalidVisit" "__init__","__init__","InvalidVisit.__init__",zY,[],[]⟩
def jT:v7:=⟨.mth "InvalidWindow" "__init__","__init__","InvalidWindow.__init__",zR,[],[]⟩
def jS:v7:=⟨.mth "InvalidSupply" "__init__","__init__","InvalidSupply.__init__",zy,[],[]⟩
def Jc:v7:=⟨.mth "InvalidName" "__init__","__init__","InvalidName.__init__",YK,[],[]⟩
def jM:v7:=⟨.mth "InvalidStation" "__init__","__init__","InvalidStation.__init__",yP,[],[]⟩
def j4:v7:=⟨.mth "InvalidSplit" "__init__","__init__","InvalidSplit.__init__",Yb,[],[]⟩
def Jd:v7:=⟨.mth "InvalidPath" "__init__","__init__","InvalidPath.__init__",YI,[],[]⟩
def Jf:v7:=⟨.mth "InvalidTick" "__init__","__init__","InvalidTick.__init__",YO,[],[]⟩
def Jh:v7:=⟨.mth "InvalidTime" "__init__","__init__","InvalidTime.__init__",YC,[],[]⟩
def jU:v7:=⟨.mth "InvalidFaults" "__init__","__init__","InvalidFaults.__init__",zF,[],[]⟩
def j0:v7:=⟨.mth "InvalidFault" "__init__","__init__","InvalidFault.__init__",Yc,[],[]⟩
def jN:v7:=⟨.mth "InvalidCommand" "__init__","__init__","InvalidCommand.__init__",yL,[],[]⟩
def Jg:v7:=⟨.mth "InvalidText" "__init__","__init__","InvalidText.__init__",YB,[],[]⟩
def jR:v7:=⟨.mth "UnknownStream" "__init__","__init__","UnknownStream.__init__",zx,[],[]⟩
def jK:v7:=⟨.mth "UnknownStation" "__init__","__init__","UnknownStation.__init__",yM,[],[]⟩
def Jz:v7:=⟨.mth "NameTaken" "__init__","__init__","NameTaken.__init__",VW,[],[]⟩
def Ji:v7:=⟨.mth "UnknownUnit" "__init__","__init__","UnknownUnit.__init__",YN,[],[]⟩
def JN:v7:=⟨.mth "NoSplits" "__init__","__init__","NoSplits.__init__",Wv,[],[]⟩
def J3:v7:=⟨.mth "Refused" "__init__","__init__","Refused.__init__",jaM,[],[]⟩
def JZ:v7:=⟨.mth "TooSlow" "__init__","__init__","TooSlow.__init__",jaR,[],[]⟩
def J5:v7:=⟨.mth "NotLate" "__init__","__init__","NotLate.__init__",jas,[],[]⟩
def JX:v7:=⟨.mth "Exposed" "__init__","__init__","Exposed.__init__",jaF,[],[]⟩
def J4:v7:=⟨.mth "TooMany" "__init__","__init__","TooMany.__init__",jap,[],[]⟩
def J0:v7:=⟨.mth "TooLong" "__init__","__init__","TooLong.__init__",jaB,[],[]⟩
def jbm:v7:=⟨.glo "_law_ones","_law_ones","_law_ones",jgL,[],[]⟩
def vl:v7:=⟨.glo "_law_ones_by_place","_law_ones_by_place","_law_ones_by_place",VR,[],[]⟩
def ja3:v7:=⟨.glo "_law_told","_law_told","_law_told",jgX,[],[]⟩
def ja4:v7:=⟨.glo "_law_base","_law_base","_law_base",jgZ,[],[]⟩
def VS:v7:=⟨.glo "_law_is_of","_law_is_of","_law_is_of",jfI,[],[]⟩
def ze:v7:=⟨.glo "_law_classes","_law_classes","_law_classes",jd8,[],[]⟩
def Jm:v7:=⟨.mth "InvalidCurve" "__init__","__init__","InvalidCurve.__init__",Yg,[],[]⟩
def j9:v7:=⟨.mth "InvalidNetwork" "__init__","__init__","InvalidNetwork.__init__",yS,[],[]⟩
def vD:v7:=⟨.mth "NoLink" "__init__","__init__","NoLink.__init__",jbQ,[],[]⟩
def vp:v7:=⟨.mth "NotGood" "__init__","__init__","NotGood.__init__",jaK,[],[]⟩
def JO:v7:=⟨.mth "RunFailed" "__init__","__init__","RunFailed.__init__",Vz,[],[]⟩
def J9:v7:=⟨.mth "Overfull" "__init__","__init__","Overfull.__init__",WO,[],[]⟩
def jba:v7:=⟨.glo "_law_more","_law_more","_law_more",jgB,[],[]⟩
def VM:v7:=⟨.glo "_law_parts","_law_parts","_law_parts",jf2,[],[]⟩
def jag:v7:=⟨.glo "_law_right","_law_right","_law_right",jfG,[],[]⟩
def jef:v7:=⟨.glo "_law_rng","_law_rng","_law_rng",jjc,[],[]⟩
def jjy:v7:=⟨.glo "law","law","law",jlV,[],[]⟩
def fn:List v7:=[ja7,Vv,jV,j7,jW,j5,jX,j6,jT,jS,Jc,jM,j4,Jd,Jf,Jh,jU,j0,jN,Jg,jR,jK,Jz,Ji,JN,J3,JZ,J5,JX,J4,J0,jbm,vl,ja3,ja4,VS,ze,Jm,j9,vD,vp,JO,J9,jba,VM,jag,jef,jjy]
def fa:List Fc:=[.he (.free "len"),
  .he (.free "min"),
  .he (.free "max"),
  .he (.free "range"),
  .he (.free "divmod"),
  .he (.free "int"),
  .he (.glo "_law_draw"),
  .he (.glo "_law_thing"),
  .oex "InvalidLength",
  .xbs "DueError",
  .he (.glo "DueError"),
  .he (.noat "InvalidLength" "value"),
  .xin "InvalidLength",
  .he (.glo "InvalidLength"),
  .oex "InvalidPiece",
  .he (.noat "InvalidPiece" "position"),
  .xin "InvalidPiece",
  .he (.glo "InvalidPiece"),
  .oex "InvalidRecord",
  .he (.noat "InvalidRecord" "position"),
  .xin "InvalidRecord",
  .he (.glo "InvalidRecord"),
  .oex "InvalidCount",
  .he (.noat "InvalidCount" "value"),
  .xin "InvalidCount",
  .he (.glo "InvalidCount"),
  .oex "InvalidVisits",
  .he (.noat "InvalidVisits" "position"),
  .xin "InvalidVisits",
  .he (.glo "InvalidVisits"),
  .oex "InvalidVisit",
  .he (.noat "InvalidVisit" "problem"),
  .xin "InvalidVisit",
  .he (.glo "InvalidVisit"),
  .oex "InvalidWindow",
  .he (.noat "InvalidWindow" "value"),
  .xin "InvalidWindow",
  .he (.glo "InvalidWindow"),
  .oex "InvalidSupply",
  .he (.noat "InvalidSupply" "position"),
  .xin "InvalidSupply",
  .he (.glo "InvalidSupply"),
  .oex "InvalidName",
  .he (.noat "InvalidName" "value"),
  .xin "InvalidName",
  .he (.glo "InvalidName"),
  .oex "InvalidStation",
  .he (.noat "InvalidStation" "problem"),
  .xin "InvalidStation",
  .he (.glo "InvalidStation"),
  .oex "InvalidSplit",
  .he (.noat "InvalidSplit" "position"),
  .xin "InvalidSplit",
  .he (.glo "InvalidSplit"),
  .oex "InvalidPath",
  .he (.noat "InvalidPath" "position"),
  .xin "InvalidPath",
  .he (.glo "InvalidPath"),
  .oex "InvalidTick",
  .he (.noat "InvalidTick" "value"),
  .xin "InvalidTick",
  .he (.glo "InvalidTick"),
  .oex "InvalidTime",
  .he (.noat "InvalidTime" "value"),
  .xin "InvalidTime",
  .he (.glo "InvalidTime"),
  .oex "InvalidFaults",
  .he (.noat "InvalidFaults" "position"),
  .xin "InvalidFaults",
  .he (.glo "InvalidFaults"),
  .oex "InvalidFault",
  .he (.noat "InvalidFault" "problem"),
  .xin "InvalidFault",
  .he (.glo "InvalidFault"),
  .oex "InvalidCommand",
  .he (.noat "InvalidCommand" "value"),
  .xin "InvalidCommand",
  .he (.glo "InvalidCommand"),
  .oex "InvalidText",
  .he (.noat "InvalidText" "line"),
  .xin "InvalidText",
  .he (.glo "InvalidText"),
  .oeb "UnknownStream" jlx,
  .xbt jlx,
  .he (.free "LookupError"),
  .he (.noat "UnknownStream" "value"),
  .xin "UnknownStream",
  .he (.glo "UnknownStream"),
  .oeb "UnknownStation" jlx,
  .he (.noat "UnknownStation" "value"),
  .xin "UnknownStation",
  .he (.glo "UnknownStation"),
  .oeb "NameTaken" jgr,
  .xbt jgr,
  .he (.free "RuntimeError"),
  .he (.noat "NameTaken" "taken"),
  .xin "NameTaken",
  .he (.glo "NameTaken"),
  .oeb "UnknownUnit" jlx,
  .he (.noat "UnknownUnit" "value"),
  .xin "UnknownUnit",
  .he (.glo "UnknownUnit"),
  .oeb "NoSplits" jgr,
  .he (.noat "NoSplits" "cases"),
  .xin "NoSplits",
  .he (.glo "NoSplits"),
  .oeb "Refused" jgr,
  .he (.noat "Refused" "refusal"),
  .xin "Refused",
  .he (.glo "Refused"),
  .oeb "TooSlow" jgr,
  .he (.noat "TooSlow" "total"),
  .xin "TooSlow",
  .he (.glo "TooSlow"),
  .oeb "NotLate" jgr,
  .he (.noat "NotLate" "value"),
  .xin "NotLate",
  .he (.glo "NotLate"),
  .oeb "Exposed" jgr,
  .he (.noat "Exposed" "danger"),
  .xin "Exposed",
  .he (.glo "Exposed"),
  .oeb "TooMany" jmY,
  .xbt jmY,
  .he (.free "ArithmeticError"),
  .he (.noat "TooMany" "limit"),
  .xin "TooMany",
  .he (.glo "TooMany"),
  .oeb "TooLong" jmY,
  .he (.noat "TooLong" "limit"),
  .xin "TooLong",
  .he (.glo "TooLong"),
  .he (.glo "_law_ones"),
  .he (.glo "_law_ones_by_place"),
  .he (.free "zip"),
  .he (.free "repr"),
  .g (jlN jH),
  .g (jgd jH ["InvalidPiece","InvalidRecord","InvalidVisits","InvalidSupply","InvalidPath","InvalidSplit"] [(.c "InvalidPiece"),(.c "InvalidRecord"),(.c "InvalidVisits"),(.c "InvalidSupply"),(.c "InvalidPath"),(.c "InvalidSplit")]),
  .he (.free "isinstance"),
  .g (jfm ["InvalidCurve","InvalidPiece","InvalidRecord","InvalidVisits","InvalidSupply","InvalidNetwork","InvalidPath","InvalidSplit","InvalidFaults","RunFailed"] "position"),
  .g (YD jH ["InvalidFaults"] (.c "InvalidFaults")),
  .g (jgd jH ["InvalidVisit","InvalidStation","InvalidFault"] [(.c "InvalidVisit"),(.c "InvalidStation"),(.c "InvalidFault")]),
  .g (jfm ["InvalidCurve","InvalidVisit","InvalidStation","InvalidNetwork","InvalidFault"] "problem"),
  .g (YD jH ["InvalidText"] (.c "InvalidText")),
  .g (jfm ["InvalidText"] "line"),
  .g (YD jH ["NameTaken"] (.c "NameTaken")),
  .g (jfm ["NameTaken"] "taken"),
  .g (YD jH ["TooSlow"] (.c "TooSlow")),
  .g (jfm ["TooSlow"] "total"),
  .g (YD jH ["Refused"] (.c "Refused")),
  .g (jfm ["Refused"] "refusal"),
  .g (YD jH ["NoSplits"] (.c "NoSplits")),
  .g (jfm ["NoSplits"] "cases"),
  .g (YD jH ["Exposed"] (.c "Exposed")),
  .g (jfm ["Exposed"] "danger"),
  .g (jgd jH ["TooLong","TooMany"] [(.c "TooLong"),(.c "TooMany")]),
  .g (jfm ["TooLong","TooMany"] "limit"),
  .g (jfm ["InvalidLength","InvalidCount","InvalidWindow","InvalidName","InvalidTime","InvalidTick","InvalidCommand","UnknownStation","UnknownStream","UnknownUnit","NotLate"] "value"),
  .he (.glo "_law_told"),
  .g (YD jH ["UnknownStation","UnknownStream","UnknownUnit","NoLink"] (.b "LookupError")),
  .he (.free "ValueError"),
  .g (YD jH ["InvalidCurve","InvalidPiece","InvalidLength","InvalidCount","InvalidRecord","InvalidVisit","InvalidVisits","InvalidSupply","InvalidWindow","InvalidStation","InvalidNetwork","InvalidName","InvalidPath","InvalidSplit","InvalidTime","InvalidTick","InvalidFault","InvalidFaults","InvalidHanded","InvalidBook","InvalidWeights","InvalidText","InvalidCommand"] (.b "ValueError")),
  .g (YD jH ["InvalidCurve","InvalidPiece","InvalidLength","InvalidCount","InvalidRecord","InvalidVisit","InvalidVisits","InvalidSupply","InvalidWindow","InvalidStation","InvalidNetwork","InvalidName","InvalidPath","InvalidSplit","InvalidTime","InvalidTick","InvalidFault","InvalidFaults","InvalidHanded","InvalidBook","InvalidWeights","InvalidText","InvalidCommand"] (.c "DueError")),
  .g (YD jH ["TooLong","TooMany"] (.b "ArithmeticError")),
  .g (YD jH ["NameTaken","NotGood","TooSlow","Refused","Overfull","NotPlain","HasReserves","NoSplits","Exposed","NotLate","RunFailed"] (.b "RuntimeError")),
  .he (.free "KeyError"),
  .he (.free "IndexError"),
  .he (.free "ZeroDivisionError"),
  .he (.free "OverflowError"),
  .g (jgd jH [] [(.b "KeyError"),(.b "IndexError"),(.b "ZeroDivisionError"),(.b "OverflowError")]),
  .he (.glo "_law_base"),
  .he (.glo "_law_is_of"),
  .g (YD jH ["InvalidLength"] (.c "InvalidLength")),
  .g (YD jH ["InvalidPiece"] (.c "InvalidPiece")),
  .he (.glo "InvalidCurve"),
  .g (YD jH ["InvalidCurve"] (.c "InvalidCurve")),
  .g (YD jH ["InvalidVisit"] (.c "InvalidVisit")),
  .g (YD jH ["InvalidRecord"] (.c "InvalidRecord")),
  .g (YD jH ["InvalidCount"] (.c "InvalidCount")),
  .g (YD jH ["InvalidWindow"] (.c "InvalidWindow")),
  .g (YD jH ["InvalidSupply"] (.c "InvalidSupply")),
  .g (YD jH ["InvalidVisits"] (.c "InvalidVisits")),
  .g (YD jH ["InvalidName"] (.c "InvalidName")),
  .he (.glo "InvalidNetwork"),
  .g (YD jH ["InvalidNetwork"] (.c "InvalidNetwork")),
  .g (YD jH ["InvalidStation"] (.c "InvalidStation")),
  .g (YD jH ["InvalidTime"] (.c "InvalidTime")),
  .g (YD jH ["InvalidSplit"] (.c "InvalidSplit")),
  .g (YD jH ["InvalidPath"] (.c "InvalidPath")),
  .g (YD jH ["InvalidFault"] (.c "InvalidFault")),
  .g (YD jH ["InvalidTick"] (.c "InvalidTick")),
  .he (.glo "InvalidWeights"),
  .g (YD jH ["InvalidWeights"] (.c "InvalidWeights")),
  .he (.glo "InvalidBook"),
  .g (YD jH ["InvalidBook"] (.c "InvalidBook")),
  .he (.glo "InvalidHanded"),
  .g (YD jH ["InvalidHanded"] (.c "InvalidHanded")),
  .g (YD jH ["UnknownStation"] (.c "UnknownStation")),
  .g (YD jH ["InvalidCommand"] (.c "InvalidCommand")),
  .he (.glo "NoLink"),
  .g (YD jH ["NoLink"] (.c "NoLink")),
  .g (YD jH ["UnknownUnit"] (.c "UnknownUnit")),
  .g (YD jH ["UnknownStream"] (.c "UnknownStream")),
  .he (.glo "NotGood"),
  .g (YD jH ["NotGood"] (.c "NotGood")),
  .he (.glo "HasReserves"),
  .g (YD jH ["HasReserves"] (.c "HasReserves")),
  .he (.glo "NotPlain"),
  .g (YD jH ["NotPlain"] (.c "NotPlain")),
  .he (.glo "Overfull"),
  .g (YD jH ["Overfull"] (.c "Overfull")),
  .he (.glo "RunFailed"),
  .g (YD jH ["RunFailed"] (.c "RunFailed")),
  .g (YD jH ["NotLate"] (.c "NotLate")),
  .g (YD jH ["TooMany"] (.c "TooMany")),
  .g (YD jH ["TooLong"] (.c "TooLong")),
  .he (.free "enumerate"),
  .he (.glo "_law_classes"),
  .oex "InvalidCurve",
  .he (.noat "InvalidCurve" "problem"),
  .he (.noat "InvalidCurve" "position"),
  .xin "InvalidCurve",
  .oex "InvalidNetwork",
  .he (.noat "InvalidNetwork" "problem"),
  .he (.noat "InvalidNetwork" "position"),
  .xin "InvalidNetwork",
  .oeb "NoLink" jlx,
  .he (.noat "NoLink" "source"),
  .he (.noat "NoLink" "target"),
  .xin "NoLink",
  .oeb "NotGood" jgr,
  .he (.noat "NotGood" "first"),
  .he (.noat "NotGood" "second"),
  .xin "NotGood",
  .oeb "RunFailed" jgr,
  .he (.noat "RunFailed" "position"),
  .he (.noat "RunFailed" "results"),
  .xin "RunFailed",
  .oeb "Overfull" jgr,
  .he (.noat "Overfull" "at_station"),
  .he (.noat "Overfull" "window"),
  .xin "Overfull",
  .g (x0B "InvalidHanded" jjn.bm jjn.nw),
  .g (x0B "InvalidBook" jjn.bm jjn.nw),
  .g (x0B "InvalidWeights" jjn.bm jjn.nw),
  .g (x0B "NotPlain" jgr.bm jgr.nw),
  .g (x0B "HasReserves" jgr.bm jgr.nw),
  .he (.glo "_law_more"),
  .g (jgd jH ["InvalidCurve","InvalidNetwork"] [(.c "InvalidCurve"),(.c "InvalidNetwork")]),
  .g (jfm ["NoLink"] "target"),
  .g (jfm ["NoLink"] "source"),
  .g (jfm ["NotGood"] "second"),
  .g (jfm ["NotGood"] "first"),
  .g (jfm ["RunFailed"] "results"),
  .g (jfm ["Overfull"] "window"),
  .g (jfm ["Overfull"] "at_station"),
  .he (.glo "_law_parts"),
  .he (.free "sorted"),
  .he (.free "abs"),
  .he (.glo "_law_rng"),
  .he (.glo "_law_right"),
  .he (.free "all"),
  .he (.glo "law")]
theorem jgc {K:PySem.W.Frag} {fd:FuncData} (D:jG K ja7 fd):∃ g,KBn K fd ["_law_rng_here","_law_many"] 2 [] g (fun vs zs=>[vs.getD 0 .non,vs.getD 1 .non]):=
  jd D 2 [] (fun us ws=>[us.getD 0 .none,us.getD 1 .none]) (fun vs zs=>[vs.getD 0 .non,vs.getD 1 .non]) (fun r1 r2=> .cons (Vals.at r1 0) (.cons (Vals.at r1 1) (.nil))) (fun _ _ _ _ _ _ us ws h1 h2=>match us,h1,ws,h2 with | [u0,u1],_,[],_=>rfl)
theorem jek {K:PySem.W.Frag}:Arr K 2 0 (fun vs zs=>[vs.getD 0 .non,vs.getD 1 .non]) (fun as bs=>[as.getD 0 (.dat .non),as.getD 1 (.dat .non)]):=⟨fun {cm σ G vs zs as bs} l1 l2 a b=>by
  match vs,l1,zs,l2,a,b with
  | [v0,v1],_,[],_,a,b=>exact jo.cons (a.at 0) (jo.cons (a.at 1) (.nil))⟩
theorem jeq {K:PySem.W.Frag} {fd:FuncData} (D:jG K ja7 fd):∃ g,KBn K fd ["_law_rng_here","_law_many"] 2 [] g (fun vs _=>vs):=
  jd D 2 [] (fun us _=>us) (fun vs _=>vs) (fun r1 _=>r1) (fun _ _ _ _ _ _ us ws h1 h2=>match us,h1,ws,h2 with | [u0,u1],_,[],_=>rfl)
theorem jdn {K:PySem.W.Frag} {fd:FuncData} (D:jG K Vv fd):∃ g,KBn K fd ["_law_rng_here"] 1 [] g (fun vs zs=>[vs.getD 0 .non]):=
  jd D 1 [] (fun us ws=>[us.getD 0 .none]) (fun vs zs=>[vs.getD 0 .non]) (fun r1 r2=> .cons (Vals.at r1 0) (.nil)) (fun _ _ _ _ _ _ us ws h1 h2=>match us,h1,ws,h2 with | [u0],_,[],_=>rfl)
theorem jaE {K:PySem.W.Frag}:Arr K 1 0 (fun vs zs=>[vs.getD 0 .non]) (fun as bs=>[as.getD 0 (.dat .non)]):=⟨fun {cm σ G vs zs as bs} l1 l2 a b=>by
  match vs,l1,zs,l2,a,b with
  | [v0],_,[],_,a,b=>exact jo.cons (a.at 0) (.nil)⟩
theorem jdR {K:PySem.W.Frag} {fd:FuncData} (D:jG K Vv fd):∃ g,KBn K fd ["_law_rng_here"] 1 [] g (fun vs _=>vs):=
  jd D 1 [] (fun us _=>us) (fun vs _=>vs) (fun r1 _=>r1) (fun _ _ _ _ _ _ us ws h1 h2=>match us,h1,ws,h2 with | [u0],_,[],_=>rfl)
theorem zt {K:PySem.W.Frag} {fd:FuncData} (D:jG K jV fd):∃ g,KBn K fd ["self","value"] 1 ["value"] g (fun vs zs=>[vs.getD 0 .non,zs.getD 0 .non]):=
  jd D 1 ["value"] (fun us ws=>[us.getD 0 .none,ws.getD 0 .none]) (fun vs zs=>[vs.getD 0 .non,zs.getD 0 .non]) (fun r1 r2=> .cons (Vals.at r1 0) (.cons (Vals.at r2 0) (.nil))) (fun _ _ _ _ _ _ us ws h1 h2=>match us,h1,ws,h2 with | [u0],_,[w0],_=>rfl)
theorem yC {K:PySem.W.Frag}:Arr K 0 1 (fun vs zs=>[zs.getD 0 .non]) (fun as bs=>[bs.getD 0 (.dat .non)]):=⟨fun {cm σ G vs zs as bs} l1 l2 a b=>by
  match vs,l1,zs,l2,a,b with
  | [],_,[z0],_,a,b=>exact jo.cons (b.at 0) (.nil)⟩
theorem yJ {K:PySem.W.Frag} {fd:FuncData} (D:jG K j7 fd):∃ g,KBn K fd ["self","position"] 1 ["position"] g (fun vs zs=>[vs.getD 0 .non,zs.getD 0 .non]):=
  jd D 1 ["position"] (fun us ws=>[us.getD 0 .none,ws.getD 0 .none]) (fun vs zs=>[vs.getD 0 .non,zs.getD 0 .non]) (fun r1 r2=> .cons (Vals.at r1 0) (.cons (Vals.at r2 0) (.nil))) (fun _ _ _ _ _ _ us ws h1 h2=>match us,h1,ws,h2 with | [u0],_,[w0],_=>rfl)
theorem w7 {K:PySem.W.Frag}:Arr K 0 1 (fun vs zs=>[zs.getD 0 .non]) (fun as bs=>[bs.getD 0 (.dat .non)]):=⟨fun {cm σ G vs zs as bs} l1 l2 a b=>by
  match vs,l1,zs,l2,a,b with
  | [],_,[z0],_,a,b=>exact jo.cons (b.at 0) (.nil)⟩
theorem yo {K:PySem.W.Frag} {fd:FuncData} (D:jG K jW fd):∃ g,KBn K fd ["self","position"] 1 ["position"] g (fun vs zs=>[vs.getD 0 .non,zs.getD 0 .non]):=
  jd D 1 ["position"] (fun us ws=>[us.getD 0 .none,ws.getD 0 .none]) (fun vs zs=>[vs.getD 0 .non,zs.getD 0 .non]) (fun r1 r2=> .cons (Vals.at r1 0) (.cons (Vals.at r2 0) (.nil))) (fun _ _ _ _ _ _ us ws h1 h2=>match us,h1,ws,h2 with | [u0],_,[w0],_=>rfl)
theorem wX {K:PySem.W.Frag}:Arr K 0 1 (fun vs zs=>[zs.getD 0 .non]) (fun as bs=>[bs.getD 0 (.dat .non)]):=⟨fun {cm σ G vs zs as bs} l1 l2 a b=>by
  match vs,l1,zs,l2,a,b with
  | [],_,[z0],_,a,b=>exact jo.cons (b.at 0) (.nil)⟩
theorem zT {K:PySem.W.Frag} {fd:FuncData} (D:jG K j5 fd):∃ g,KBn K fd ["self","value"] 1 ["value"] g (fun vs zs=>[vs.getD 0 .non,zs.getD 0 .non]):=
  jd D 1 ["value"] (fun us ws=>[us.getD 0 .none,ws.getD 0 .none]) (fun vs zs=>[vs.getD 0 .non,zs.getD 0 .non]) (fun r1 r2=> .cons (Vals.at r1 0) (.cons (Vals.at r2 0) (.nil))) (fun _ _ _ _ _ _ us ws h1 h2=>match us,h1,ws,h2 with | [u0],_,[w0],_=>rfl)
theorem yH {K:PySem.W.Frag}:Arr K 0 1 (fun vs zs=>[zs.getD 0 .non]) (fun as bs=>[bs.getD 0 (.dat .non)]):=⟨fun {cm σ G vs zs as bs} l1 l2 a b=>by
  match vs,l1,zs,l2,a,b with
  | [],_,[z0],_,a,b=>exact jo.cons (b.at 0) (.nil)⟩
theorem yB {K:PySem.W.Frag} {fd:FuncData} (D:jG K jX fd):∃ g,KBn K fd ["self","position"] 1 ["position"] g (fun vs zs=>[vs.getD 0 .non,zs.getD 0 .non]):=
  jd D 1 ["position"] (fun us ws=>[us.getD 0 .none,ws.getD 0 .none]) (fun vs zs=>[vs.getD 0 .non,zs.getD 0 .non]) (fun r1 r2=> .cons (Vals.at r1 0) (.cons (Vals.at r2 0) (.nil))) (fun _ _ _ _ _ _ us ws h1 h2=>match us,h1,ws,h2 with | [u0],_,[w0],_=>rfl)
theorem wR {K:PySem.W.Frag}:Arr K 0 1 (fun vs zs=>[zs.getD 0 .non]) (fun as bs=>[bs.getD 0 (.dat .non)]):=⟨fun {cm σ G vs zs as bs} l1 l2 a b=>by
  match vs,l1,zs,l2,a,b with
  | [],_,[z0],_,a,b=>exact jo.cons (b.at 0) (.nil)⟩
theorem zg {K:PySem.W.Frag} {fd:FuncData} (D:jG K j6 fd):∃ g,KBn K fd ["self","problem"] 1 ["problem"] g (fun vs zs=>[vs.getD 0 .non,zs.getD 0 .non]):=
  jd D 1 ["problem"] (fun us ws=>[us.getD 0 .none,ws.getD 0 .none]) (fun vs zs=>[vs.getD 0 .non,zs.getD 0 .non]) (fun r1 r2=> .cons (Vals.at r1 0) (.cons (Vals.at r2 0) (.nil))) (fun _ _ _ _ _ _ us ws h1 h2=>match us,h1,ws,h2 with | [u0],_,[w0],_=>rfl)
theorem yf {K:PySem.W.Frag}:Arr K 0 1 (fun vs zs=>[zs.getD 0 .non]) (fun as bs=>[bs.getD 0 (.dat .non)]):=⟨fun {cm σ G vs zs as bs} l1 l2 a b=>by
  match vs,l1,zs,l2,a,b with
  | [],_,[z0],_,a,b=>exact jo.cons (b.at 0) (.nil)⟩
theorem zI {K:PySem.W.Frag} {fd:FuncData} (D:jG K jT fd):∃ g,KBn K fd ["self","value"] 1 ["value"] g (fun vs zs=>[vs.getD 0 .non,zs.getD 0 .non]):=
  jd D 1 ["value"] (fun us ws=>[us.getD 0 .none,ws.getD 0 .none]) (fun vs zs=>[vs.getD 0 .non,zs.getD 0 .non]) (fun r1 r2=> .cons (Vals.at r1 0) (.cons (Vals.at r2 0) (.nil))) (fun _ _ _ _ _ _ us ws h1 h2=>match us,h1,ws,h2 with | [u0],_,[w0],_=>rfl)
theorem yD {K:PySem.W.Frag}:Arr K 0 1 (fun vs zs=>[zs.getD 0 .non]) (fun as bs=>[bs.getD 0 (.dat .non)]):=⟨fun {cm σ G vs zs as bs} l1 l2 a b=>by
  match vs,l1,zs,l2,a,b with
  | [],_,[z0],_,a,b=>exact jo.cons (b.at 0) (.nil)⟩
theorem yq {K:PySem.W.Frag} {fd:FuncData} (D:jG K jS fd):∃ g,KBn K fd ["self","position"] 1 ["position"] g (fun vs zs=>[vs.getD 0 .non,zs.getD 0 .non]):=
  jd D 1 ["position"] (fun us ws=>[us.getD 0 .none,ws.getD 0 .none]) (fun vs zs=>[vs.getD 0 .non,zs.getD 0 .non]) (fun r1 r2=> .cons (Vals.at r1 0) (.cons (Vals.at r2 0) (.nil))) (fun _ _ _ _ _ _ us ws h1 h2=>match us,h1,ws,h2 with | [u0],_,[w0],_=>rfl)
theorem wQ {K:PySem.W.Frag}:Arr K 0 1 (fun vs zs=>[zs.getD 0 .non]) (fun as bs=>[bs.getD 0 (.dat .non)]):=⟨fun {cm σ G vs zs as bs} l1 l2 a b=>by
  match vs,l1,zs,l2,a,b with
  | [],_,[z0],_,a,b=>exact jo.cons (b.at 0) (.nil)⟩
theorem Ys {K:PySem.W.Frag} {fd:FuncData} (D:jG K Jc fd):∃ g,KBn K fd ["self","value"] 1 ["value"] g (fun vs zs=>[vs.getD 0 .non,zs.getD 0 .non]):=
  jd D 1 ["value"] (fun us ws=>[us.getD 0 .none,ws.getD 0 .none]) (fun vs zs=>[vs.getD 0 .non,zs.getD 0 .non]) (fun r1 r2=> .cons (Vals.at r1 0) (.cons (Vals.at r2 0) (.nil))) (fun _ _ _ _ _ _ us ws h1 h2=>match us,h1,ws,h2 with | [u0],_,[w0],_=>rfl)
theorem zh {K:PySem.W.Frag}:Arr K 0 1 (fun vs zs=>[zs.getD 0 .non]) (fun as bs=>[bs.getD 0 (.dat .non)]):=⟨fun {cm σ G vs zs as bs} l1 l2 a b=>by
  match vs,l1,zs,l2,a,b with
  | [],_,[z0],_,a,b=>exact jo.cons (b.at 0) (.nil)⟩
theorem yE {K:PySem.W.Frag} {fd:FuncData} (D:jG K jM fd):∃ g,KBn K fd ["self","problem"] 1 ["problem"] g (fun vs zs=>[vs.getD 0 .non,zs.getD 0 .non]):=
  jd D 1 ["problem"] (fun us ws=>[us.getD 0 .none,ws.getD 0 .none]) (fun vs zs=>[vs.getD 0 .non,zs.getD 0 .non]) (fun r1 r2=> .cons (Vals.at r1 0) (.cons (Vals.at r2 0) (.nil))) (fun _ _ _ _ _ _ us ws h1 h2=>match us,h1,ws,h2 with | [u0],_,[w0],_=>rfl)
theorem wO {K:PySem.W.Frag}:Arr K 0 1 (fun vs zs=>[zs.getD 0 .non]) (fun as bs=>[bs.getD 0 (.dat .non)]):=⟨fun {cm σ G vs zs as bs} l1 l2 a b=>by
  match vs,l1,zs,l2,a,b with
  | [],_,[z0],_,a,b=>exact jo.cons (b.at 0) (.nil)⟩
theorem yI {K:PySem.W.Frag} {fd:FuncData} (D:jG K j4 fd):∃ g,KBn K fd ["self","position"] 1 ["position"] g (fun vs zs=>[vs.getD 0 .non,zs.getD 0 .non]):=
  jd D 1 ["position"] (fun us ws=>[us.getD 0 .none,ws.getD 0 .none]) (fun vs zs=>[vs.getD 0 .non,zs.getD 0 .non]) (fun r1 r2=> .cons (Vals.at r1 0) (.cons (Vals.at r2 0) (.nil))) (fun _ _ _ _ _ _ us ws h1 h2=>match us,h1,ws,h2 with | [u0],_,[w0],_=>rfl)
theorem w9 {K:PySem.W.Frag}:Arr K 0 1 (fun vs zs=>[zs.getD 0 .non]) (fun as bs=>[bs.getD 0 (.dat .non)]):=⟨fun {cm σ G vs zs as bs} l1 l2 a b=>by
  match vs,l1,zs,l2,a,b with
  | [],_,[z0],_,a,b=>exact jo.cons (b.at 0) (.nil)⟩
theorem zb {K:PySem.W.Frag} {fd:FuncData} (D:jG K Jd fd):∃ g,KBn K fd ["self","position"] 1 ["position"] g (fun vs zs=>[vs.getD 0 .non,zs.getD 0 .non]):=
  jd D 1 ["position"] (fun us ws=>[us.getD 0 .none,ws.getD 0 .none]) (fun vs zs=>[vs.getD 0 .non,zs.getD 0 .non]) (fun r1 r2=> .cons (Vals.at r1 0) (.cons (Vals.at r2 0) (.nil))) (fun _ _ _ _ _ _ us ws h1 h2=>match us,h1,ws,h2 with | [u0],_,[w0],_=>rfl)
theorem ym {K:PySem.W.Frag}:Arr K 0 1 (fun vs zs=>[zs.getD 0 .non]) (fun as bs=>[bs.getD 0 (.dat .non)]):=⟨fun {cm σ G vs zs as bs} l1 l2 a b=>by
  match vs,l1,zs,l2,a,b with
  | [],_,[z0],_,a,b=>exact jo.cons (b.at 0) (.nil)⟩
theorem Yu {K:PySem.W.Frag} {fd:FuncData} (D:jG K Jf fd):∃ g,KBn K fd ["self","value"] 1 ["value"] g (fun vs zs=>[vs.getD 0 .non,zs.getD 0 .non]):=
  jd D 1 ["value"] (fun us ws=>[us.getD 0 .none,ws.getD 0 .none]) (fun vs zs=>[vs.getD 0 .non,zs.getD 0 .non]) (fun r1 r2=> .cons (Vals.at r1 0) (.cons (Vals.at r2 0) (.nil))) (fun _ _ _ _ _ _ us ws h1 h2=>match us,h1,ws,h2 with | [u0],_,[w0],_=>rfl)
theorem y6 {K:PySem.W.Frag}:Arr K 0 1 (fun vs zs=>[zs.getD 0 .non]) (fun as bs=>[bs.getD 0 (.dat .non)]):=⟨fun {cm σ G vs zs as bs} l1 l2 a b=>by
  match vs,l1,zs,l2,a,b with
  | [],_,[z0],_,a,b=>exact jo.cons (b.at 0) (.nil)⟩
theorem Yj {K:PySem.W.Frag} {fd:FuncData} (D:jG K Jh fd):∃ g,KBn K fd ["self","value"] 1 ["value"] g (fun vs zs=>[vs.getD 0 .non,zs.getD 0 .non]):=
  jd D 1 ["value"] (fun us ws=>[us.getD 0 .none,ws.getD 0 .none]) (fun vs zs=>[vs.getD 0 .non,zs.getD 0 .non]) (fun r1 r2=> .cons (Vals.at r1 0) (.cons (Vals.at r2 0) (.nil))) (fun _ _ _ _ _ _ us ws h1 h2=>match us,h1,ws,h2 with | [u0],_,[w0],_=>rfl)
theorem y4 {K:PySem.W.Frag}:Arr K 0 1 (fun vs zs=>[zs.getD 0 .non]) (fun as bs=>[bs.getD 0 (.dat .non)]):=⟨fun {cm σ G vs zs as bs} l1 l2 a b=>by
  match vs,l1,zs,l2,a,b with
  | [],_,[z0],_,a,b=>exact jo.cons (b.at 0) (.nil)⟩
theorem yy {K:PySem.W.Frag} {fd:FuncData} (D:jG K jU fd):∃ g,KBn K fd ["self","position"] 1 ["position"] g (fun vs zs=>[vs.getD 0 .non,zs.getD 0 .non]):=
  jd D 1 ["position"] (fun us ws=>[us.getD 0 .none,ws.getD 0 .none]) (fun vs zs=>[vs.getD 0 .non,zs.getD 0 .non]) (fun r1 r2=> .cons (Vals.at r1 0) (.cons (Vals.at r2 0) (.nil))) (fun _ _ _ _ _ _ us ws h1 h2=>match us,h1,ws,h2 with | [u0],_,[w0],_=>rfl)
theorem wW {K:PySem.W.Frag}:Arr K 0 1 (fun vs zs=>[zs.getD 0 .non]) (fun as bs=>[bs.getD 0 (.dat .non)]):=⟨fun {cm σ G vs zs as bs} l1 l2 a b=>by
  match vs,l1,zs,l2,a,b with
  | [],_,[z0],_,a,b=>exact jo.cons (b.at 0) (.nil)⟩
theorem zd {K:PySem.W.Frag} {fd:FuncData} (D:jG K j0 fd):∃ g,KBn K fd ["self","problem"] 1 ["problem"] g (fun vs zs=>[vs.getD 0 .non,zs.getD 0 .non]):=
  jd D 1 ["problem"] (fun us ws=>[us.getD 0 .none,ws.getD 0 .none]) (fun vs zs=>[vs.getD 0 .non,zs.getD 0 .non]) (fun r1 r2=> .cons (Vals.at r1 0) (.cons (Vals.at r2 0) (.nil))) (fun _ _ _ _ _ _ us ws h1 h2=>match us,h1,ws,h2 with | [u0],_,[w0],_=>rfl)
theorem yg {K:PySem.W.Frag}:Arr K 0 1 (fun vs zs=>[zs.getD 0 .non]) (fun as bs=>[bs.getD 0 (.dat .non)]):=⟨fun {cm σ G vs zs as bs} l1 l2 a b=>by
  match vs,l1,zs,l2,a,b with
  | [],_,[z0],_,a,b=>exact jo.cons (b.at 0) (.nil)⟩
theorem za {K:PySem.W.Frag} {fd:FuncData} (D:jG K jN fd):∃ g,KBn K fd ["self","value"] 1 ["value"] g (fun vs zs=>[vs.getD 0 .non,zs.getD 0 .non]):=
  jd D 1 ["value"] (fun us ws=>[us.getD 0 .none,ws.getD 0 .none]) (fun vs zs=>[vs.getD 0 .non,zs.getD 0 .non]) (fun r1 r2=> .cons (Vals.at r1 0) (.cons (Vals.at r2 0) (.nil))) (fun _ _ _ _ _ _ us ws h1 h2=>match us,h1,ws,h2 with | [u0],_,[w0],_=>rfl)
theorem yn {K:PySem.W.Frag}:Arr K 0 1 (fun vs zs=>[zs.getD 0 .non]) (fun as bs=>[bs.getD 0 (.dat .non)]):=⟨fun {cm σ G vs zs as bs} l1 l2 a b=>by
  match vs,l1,zs,l2,a,b with
  | [],_,[z0],_,a,b=>exact jo.cons (b.at 0) (.nil)⟩
theorem YU {K:PySem.W.Frag} {fd:FuncData} (D:jG K Jg fd):∃ g,KBn K fd ["self","line"] 1 ["line"] g (fun vs zs=>[vs.getD 0 .non,zs.getD 0 .non]):=
  jd D 1 ["line"] (fun us ws=>[us.getD 0 .none,ws.getD 0 .none]) (fun vs zs=>[vs.getD 0 .non,zs.getD 0 .non]) (fun r1 r2=> .cons (Vals.at r1 0) (.cons (Vals.at r2 0) (.nil))) (fun _ _ _ _ _ _ us ws h1 h2=>match us,h1,ws,h2 with | [u0],_,[w0],_=>rfl)
theorem zC {K:PySem.W.Frag}:Arr K 0 1 (fun vs zs=>[zs.getD 0 .non]) (fun as bs=>[bs.getD 0 (.dat .non)]):=⟨fun {cm σ G vs zs as bs} l1 l2 a b=>by
  match vs,l1,zs,l2,a,b with
  | [],_,[z0],_,a,b=>exact jo.cons (b.at 0) (.nil)⟩
theorem zM {K:PySem.W.Frag} {fd:FuncData} (D:jG K jR fd):∃ g,KBn K fd ["self","value"] 1 ["value"] g (fun vs zs=>[vs.getD 0 .non,zs.getD 0 .non]):=
  jd D 1 ["value"] (fun us ws=>[us.getD 0 .none,ws.getD 0 .none]) (fun vs zs=>[vs.getD 0 .non,zs.getD 0 .non]) (fun r1 r2=> .cons (Vals.at r1 0) (.cons (Vals.at r2 0) (.nil))) (fun _ _ _ _ _ _ us ws h1 h2=>match us,h1,ws,h2 with | [u0],_,[w0],_=>rfl)
theorem yt {K:PySem.W.Frag}:Arr K 0 1 (fun vs zs=>[zs.getD 0 .non]) (fun as bs=>[bs.getD 0 (.dat .non)]):=⟨fun {cm σ G vs zs as bs} l1 l2 a b=>by
  match vs,l1,zs,l2,a,b with
  | [],_,[z0],_,a,b=>exact jo.cons (b.at 0) (.nil)⟩
theorem y8 {K:PySem.W.Frag} {fd:FuncData} (D:jG K jK fd):∃ g,KBn K fd ["self","value"] 1 ["value"] g (fun vs zs=>[vs.getD 0 .non,zs.getD 0 .non]):=
  jd D 1 ["value"] (fun us ws=>[us.getD 0 .none,ws.getD 0 .none]) (fun vs zs=>[vs.getD 0 .non,zs.getD 0 .non]) (fun r1 r2=> .cons (Vals.at r1 0) (.cons (Vals.at r2 0) (.nil))) (fun _ _ _ _ _ _ us ws h1 h2=>match us,h1,ws,h2 with | [u0],_,[w0],_=>rfl)
theorem yk {K:PySem.W.Frag}:Arr K 0 1 (fun vs zs=>[zs.getD 0 .non]) (fun as bs=>[bs.getD 0 (.dat .non)]):=⟨fun {cm σ G vs zs as bs} l1 l2 a b=>by
  match vs,l1,zs,l2,a,b with
  | [],_,[z0],_,a,b=>exact jo.cons (b.at 0) (.nil)⟩
theorem Y3 {K:PySem.W.Frag} {fd:FuncData} (D:jG K Jz fd):∃ g,KBn K fd ["self","taken"] 1 ["taken"] g (fun vs zs=>[vs.getD 0 .non,zs.getD 0 .non]):=
  jd D 1 ["taken"] (fun us ws=>[us.getD 0 .none,ws.getD 0 .none]) (fun vs zs=>[vs.getD 0 .non,zs.getD 0 .non]) (fun r1 r2=> .cons (Vals.at r1 0) (.cons (Vals.at r2 0) (.nil))) (fun _ _ _ _ _ _ us ws h1 h2=>match us,h1,ws,h2 with | [u0],_,[w0],_=>rfl)
theorem zS {K:PySem.W.Frag}:Arr K 0 1 (fun vs zs=>[zs.getD 0 .non]) (fun as bs=>[bs.getD 0 (.dat .non)]):=⟨fun {cm σ G vs zs as bs} l1 l2 a b=>by
  match vs,l1,zs,l2,a,b with
  | [],_,[z0],_,a,b=>exact jo.cons (b.at 0) (.nil)⟩
theorem Ym {K:PySem.W.Frag} {fd:FuncData} (D:jG K Ji fd):∃ g,KBn K fd ["self","value"] 1 ["value"] g (fun vs zs=>[vs.getD 0 .non,zs.getD 0 .non]):=
  jd D 1 ["value"] (fun us ws=>[us.getD 0 .none,ws.getD 0 .none]) (fun vs zs=>[vs.getD 0 .non,zs.getD 0 .non]) (fun r1 r2=> .cons (Vals.at r1 0) (.cons (Vals.at r2 0) (.nil))) (fun _ _ _ _ _ _ us ws h1 h2=>match us,h1,ws,h2 with | [u0],_,[w0],_=>rfl)
theorem yZ {K:PySem.W.Frag}:Arr K 0 1 (fun vs zs=>[zs.getD 0 .non]) (fun as bs=>[bs.getD 0 (.dat .non)]):=⟨fun {cm σ G vs zs as bs} l1 l2 a b=>by
  match vs,l1,zs,l2,a,b with
  | [],_,[z0],_,a,b=>exact jo.cons (b.at 0) (.nil)⟩
theorem Vo {K:PySem.W.Frag} {fd:FuncData} (D:jG K JN fd):∃ g,KBn K fd ["self","cases"] 1 ["cases"] g (fun vs zs=>[vs.getD 0 .non,zs.getD 0 .non]):=
  jd D 1 ["cases"] (fun us ws=>[us.getD 0 .none,ws.getD 0 .none]) (fun vs zs=>[vs.getD 0 .non,zs.getD 0 .non]) (fun r1 r2=> .cons (Vals.at r1 0) (.cons (Vals.at r2 0) (.nil))) (fun _ _ _ _ _ _ us ws h1 h2=>match us,h1,ws,h2 with | [u0],_,[w0],_=>rfl)
theorem Yo {K:PySem.W.Frag}:Arr K 0 1 (fun vs zs=>[zs.getD 0 .non]) (fun as bs=>[bs.getD 0 (.dat .non)]):=⟨fun {cm σ G vs zs as bs} l1 l2 a b=>by
  match vs,l1,zs,l2,a,b with
  | [],_,[z0],_,a,b=>exact jo.cons (b.at 0) (.nil)⟩
theorem Y1 {K:PySem.W.Frag} {fd:FuncData} (D:jG K J3 fd):∃ g,KBn K fd ["self","refusal"] 1 ["refusal"] g (fun vs zs=>[vs.getD 0 .non,zs.getD 0 .non]):=
  jd D 1 ["refusal"] (fun us ws=>[us.getD 0 .none,ws.getD 0 .none]) (fun vs zs=>[vs.getD 0 .non,zs.getD 0 .non]) (fun r1 r2=> .cons (Vals.at r1 0) (.cons (Vals.at r2 0) (.nil))) (fun _ _ _ _ _ _ us ws h1 h2=>match us,h1,ws,h2 with | [u0],_,[w0],_=>rfl)
theorem zV {K:PySem.W.Frag}:Arr K 0 1 (fun vs zs=>[zs.getD 0 .non]) (fun as bs=>[bs.getD 0 (.dat .non)]):=⟨fun {cm σ G vs zs as bs} l1 l2 a b=>by
  match vs,l1,zs,l2,a,b with
  | [],_,[z0],_,a,b=>exact jo.cons (b.at 0) (.nil)⟩
theorem VJ {K:PySem.W.Frag} {fd:FuncData} (D:jG K JZ fd):∃ g,KBn K fd ["self","total"] 1 ["total"] g (fun vs zs=>[vs.getD 0 .non,zs.getD 0 .non]):=
  jd D 1 ["total"] (fun us ws=>[us.getD 0 .none,ws.getD 0 .none]) (fun vs zs=>[vs.getD 0 .non,zs.getD 0 .non]) (fun r1 r2=> .cons (Vals.at r1 0) (.cons (Vals.at r2 0) (.nil))) (fun _ _ _ _ _ _ us ws h1 h2=>match us,h1,ws,h2 with | [u0],_,[w0],_=>rfl)
theorem YJ {K:PySem.W.Frag}:Arr K 0 1 (fun vs zs=>[zs.getD 0 .non]) (fun as bs=>[bs.getD 0 (.dat .non)]):=⟨fun {cm σ G vs zs as bs} l1 l2 a b=>by
  match vs,l1,zs,l2,a,b with
  | [],_,[z0],_,a,b=>exact jo.cons (b.at 0) (.nil)⟩
theorem VU {K:PySem.W.Frag} {fd:FuncData} (D:jG K J5 fd):∃ g,KBn K fd ["self","value"] 1 ["value"] g (fun vs zs=>[vs.getD 0 .non,zs.getD 0 .non]):=
  jd D 1 ["value"] (fun us ws=>[us.getD 0 .none,ws.getD 0 .none]) (fun vs zs=>[vs.getD 0 .non,zs.getD 0 .non]) (fun r1 r2=> .cons (Vals.at r1 0) (.cons (Vals.at r2 0) (.nil))) (fun _ _ _ _ _ _ us ws h1 h2=>match us,h1,ws,h2 with | [u0],_,[w0],_=>rfl)
theorem YM {K:PySem.W.Frag}:Arr K 0 1 (fun vs zs=>[zs.getD 0 .non]) (fun as bs=>[bs.getD 0 (.dat .non)]):=⟨fun {cm σ G vs zs as bs} l1 l2 a b=>by
  match vs,l1,zs,l2,a,b with
  | [],_,[z0],_,a,b=>exact jo.cons (b.at 0) (.nil)⟩
theorem Vk {K:PySem.W.Frag} {fd:FuncData} (D:jG K JX fd):∃ g,KBn K fd ["self","danger"] 1 ["danger"] g (fun vs zs=>[vs.getD 0 .non,zs.getD 0 .non]):=
  jd D 1 ["danger"] (fun us ws=>[us.getD 0 .none,ws.getD 0 .none]) (fun vs zs=>[vs.getD 0 .non,zs.getD 0 .non]) (fun r1 r2=> .cons (Vals.at r1 0) (.cons (Vals.at r2 0) (.nil))) (fun _ _ _ _ _ _ us ws h1 h2=>match us,h1,ws,h2 with | [u0],_,[w0],_=>rfl)
theorem Yl {K:PySem.W.Frag}:Arr K 0 1 (fun vs zs=>[zs.getD 0 .non]) (fun as bs=>[bs.getD 0 (.dat .non)]):=⟨fun {cm σ G vs zs as bs} l1 l2 a b=>by
  match vs,l1,zs,l2,a,b with
  | [],_,[z0],_,a,b=>exact jo.cons (b.at 0) (.nil)⟩
theorem VL {K:PySem.W.Frag} {fd:FuncData} (D:jG K J4 fd):∃ g,KBn K fd ["self","limit"] 1 ["limit"] g (fun vs zs=>[vs.getD 0 .non,zs.getD 0 .non]):=
  jd D 1 ["limit"] (fun us ws=>[us.getD 0 .none,ws.getD 0 .none]) (fun vs zs=>[vs.getD 0 .non,zs.getD 0 .non]) (fun r1 r2=> .cons (Vals.at r1 0) (.cons (Vals.at r2 0) (.nil))) (fun _ _ _ _ _ _ us ws h1 h2=>match us,h1,ws,h2 with | [u0],_,[w0],_=>rfl)
theorem YH {K:PySem.W.Frag}:Arr K 0 1 (fun vs zs=>[zs.getD 0 .non]) (fun as bs=>[bs.getD 0 (.dat .non)]):=⟨fun {cm σ G vs zs as bs} l1 l2 a b=>by
  match vs,l1,zs,l2,a,b with
  | [],_,[z0],_,a,b=>exact jo.cons (b.at 0) (.nil)⟩
theorem VF {K:PySem.W.Frag} {fd:FuncData} (D:jG K J0 fd):∃ g,KBn K fd ["self","limit"] 1 ["limit"] g (fun vs zs=>[vs.getD 0 .non,zs.getD 0 .non]):=
  jd D 1 ["limit"] (fun us ws=>[us.getD 0 .none,ws.getD 0 .none]) (fun vs zs=>[vs.getD 0 .non,zs.getD 0 .non]) (fun r1 r2=> .cons (Vals.at r1 0) (.cons (Vals.at r2 0) (.nil))) (fun _ _ _ _ _ _ us ws h1 h2=>match us,h1,ws,h2 with | [u0],_,[w0],_=>rfl)
theorem YQ {K:PySem.W.Frag}:Arr K 0 1 (fun vs zs=>[zs.getD 0 .non]) (fun as bs=>[bs.getD 0 (.dat .non)]):=⟨fun {cm σ G vs zs as bs} l1 l2 a b=>by
  match vs,l1,zs,l2,a,b with
  | [],_,[z0],_,a,b=>exact jo.cons (b.at 0) (.nil)⟩
theorem jgm {K:PySem.W.Frag} {fd:FuncData} (D:jG K jbm fd):∃ g,KBn K fd ["_law_thing_here"] 1 [] g (fun vs zs=>[vs.getD 0 .non]):=
  jd D 1 [] (fun us ws=>[us.getD 0 .none]) (fun vs zs=>[vs.getD 0 .non]) (fun r1 r2=> .cons (Vals.at r1 0) (.nil)) (fun _ _ _ _ _ _ us ws h1 h2=>match us,h1,ws,h2 with | [u0],_,[],_=>rfl)
theorem jej {K:PySem.W.Frag}:Arr K 1 0 (fun vs zs=>[vs.getD 0 .non]) (fun as bs=>[as.getD 0 (.dat .non)]):=⟨fun {cm σ G vs zs as bs} l1 l2 a b=>by
  match vs,l1,zs,l2,a,b with
  | [v0],_,[],_,a,b=>exact jo.cons (a.at 0) (.nil)⟩
theorem jet {K:PySem.W.Frag} {fd:FuncData} (D:jG K jbm fd):∃ g,KBn K fd ["_law_thing_here"] 1 [] g (fun vs _=>vs):=
  jd D 1 [] (fun us _=>us) (fun vs _=>vs) (fun r1 _=>r1) (fun _ _ _ _ _ _ us ws h1 h2=>match us,h1,ws,h2 with | [u0],_,[],_=>rfl)
theorem V6 {K:PySem.W.Frag} {fd:FuncData} (D:jG K j6 fd):∃ g,KBn K fd ["self","problem"] 2 [] g (fun vs zs=>[vs.getD 0 .non,vs.getD 1 .non]):=
  jd D 2 [] (fun us ws=>[us.getD 0 .none,us.getD 1 .none]) (fun vs zs=>[vs.getD 0 .non,vs.getD 1 .non]) (fun r1 r2=> .cons (Vals.at r1 0) (.cons (Vals.at r1 1) (.nil))) (fun _ _ _ _ _ _ us ws h1 h2=>match us,h1,ws,h2 with | [u0,u1],_,[],_=>rfl)
theorem Y7 {K:PySem.W.Frag}:Arr K 1 0 (fun vs zs=>[vs.getD 0 .non]) (fun as bs=>[as.getD 0 (.dat .non)]):=⟨fun {cm σ G vs zs as bs} l1 l2 a b=>by
  match vs,l1,zs,l2,a,b with
  | [v0],_,[],_,a,b=>exact jo.cons (a.at 0) (.nil)⟩
theorem wG {K:PySem.W.Frag} {fd:FuncData} (D:jG K j6 fd):∃ g,KBn K fd ["self","problem"] 2 [] g (fun vs _=>vs):=
  jd D 2 [] (fun us _=>us) (fun vs _=>vs) (fun r1 _=>r1) (fun _ _ _ _ _ _ us ws h1 h2=>match us,h1,ws,h2 with | [u0,u1],_,[],_=>rfl)
theorem VZ {K:PySem.W.Frag} {fd:FuncData} (D:jG K jW fd):∃ g,KBn K fd ["self","position"] 2 [] g (fun vs zs=>[vs.getD 0 .non,vs.getD 1 .non]):=
  jd D 2 [] (fun us ws=>[us.getD 0 .none,us.getD 1 .none]) (fun vs zs=>[vs.getD 0 .non,vs.getD 1 .non]) (fun r1 r2=> .cons (Vals.at r1 0) (.cons (Vals.at r1 1) (.nil))) (fun _ _ _ _ _ _ us ws h1 h2=>match us,h1,ws,h2 with | [u0,u1],_,[],_=>rfl)
theorem YT {K:PySem.W.Frag}:Arr K 1 0 (fun vs zs=>[vs.getD 0 .non]) (fun as bs=>[as.getD 0 (.dat .non)]):=⟨fun {cm σ G vs zs as bs} l1 l2 a b=>by
  match vs,l1,zs,l2,a,b with
  | [v0],_,[],_,a,b=>exact jo.cons (a.at 0) (.nil)⟩
theorem wy {K:PySem.W.Frag} {fd:FuncData} (D:jG K jW fd):∃ g,KBn K fd ["self","position"] 2 [] g (fun vs _=>vs):=
  jd D 2 [] (fun us _=>us) (fun vs _=>vs) (fun r1 _=>r1) (fun _ _ _ _ _ _ us ws h1 h2=>match us,h1,ws,h2 with | [u0,u1],_,[],_=>rfl)
theorem Wi {K:PySem.W.Frag} {fd:FuncData} (D:jG K j5 fd):∃ g,KBn K fd ["self","value"] 2 [] g (fun vs zs=>[vs.getD 0 .non,vs.getD 1 .non]):=
  jd D 2 [] (fun us ws=>[us.getD 0 .none,us.getD 1 .none]) (fun vs zs=>[vs.getD 0 .non,vs.getD 1 .non]) (fun r1 r2=> .cons (Vals.at r1 0) (.cons (Vals.at r1 1) (.nil))) (fun _ _ _ _ _ _ us ws h1 h2=>match us,h1,ws,h2 with | [u0,u1],_,[],_=>rfl)
theorem Y6 {K:PySem.W.Frag}:Arr K 1 0 (fun vs zs=>[vs.getD 0 .non]) (fun as bs=>[as.getD 0 (.dat .non)]):=⟨fun {cm σ G vs zs as bs} l1 l2 a b=>by
  match vs,l1,zs,l2,a,b with
  | [v0],_,[],_,a,b=>exact jo.cons (a.at 0) (.nil)⟩
theorem wF {K:PySem.W.Frag} {fd:FuncData} (D:jG K j5 fd):∃ g,KBn K fd ["self","value"] 2 [] g (fun vs _=>vs):=
  jd D 2 [] (fun us _=>us) (fun vs _=>vs) (fun r1 _=>r1) (fun _ _ _ _ _ _ us ws h1 h2=>match us,h1,ws,h2 with | [u0,u1],_,[],_=>rfl)
theorem VO {K:PySem.W.Frag} {fd:FuncData} (D:jG K jV fd):∃ g,KBn K fd ["self","value"] 2 [] g (fun vs zs=>[vs.getD 0 .non,vs.getD 1 .non]):=
  jd D 2 [] (fun us ws=>[us.getD 0 .none,us.getD 1 .none]) (fun vs zs=>[vs.getD 0 .non,vs.getD 1 .non]) (fun r1 r2=> .cons (Vals.at r1 0) (.cons (Vals.at r1 1) (.nil))) (fun _ _ _ _ _ _ us ws h1 h2=>match us,h1,ws,h2 with | [u0,u1],_,[],_=>rfl)
theorem YR {K:PySem.W.Frag}:Arr K 1 0 (fun vs zs=>[vs.getD 0 .non]) (fun as bs=>[as.getD 0 (.dat .non)]):=⟨fun {cm σ G vs zs as bs} l1 l2 a b=>by
  match vs,l1,zs,l2,a,b with
  | [v0],_,[],_,a,b=>exact jo.cons (a.at 0) (.nil)⟩
theorem wu {K:PySem.W.Frag} {fd:FuncData} (D:jG K jV fd):∃ g,KBn K fd ["self","value"] 2 [] g (fun vs _=>vs):=
  jd D 2 [] (fun us _=>us) (fun vs _=>vs) (fun r1 _=>r1) (fun _ _ _ _ _ _ us ws h1 h2=>match us,h1,ws,h2 with | [u0,u1],_,[],_=>rfl)
theorem Wp {K:PySem.W.Frag} {fd:FuncData} (D:jG K j7 fd):∃ g,KBn K fd ["self","position"] 2 [] g (fun vs zs=>[vs.getD 0 .non,vs.getD 1 .non]):=
  jd D 2 [] (fun us ws=>[us.getD 0 .none,us.getD 1 .none]) (fun vs zs=>[vs.getD 0 .non,vs.getD 1 .non]) (fun r1 r2=> .cons (Vals.at r1 0) (.cons (Vals.at r1 1) (.nil))) (fun _ _ _ _ _ _ us ws h1 h2=>match us,h1,ws,h2 with | [u0,u1],_,[],_=>rfl)
theorem YZ {K:PySem.W.Frag}:Arr K 1 0 (fun vs zs=>[vs.getD 0 .non]) (fun as bs=>[as.getD 0 (.dat .non)]):=⟨fun {cm σ G vs zs as bs} l1 l2 a b=>by
  match vs,l1,zs,l2,a,b with
  | [v0],_,[],_,a,b=>exact jo.cons (a.at 0) (.nil)⟩
theorem wD {K:PySem.W.Frag} {fd:FuncData} (D:jG K j7 fd):∃ g,KBn K fd ["self","position"] 2 [] g (fun vs _=>vs):=
  jd D 2 [] (fun us _=>us) (fun vs _=>vs) (fun r1 _=>r1) (fun _ _ _ _ _ _ us ws h1 h2=>match us,h1,ws,h2 with | [u0,u1],_,[],_=>rfl)
theorem Vj {K:PySem.W.Frag} {fd:FuncData} (D:jG K jM fd):∃ g,KBn K fd ["self","problem"] 2 [] g (fun vs zs=>[vs.getD 0 .non,vs.getD 1 .non]):=
  jd D 2 [] (fun us ws=>[us.getD 0 .none,us.getD 1 .none]) (fun vs zs=>[vs.getD 0 .non,vs.getD 1 .non]) (fun r1 r2=> .cons (Vals.at r1 0) (.cons (Vals.at r1 1) (.nil))) (fun _ _ _ _ _ _ us ws h1 h2=>match us,h1,ws,h2 with | [u0,u1],_,[],_=>rfl)
theorem Yq {K:PySem.W.Frag}:Arr K 1 0 (fun vs zs=>[vs.getD 0 .non]) (fun as bs=>[as.getD 0 (.dat .non)]):=⟨fun {cm σ G vs zs as bs} l1 l2 a b=>by
  match vs,l1,zs,l2,a,b with
  | [v0],_,[],_,a,b=>exact jo.cons (a.at 0) (.nil)⟩
theorem wl {K:PySem.W.Frag} {fd:FuncData} (D:jG K jM fd):∃ g,KBn K fd ["self","problem"] 2 [] g (fun vs _=>vs):=
  jd D 2 [] (fun us _=>us) (fun vs _=>vs) (fun r1 _=>r1) (fun _ _ _ _ _ _ us ws h1 h2=>match us,h1,ws,h2 with | [u0,u1],_,[],_=>rfl)
theorem VC {K:PySem.W.Frag} {fd:FuncData} (D:jG K jT fd):∃ g,KBn K fd ["self","value"] 2 [] g (fun vs zs=>[vs.getD 0 .non,vs.getD 1 .non]):=
  jd D 2 [] (fun us ws=>[us.getD 0 .none,us.getD 1 .none]) (fun vs zs=>[vs.getD 0 .non,vs.getD 1 .non]) (fun r1 r2=> .cons (Vals.at r1 0) (.cons (Vals.at r1 1) (.nil))) (fun _ _ _ _ _ _ us ws h1 h2=>match us,h1,ws,h2 with | [u0,u1],_,[],_=>rfl)
theorem YF {K:PySem.W.Frag}:Arr K 1 0 (fun vs zs=>[vs.getD 0 .non]) (fun as bs=>[as.getD 0 (.dat .non)]):=⟨fun {cm σ G vs zs as bs} l1 l2 a b=>by
  match vs,l1,zs,l2,a,b with
  | [v0],_,[],_,a,b=>exact jo.cons (a.at 0) (.nil)⟩
theorem wv {K:PySem.W.Frag} {fd:FuncData} (D:jG K jT fd):∃ g,KBn K fd ["self","value"] 2 [] g (fun vs _=>vs):=
  jd D 2 [] (fun us _=>us) (fun vs _=>vs) (fun r1 _=>r1) (fun _ _ _ _ _ _ us ws h1 h2=>match us,h1,ws,h2 with | [u0,u1],_,[],_=>rfl)
theorem V0 {K:PySem.W.Frag} {fd:FuncData} (D:jG K jS fd):∃ g,KBn K fd ["self","position"] 2 [] g (fun vs zs=>[vs.getD 0 .non,vs.getD 1 .non]):=
  jd D 2 [] (fun us ws=>[us.getD 0 .none,us.getD 1 .none]) (fun vs zs=>[vs.getD 0 .non,vs.getD 1 .non]) (fun r1 r2=> .cons (Vals.at r1 0) (.cons (Vals.at r1 1) (.nil))) (fun _ _ _ _ _ _ us ws h1 h2=>match us,h1,ws,h2 with | [u0,u1],_,[],_=>rfl)
theorem YV {K:PySem.W.Frag}:Arr K 1 0 (fun vs zs=>[vs.getD 0 .non]) (fun as bs=>[as.getD 0 (.dat .non)]):=⟨fun {cm σ G vs zs as bs} l1 l2 a b=>by
  match vs,l1,zs,l2,a,b with
  | [v0],_,[],_,a,b=>exact jo.cons (a.at 0) (.nil)⟩
theorem wz {K:PySem.W.Frag} {fd:FuncData} (D:jG K jS fd):∃ g,KBn K fd ["self","position"] 2 [] g (fun vs _=>vs):=
  jd D 2 [] (fun us _=>us) (fun vs _=>vs) (fun r1 _=>r1) (fun _ _ _ _ _ _ us ws h1 h2=>match us,h1,ws,h2 with | [u0,u1],_,[],_=>rfl)
theorem VG {K:PySem.W.Frag} {fd:FuncData} (D:jG K jX fd):∃ g,KBn K fd ["self","position"] 2 [] g (fun vs zs=>[vs.getD 0 .non,vs.getD 1 .non]):=
  jd D 2 [] (fun us ws=>[us.getD 0 .none,us.getD 1 .none]) (fun vs zs=>[vs.getD 0 .non,vs.getD 1 .non]) (fun r1 r2=> .cons (Vals.at r1 0) (.cons (Vals.at r1 1) (.nil))) (fun _ _ _ _ _ _ us ws h1 h2=>match us,h1,ws,h2 with | [u0,u1],_,[],_=>rfl)
theorem YW {K:PySem.W.Frag}:Arr K 1 0 (fun vs zs=>[vs.getD 0 .non]) (fun as bs=>[as.getD 0 (.dat .non)]):=⟨fun {cm σ G vs zs as bs} l1 l2 a b=>by
  match vs,l1,zs,l2,a,b with
  | [v0],_,[],_,a,b=>exact jo.cons (a.at 0) (.nil)⟩
theorem ww {K:PySem.W.Frag} {fd:FuncData} (D:jG K jX fd):∃ g,KBn K fd ["self","position"] 2 [] g (fun vs _=>vs):=
  jd D 2 [] (fun us _=>us) (fun vs _=>vs) (fun r1 _=>r1) (fun _ _ _ _ _ _ us ws h1 h2=>match us,h1,ws,h2 with | [u0,u1],_,[],_=>rfl)
theorem WW {K:PySem.W.Frag} {fd:FuncData} (D:jG K Jh fd):∃ g,KBn K fd ["self","value"] 2 [] g (fun vs zs=>[vs.getD 0 .non,vs.getD 1 .non]):=
  jd D 2 [] (fun us ws=>[us.getD 0 .none,us.getD 1 .none]) (fun vs zs=>[vs.getD 0 .non,vs.getD 1 .non]) (fun r1 r2=> .cons (Vals.at r1 0) (.cons (Vals.at r1 1) (.nil))) (fun _ _ _ _ _ _ us ws h1 h2=>match us,h1,ws,h2 with | [u0,u1],_,[],_=>rfl)
theorem Vh {K:PySem.W.Frag}:Arr K 1 0 (fun vs zs=>[vs.getD 0 .non]) (fun as bs=>[as.getD 0 (.dat .non)]):=⟨fun {cm σ G vs zs as bs} l1 l2 a b=>by
  match vs,l1,zs,l2,a,b with
  | [v0],_,[],_,a,b=>exact jo.cons (a.at 0) (.nil)⟩
theorem wS {K:PySem.W.Frag} {fd:FuncData} (D:jG K Jh fd):∃ g,KBn K fd ["self","value"] 2 [] g (fun vs _=>vs):=
  jd D 2 [] (fun us _=>us) (fun vs _=>vs) (fun r1 _=>r1) (fun _ _ _ _ _ _ us ws h1 h2=>match us,h1,ws,h2 with | [u0,u1],_,[],_=>rfl)
theorem Wj {K:PySem.W.Frag} {fd:FuncData} (D:jG K j4 fd):∃ g,KBn K fd ["self","position"] 2 [] g (fun vs zs=>[vs.getD 0 .non,vs.getD 1 .non]):=
  jd D 2 [] (fun us ws=>[us.getD 0 .none,us.getD 1 .none]) (fun vs zs=>[vs.getD 0 .non,vs.getD 1 .non]) (fun r1 r2=> .cons (Vals.at r1 0) (.cons (Vals.at r1 1) (.nil))) (fun _ _ _ _ _ _ us ws h1 h2=>match us,h1,ws,h2 with | [u0,u1],_,[],_=>rfl)
theorem Y2 {K:PySem.W.Frag}:Arr K 1 0 (fun vs zs=>[vs.getD 0 .non]) (fun as bs=>[as.getD 0 (.dat .non)]):=⟨fun {cm σ G vs zs as bs} l1 l2 a b=>by
  match vs,l1,zs,l2,a,b with
  | [v0],_,[],_,a,b=>exact jo.cons (a.at 0) (.nil)⟩
theorem wC {K:PySem.W.Frag} {fd:FuncData} (D:jG K j4 fd):∃ g,KBn K fd ["self","position"] 2 [] g (fun vs _=>vs):=
  jd D 2 [] (fun us _=>us) (fun vs _=>vs) (fun r1 _=>r1) (fun _ _ _ _ _ _ us ws h1 h2=>match us,h1,ws,h2 with | [u0,u1],_,[],_=>rfl)
theorem W3 {K:PySem.W.Frag} {fd:FuncData} (D:jG K Jd fd):∃ g,KBn K fd ["self","position"] 2 [] g (fun vs zs=>[vs.getD 0 .non,vs.getD 1 .non]):=
  jd D 2 [] (fun us ws=>[us.getD 0 .none,us.getD 1 .none]) (fun vs zs=>[vs.getD 0 .non,vs.getD 1 .non]) (fun r1 r2=> .cons (Vals.at r1 0) (.cons (Vals.at r1 1) (.nil))) (fun _ _ _ _ _ _ us ws h1 h2=>match us,h1,ws,h2 with | [u0,u1],_,[],_=>rfl)
theorem Vr {K:PySem.W.Frag}:Arr K 1 0 (fun vs zs=>[vs.getD 0 .non]) (fun as bs=>[as.getD 0 (.dat .non)]):=⟨fun {cm σ G vs zs as bs} l1 l2 a b=>by
  match vs,l1,zs,l2,a,b with
  | [v0],_,[],_,a,b=>exact jo.cons (a.at 0) (.nil)⟩
theorem wU {K:PySem.W.Frag} {fd:FuncData} (D:jG K Jd fd):∃ g,KBn K fd ["self","position"] 2 [] g (fun vs _=>vs):=
  jd D 2 [] (fun us _=>us) (fun vs _=>vs) (fun r1 _=>r1) (fun _ _ _ _ _ _ us ws h1 h2=>match us,h1,ws,h2 with | [u0,u1],_,[],_=>rfl)
theorem jad {K:PySem.W.Frag} {fd:FuncData} (D:jG K Jc fd):∃ g,KBn K fd ["self","value"] 2 [] g (fun vs zs=>[vs.getD 0 .non,vs.getD 1 .non]):=
  jd D 2 [] (fun us ws=>[us.getD 0 .none,us.getD 1 .none]) (fun vs zs=>[vs.getD 0 .non,vs.getD 1 .non]) (fun r1 r2=> .cons (Vals.at r1 0) (.cons (Vals.at r1 1) (.nil))) (fun _ _ _ _ _ _ us ws h1 h2=>match us,h1,ws,h2 with | [u0,u1],_,[],_=>rfl)
theorem Vl {K:PySem.W.Frag}:Arr K 1 0 (fun vs zs=>[vs.getD 0 .non]) (fun as bs=>[as.getD 0 (.dat .non)]):=⟨fun {cm σ G vs zs as bs} l1 l2 a b=>by
  match vs,l1,zs,l2,a,b with
  | [v0],_,[],_,a,b=>exact jo.cons (a.at 0) (.nil)⟩
theorem wV {K:PySem.W.Frag} {fd:FuncData} (D:jG K Jc fd):∃ g,KBn K fd ["self","value"] 2 [] g (fun vs _=>vs):=
  jd D 2 [] (fun us _=>us) (fun vs _=>vs) (fun r1 _=>r1) (fun _ _ _ _ _ _ us ws h1 h2=>match us,h1,ws,h2 with | [u0,u1],_,[],_=>rfl)
theorem W1 {K:PySem.W.Frag} {fd:FuncData} (D:jG K Jg fd):∃ g,KBn K fd ["self","line"] 2 [] g (fun vs zs=>[vs.getD 0 .non,vs.getD 1 .non]):=
  jd D 2 [] (fun us ws=>[us.getD 0 .none,us.getD 1 .none]) (fun vs zs=>[vs.getD 0 .non,vs.getD 1 .non]) (fun r1 r2=> .cons (Vals.at r1 0) (.cons (Vals.at r1 1) (.nil))) (fun _ _ _ _ _ _ us ws h1 h2=>match us,h1,ws,h2 with | [u0,u1],_,[],_=>rfl)
theorem Vn {K:PySem.W.Frag}:Arr K 1 0 (fun vs zs=>[vs.getD 0 .non]) (fun as bs=>[as.getD 0 (.dat .non)]):=⟨fun {cm σ G vs zs as bs} l1 l2 a b=>by
  match vs,l1,zs,l2,a,b with
  | [v0],_,[],_,a,b=>exact jo.cons (a.at 0) (.nil)⟩
theorem wT {K:PySem.W.Frag} {fd:FuncData} (D:jG K Jg fd):∃ g,KBn K fd ["self","line"] 2 [] g (fun vs _=>vs):=
  jd D 2 [] (fun us _=>us) (fun vs _=>vs) (fun r1 _=>r1) (fun _ _ _ _ _ _ us ws h1 h2=>match us,h1,ws,h2 with | [u0,u1],_,[],_=>rfl)
theorem VP {K:PySem.W.Frag} {fd:FuncData} (D:jG K jU fd):∃ g,KBn K fd ["self","position"] 2 [] g (fun vs zs=>[vs.getD 0 .non,vs.getD 1 .non]):=
  jd D 2 [] (fun us ws=>[us.getD 0 .none,us.getD 1 .none]) (fun vs zs=>[vs.getD 0 .non,vs.getD 1 .non]) (fun r1 r2=> .cons (Vals.at r1 0) (.cons (Vals.at r1 1) (.nil))) (fun _ _ _ _ _ _ us ws h1 h2=>match us,h1,ws,h2 with | [u0,u1],_,[],_=>rfl)
theorem YS {K:PySem.W.Frag}:Arr K 1 0 (fun vs zs=>[vs.getD 0 .non]) (fun as bs=>[as.getD 0 (.dat .non)]):=⟨fun {cm σ G vs zs as bs} l1 l2 a b=>by
  match vs,l1,zs,l2,a,b with
  | [v0],_,[],_,a,b=>exact jo.cons (a.at 0) (.nil)⟩
theorem wr {K:PySem.W.Frag} {fd:FuncData} (D:jG K jU fd):∃ g,KBn K fd ["self","position"] 2 [] g (fun vs _=>vs):=
  jd D 2 [] (fun us _=>us) (fun vs _=>vs) (fun r1 _=>r1) (fun _ _ _ _ _ _ us ws h1 h2=>match us,h1,ws,h2 with | [u0,u1],_,[],_=>rfl)
theorem Wg {K:PySem.W.Frag} {fd:FuncData} (D:jG K j0 fd):∃ g,KBn K fd ["self","problem"] 2 [] g (fun vs zs=>[vs.getD 0 .non,vs.getD 1 .non]):=
  jd D 2 [] (fun us ws=>[us.getD 0 .none,us.getD 1 .none]) (fun vs zs=>[vs.getD 0 .non,vs.getD 1 .non]) (fun r1 r2=> .cons (Vals.at r1 0) (.cons (Vals.at r1 1) (.nil))) (fun _ _ _ _ _ _ us ws h1 h2=>match us,h1,ws,h2 with | [u0,u1],_,[],_=>rfl)
theorem Y0 {K:PySem.W.Frag}:Arr K 1 0 (fun vs zs=>[vs.getD 0 .non]) (fun as bs=>[as.getD 0 (.dat .non)]):=⟨fun {cm σ G vs zs as bs} l1 l2 a b=>by
  match vs,l1,zs,l2,a,b with
  | [v0],_,[],_,a,b=>exact jo.cons (a.at 0) (.nil)⟩
theorem wE {K:PySem.W.Frag} {fd:FuncData} (D:jG K j0 fd):∃ g,KBn K fd ["self","problem"] 2 [] g (fun vs _=>vs):=
  jd D 2 [] (fun us _=>us) (fun vs _=>vs) (fun r1 _=>r1) (fun _ _ _ _ _ _ us ws h1 h2=>match us,h1,ws,h2 with | [u0,u1],_,[],_=>rfl)
theorem WS {K:PySem.W.Frag} {fd:FuncData} (D:jG K Jf fd):∃ g,KBn K fd ["self","value"] 2 [] g (fun vs zs=>[vs.getD 0 .non,vs.getD 1 .non]):=
  jd D 2 [] (fun us ws=>[us.getD 0 .none,us.getD 1 .none]) (fun vs zs=>[vs.getD 0 .non,vs.getD 1 .non]) (fun r1 r2=> .cons (Vals.at r1 0) (.cons (Vals.at r1 1) (.nil))) (fun _ _ _ _ _ _ us ws h1 h2=>match us,h1,ws,h2 with | [u0,u1],_,[],_=>rfl)
theorem Vt {K:PySem.W.Frag}:Arr K 1 0 (fun vs zs=>[vs.getD 0 .non]) (fun as bs=>[as.getD 0 (.dat .non)]):=⟨fun {cm σ G vs zs as bs} l1 l2 a b=>by
  match vs,l1,zs,l2,a,b with
  | [v0],_,[],_,a,b=>exact jo.cons (a.at 0) (.nil)⟩
theorem wY {K:PySem.W.Frag} {fd:FuncData} (D:jG K Jf fd):∃ g,KBn K fd ["self","value"] 2 [] g (fun vs _=>vs):=
  jd D 2 [] (fun us _=>us) (fun vs _=>vs) (fun r1 _=>r1) (fun _ _ _ _ _ _ us ws h1 h2=>match us,h1,ws,h2 with | [u0,u1],_,[],_=>rfl)
theorem Vp {K:PySem.W.Frag} {fd:FuncData} (D:jG K jN fd):∃ g,KBn K fd ["self","value"] 2 [] g (fun vs zs=>[vs.getD 0 .non,vs.getD 1 .non]):=
  jd D 2 [] (fun us ws=>[us.getD 0 .none,us.getD 1 .none]) (fun vs zs=>[vs.getD 0 .non,vs.getD 1 .non]) (fun r1 r2=> .cons (Vals.at r1 0) (.cons (Vals.at r1 1) (.nil))) (fun _ _ _ _ _ _ us ws h1 h2=>match us,h1,ws,h2 with | [u0,u1],_,[],_=>rfl)
theorem Yt {K:PySem.W.Frag}:Arr K 1 0 (fun vs zs=>[vs.getD 0 .non]) (fun as bs=>[as.getD 0 (.dat .non)]):=⟨fun {cm σ G vs zs as bs} l1 l2 a b=>by
  match vs,l1,zs,l2,a,b with
  | [v0],_,[],_,a,b=>exact jo.cons (a.at 0) (.nil)⟩
theorem wk {K:PySem.W.Frag} {fd:FuncData} (D:jG K jN fd):∃ g,KBn K fd ["self","value"] 2 [] g (fun vs _=>vs):=
  jd D 2 [] (fun us _=>us) (fun vs _=>vs) (fun r1 _=>r1) (fun _ _ _ _ _ _ us ws h1 h2=>match us,h1,ws,h2 with | [u0,u1],_,[],_=>rfl)
theorem jcq {K:PySem.W.Frag} {fd:FuncData} (D:jG K JZ fd):∃ g,KBn K fd ["self","total"] 2 [] g (fun vs zs=>[vs.getD 0 .non,vs.getD 1 .non]):=
  jd D 2 [] (fun us ws=>[us.getD 0 .none,us.getD 1 .none]) (fun vs zs=>[vs.getD 0 .non,vs.getD 1 .non]) (fun r1 r2=> .cons (Vals.at r1 0) (.cons (Vals.at r1 1) (.nil))) (fun _ _ _ _ _ _ us ws h1 h2=>match us,h1,ws,h2 with | [u0,u1],_,[],_=>rfl)
theorem jan {K:PySem.W.Frag}:Arr K 1 0 (fun vs zs=>[vs.getD 0 .non]) (fun as bs=>[as.getD 0 (.dat .non)]):=⟨fun {cm σ G vs zs as bs} l1 l2 a b=>by
  match vs,l1,zs,l2,a,b with
  | [v0],_,[],_,a,b=>exact jo.cons (a.at 0) (.nil)⟩
theorem zq {K:PySem.W.Frag} {fd:FuncData} (D:jG K JZ fd):∃ g,KBn K fd ["self","total"] 2 [] g (fun vs _=>vs):=
  jd D 2 [] (fun us _=>us) (fun vs _=>vs) (fun r1 _=>r1) (fun _ _ _ _ _ _ us ws h1 h2=>match us,h1,ws,h2 with | [u0,u1],_,[],_=>rfl)
theorem jbH {K:PySem.W.Frag} {fd:FuncData} (D:jG K Jz fd):∃ g,KBn K fd ["self","taken"] 2 [] g (fun vs zs=>[vs.getD 0 .non,vs.getD 1 .non]):=
  jd D 2 [] (fun us ws=>[us.getD 0 .none,us.getD 1 .none]) (fun vs zs=>[vs.getD 0 .non,vs.getD 1 .non]) (fun r1 r2=> .cons (Vals.at r1 0) (.cons (Vals.at r1 1) (.nil))) (fun _ _ _ _ _ _ us ws h1 h2=>match us,h1,ws,h2 with | [u0,u1],_,[],_=>rfl)
theorem Wf {K:PySem.W.Frag}:Arr K 1 0 (fun vs zs=>[vs.getD 0 .non]) (fun as bs=>[as.getD 0 (.dat .non)]):=⟨fun {cm σ G vs zs as bs} l1 l2 a b=>by
  match vs,l1,zs,l2,a,b with
  | [v0],_,[],_,a,b=>exact jo.cons (a.at 0) (.nil)⟩
theorem yw {K:PySem.W.Frag} {fd:FuncData} (D:jG K Jz fd):∃ g,KBn K fd ["self","taken"] 2 [] g (fun vs _=>vs):=
  jd D 2 [] (fun us _=>us) (fun vs _=>vs) (fun r1 _=>r1) (fun _ _ _ _ _ _ us ws h1 h2=>match us,h1,ws,h2 with | [u0,u1],_,[],_=>rfl)
theorem jae {K:PySem.W.Frag} {fd:FuncData} (D:jG K Ji fd):∃ g,KBn K fd ["self","value"] 2 [] g (fun vs zs=>[vs.getD 0 .non,vs.getD 1 .non]):=
  jd D 2 [] (fun us ws=>[us.getD 0 .none,us.getD 1 .none]) (fun vs zs=>[vs.getD 0 .non,vs.getD 1 .non]) (fun r1 r2=> .cons (Vals.at r1 0) (.cons (Vals.at r1 1) (.nil))) (fun _ _ _ _ _ _ us ws h1 h2=>match us,h1,ws,h2 with | [u0,u1],_,[],_=>rfl)
theorem Vm {K:PySem.W.Frag}:Arr K 1 0 (fun vs zs=>[vs.getD 0 .non]) (fun as bs=>[as.getD 0 (.dat .non)]):=⟨fun {cm σ G vs zs as bs} l1 l2 a b=>by
  match vs,l1,zs,l2,a,b with
  | [v0],_,[],_,a,b=>exact jo.cons (a.at 0) (.nil)⟩
theorem wM {K:PySem.W.Frag} {fd:FuncData} (D:jG K Ji fd):∃ g,KBn K fd ["self","value"] 2 [] g (fun vs _=>vs):=
  jd D 2 [] (fun us _=>us) (fun vs _=>vs) (fun r1 _=>r1) (fun _ _ _ _ _ _ us ws h1 h2=>match us,h1,ws,h2 with | [u0,u1],_,[],_=>rfl)
theorem VV {K:PySem.W.Frag} {fd:FuncData} (D:jG K jR fd):∃ g,KBn K fd ["self","value"] 2 [] g (fun vs zs=>[vs.getD 0 .non,vs.getD 1 .non]):=
  jd D 2 [] (fun us ws=>[us.getD 0 .none,us.getD 1 .none]) (fun vs zs=>[vs.getD 0 .non,vs.getD 1 .non]) (fun r1 r2=> .cons (Vals.at r1 0) (.cons (Vals.at r1 1) (.nil))) (fun _ _ _ _ _ _ us ws h1 h2=>match us,h1,ws,h2 with | [u0,u1],_,[],_=>rfl)
theorem YE {K:PySem.W.Frag}:Arr K 1 0 (fun vs zs=>[vs.getD 0 .non]) (fun as bs=>[as.getD 0 (.dat .non)]):=⟨fun {cm σ G vs zs as bs} l1 l2 a b=>by
  match vs,l1,zs,l2,a,b with
  | [v0],_,[],_,a,b=>exact jo.cons (a.at 0) (.nil)⟩
theorem wx {K:PySem.W.Frag} {fd:FuncData} (D:jG K jR fd):∃ g,KBn K fd ["self","value"] 2 [] g (fun vs _=>vs):=
  jd D 2 [] (fun us _=>us) (fun vs _=>vs) (fun r1 _=>r1) (fun _ _ _ _ _ _ us ws h1 h2=>match us,h1,ws,h2 with | [u0,u1],_,[],_=>rfl)
theorem Vg {K:PySem.W.Frag} {fd:FuncData} (D:jG K jK fd):∃ g,KBn K fd ["self","value"] 2 [] g (fun vs zs=>[vs.getD 0 .non,vs.getD 1 .non]):=
  jd D 2 [] (fun us ws=>[us.getD 0 .none,us.getD 1 .none]) (fun vs zs=>[vs.getD 0 .non,vs.getD 1 .non]) (fun r1 r2=> .cons (Vals.at r1 0) (.cons (Vals.at r1 1) (.nil))) (fun _ _ _ _ _ _ us ws h1 h2=>match us,h1,ws,h2 with | [u0,u1],_,[],_=>rfl)
theorem Yp {K:PySem.W.Frag}:Arr K 1 0 (fun vs zs=>[vs.getD 0 .non]) (fun as bs=>[as.getD 0 (.dat .non)]):=⟨fun {cm σ G vs zs as bs} l1 l2 a b=>by
  match vs,l1,zs,l2,a,b with
  | [v0],_,[],_,a,b=>exact jo.cons (a.at 0) (.nil)⟩
theorem wi {K:PySem.W.Frag} {fd:FuncData} (D:jG K jK fd):∃ g,KBn K fd ["self","value"] 2 [] g (fun vs _=>vs):=
  jd D 2 [] (fun us _=>us) (fun vs _=>vs) (fun r1 _=>r1) (fun _ _ _ _ _ _ us ws h1 h2=>match us,h1,ws,h2 with | [u0,u1],_,[],_=>rfl)
theorem jb8 {K:PySem.W.Frag} {fd:FuncData} (D:jG K J0 fd):∃ g,KBn K fd ["self","limit"] 2 [] g (fun vs zs=>[vs.getD 0 .non,vs.getD 1 .non]):=
  jd D 2 [] (fun us ws=>[us.getD 0 .none,us.getD 1 .none]) (fun vs zs=>[vs.getD 0 .non,vs.getD 1 .non]) (fun r1 r2=> .cons (Vals.at r1 0) (.cons (Vals.at r1 1) (.nil))) (fun _ _ _ _ _ _ us ws h1 h2=>match us,h1,ws,h2 with | [u0,u1],_,[],_=>rfl)
theorem jaf {K:PySem.W.Frag}:Arr K 1 0 (fun vs zs=>[vs.getD 0 .non]) (fun as bs=>[as.getD 0 (.dat .non)]):=⟨fun {cm σ G vs zs as bs} l1 l2 a b=>by
  match vs,l1,zs,l2,a,b with
  | [v0],_,[],_,a,b=>exact jo.cons (a.at 0) (.nil)⟩
theorem zG {K:PySem.W.Frag} {fd:FuncData} (D:jG K J0 fd):∃ g,KBn K fd ["self","limit"] 2 [] g (fun vs _=>vs):=
  jd D 2 [] (fun us _=>us) (fun vs _=>vs) (fun r1 _=>r1) (fun _ _ _ _ _ _ us ws h1 h2=>match us,h1,ws,h2 with | [u0,u1],_,[],_=>rfl)
theorem jch {K:PySem.W.Frag} {fd:FuncData} (D:jG K J5 fd):∃ g,KBn K fd ["self","value"] 2 [] g (fun vs zs=>[vs.getD 0 .non,vs.getD 1 .non]):=
  jd D 2 [] (fun us ws=>[us.getD 0 .none,us.getD 1 .none]) (fun vs zs=>[vs.getD 0 .non,vs.getD 1 .non]) (fun r1 r2=> .cons (Vals.at r1 0) (.cons (Vals.at r1 1) (.nil))) (fun _ _ _ _ _ _ us ws h1 h2=>match us,h1,ws,h2 with | [u0,u1],_,[],_=>rfl)
theorem jak {K:PySem.W.Frag}:Arr K 1 0 (fun vs zs=>[vs.getD 0 .non]) (fun as bs=>[as.getD 0 (.dat .non)]):=⟨fun {cm σ G vs zs as bs} l1 l2 a b=>by
  match vs,l1,zs,l2,a,b with
  | [v0],_,[],_,a,b=>exact jo.cons (a.at 0) (.nil)⟩
theorem zn {K:PySem.W.Frag} {fd:FuncData} (D:jG K J5 fd):∃ g,KBn K fd ["self","value"] 2 [] g (fun vs _=>vs):=
  jd D 2 [] (fun us _=>us) (fun vs _=>vs) (fun r1 _=>r1) (fun _ _ _ _ _ _ us ws h1 h2=>match us,h1,ws,h2 with | [u0,u1],_,[],_=>rfl)
theorem jcs {K:PySem.W.Frag} {fd:FuncData} (D:jG K JX fd):∃ g,KBn K fd ["self","danger"] 2 [] g (fun vs zs=>[vs.getD 0 .non,vs.getD 1 .non]):=
  jd D 2 [] (fun us ws=>[us.getD 0 .none,us.getD 1 .none]) (fun vs zs=>[vs.getD 0 .non,vs.getD 1 .non]) (fun r1 r2=> .cons (Vals.at r1 0) (.cons (Vals.at r1 1) (.nil))) (fun _ _ _ _ _ _ us ws h1 h2=>match us,h1,ws,h2 with | [u0,u1],_,[],_=>rfl)
theorem jaV {K:PySem.W.Frag}:Arr K 1 0 (fun vs zs=>[vs.getD 0 .non]) (fun as bs=>[as.getD 0 (.dat .non)]):=⟨fun {cm σ G vs zs as bs} l1 l2 a b=>by
  match vs,l1,zs,l2,a,b with
  | [v0],_,[],_,a,b=>exact jo.cons (a.at 0) (.nil)⟩
theorem zA {K:PySem.W.Frag} {fd:FuncData} (D:jG K JX fd):∃ g,KBn K fd ["self","danger"] 2 [] g (fun vs _=>vs):=
  jd D 2 [] (fun us _=>us) (fun vs _=>vs) (fun r1 _=>r1) (fun _ _ _ _ _ _ us ws h1 h2=>match us,h1,ws,h2 with | [u0,u1],_,[],_=>rfl)
theorem jbX {K:PySem.W.Frag} {fd:FuncData} (D:jG K JN fd):∃ g,KBn K fd ["self","cases"] 2 [] g (fun vs zs=>[vs.getD 0 .non,vs.getD 1 .non]):=
  jd D 2 [] (fun us ws=>[us.getD 0 .none,us.getD 1 .none]) (fun vs zs=>[vs.getD 0 .non,vs.getD 1 .non]) (fun r1 r2=> .cons (Vals.at r1 0) (.cons (Vals.at r1 1) (.nil))) (fun _ _ _ _ _ _ us ws h1 h2=>match us,h1,ws,h2 with | [u0,u1],_,[],_=>rfl)
theorem jac {K:PySem.W.Frag}:Arr K 1 0 (fun vs zs=>[vs.getD 0 .non]) (fun as bs=>[as.getD 0 (.dat .non)]):=⟨fun {cm σ G vs zs as bs} l1 l2 a b=>by
  match vs,l1,zs,l2,a,b with
  | [v0],_,[],_,a,b=>exact jo.cons (a.at 0) (.nil)⟩
theorem yT {K:PySem.W.Frag} {fd:FuncData} (D:jG K JN fd):∃ g,KBn K fd ["self","cases"] 2 [] g (fun vs _=>vs):=
  jd D 2 [] (fun us _=>us) (fun vs _=>vs) (fun r1 _=>r1) (fun _ _ _ _ _ _ us ws h1 h2=>match us,h1,ws,h2 with | [u0,u1],_,[],_=>rfl)
theorem jb6 {K:PySem.W.Frag} {fd:FuncData} (D:jG K J3 fd):∃ g,KBn K fd ["self","refusal"] 2 [] g (fun vs zs=>[vs.getD 0 .non,vs.getD 1 .non]):=
  jd D 2 [] (fun us ws=>[us.getD 0 .none,us.getD 1 .none]) (fun vs zs=>[vs.getD 0 .non,vs.getD 1 .non]) (fun r1 r2=> .cons (Vals.at r1 0) (.cons (Vals.at r1 1) (.nil))) (fun _ _ _ _ _ _ us ws h1 h2=>match us,h1,ws,h2 with | [u0,u1],_,[],_=>rfl)
theorem jai {K:PySem.W.Frag}:Arr K 1 0 (fun vs zs=>[vs.getD 0 .non]) (fun as bs=>[as.getD 0 (.dat .non)]):=⟨fun {cm σ G vs zs as bs} l1 l2 a b=>by
  match vs,l1,zs,l2,a,b with
  | [v0],_,[],_,a,b=>exact jo.cons (a.at 0) (.nil)⟩
theorem zJ {K:PySem.W.Frag} {fd:FuncData} (D:jG K J3 fd):∃ g,KBn K fd ["self","refusal"] 2 [] g (fun vs _=>vs):=
  jd D 2 [] (fun us _=>us) (fun vs _=>vs) (fun r1 _=>r1) (fun _ _ _ _ _ _ us ws h1 h2=>match us,h1,ws,h2 with | [u0,u1],_,[],_=>rfl)
theorem jcf {K:PySem.W.Frag} {fd:FuncData} (D:jG K J4 fd):∃ g,KBn K fd ["self","limit"] 2 [] g (fun vs zs=>[vs.getD 0 .non,vs.getD 1 .non]):=
  jd D 2 [] (fun us ws=>[us.getD 0 .none,us.getD 1 .none]) (fun vs zs=>[vs.getD 0 .non,vs.getD 1 .non]) (fun r1 r2=> .cons (Vals.at r1 0) (.cons (Vals.at r1 1) (.nil))) (fun _ _ _ _ _ _ us ws h1 h2=>match us,h1,ws,h2 with | [u0,u1],_,[],_=>rfl)
theorem jaW {K:PySem.W.Frag}:Arr K 1 0 (fun vs zs=>[vs.getD 0 .non]) (fun as bs=>[as.getD 0 (.dat .non)]):=⟨fun {cm σ G vs zs as bs} l1 l2 a b=>by
  match vs,l1,zs,l2,a,b with
  | [v0],_,[],_,a,b=>exact jo.cons (a.at 0) (.nil)⟩
theorem zu {K:PySem.W.Frag} {fd:FuncData} (D:jG K J4 fd):∃ g,KBn K fd ["self","limit"] 2 [] g (fun vs _=>vs):=
  jd D 2 [] (fun us _=>us) (fun vs _=>vs) (fun r1 _=>r1) (fun _ _ _ _ _ _ us ws h1 h2=>match us,h1,ws,h2 with | [u0,u1],_,[],_=>rfl)
theorem jbw {K:PySem.W.Frag} {fd:FuncData} (D:jG K vl fd):∃ g,KBn K fd ["_law_thing_here"] 1 [] g (fun vs zs=>[vs.getD 0 .non]):=
  jd D 1 [] (fun us ws=>[us.getD 0 .none]) (fun vs zs=>[vs.getD 0 .non]) (fun r1 r2=> .cons (Vals.at r1 0) (.nil)) (fun _ _ _ _ _ _ us ws h1 h2=>match us,h1,ws,h2 with | [u0],_,[],_=>rfl)
theorem V4 {K:PySem.W.Frag}:Arr K 1 0 (fun vs zs=>[vs.getD 0 .non]) (fun as bs=>[as.getD 0 (.dat .non)]):=⟨fun {cm σ G vs zs as bs} l1 l2 a b=>by
  match vs,l1,zs,l2,a,b with
  | [v0],_,[],_,a,b=>exact jo.cons (a.at 0) (.nil)⟩
theorem Wk {K:PySem.W.Frag} {fd:FuncData} (D:jG K vl fd):∃ g,KBn K fd ["_law_thing_here"] 1 [] g (fun vs _=>vs):=
  jd D 1 [] (fun us _=>us) (fun vs _=>vs) (fun r1 _=>r1) (fun _ _ _ _ _ _ us ws h1 h2=>match us,h1,ws,h2 with | [u0],_,[],_=>rfl)
theorem jdT {K:PySem.W.Frag} {fd:FuncData} (D:jG K ja3 fd):∃ g,KBn K fd ["_law_e"] 1 [] g (fun vs zs=>[vs.getD 0 .non]):=
  jd D 1 [] (fun us ws=>[us.getD 0 .none]) (fun vs zs=>[vs.getD 0 .non]) (fun r1 r2=> .cons (Vals.at r1 0) (.nil)) (fun _ _ _ _ _ _ us ws h1 h2=>match us,h1,ws,h2 with | [u0],_,[],_=>rfl)
theorem jbK {K:PySem.W.Frag}:Arr K 1 0 (fun vs zs=>[vs.getD 0 .non]) (fun as bs=>[as.getD 0 (.dat .non)]):=⟨fun {cm σ G vs zs as bs} l1 l2 a b=>by
  match vs,l1,zs,l2,a,b with
  | [v0],_,[],_,a,b=>exact jo.cons (a.at 0) (.nil)⟩
theorem jen {K:PySem.W.Frag} {fd:FuncData} (D:jG K ja3 fd):∃ g,KBn K fd ["_law_e"] 1 [] g (fun vs _=>vs):=
  jd D 1 [] (fun us _=>us) (fun vs _=>vs) (fun r1 _=>r1) (fun _ _ _ _ _ _ us ws h1 h2=>match us,h1,ws,h2 with | [u0],_,[],_=>rfl)
theorem jgw {K:PySem.W.Frag} {fd:FuncData} (D:jG K ja4 fd):∃ g,KBn K fd ["_law_e"] 1 [] g (fun vs zs=>[vs.getD 0 .non]):=
  jd D 1 [] (fun us ws=>[us.getD 0 .none]) (fun vs zs=>[vs.getD 0 .non]) (fun r1 r2=> .cons (Vals.at r1 0) (.nil)) (fun _ _ _ _ _ _ us ws h1 h2=>match us,h1,ws,h2 with | [u0],_,[],_=>rfl)
theorem jeo {K:PySem.W.Frag}:Arr K 1 0 (fun vs zs=>[vs.getD 0 .non]) (fun as bs=>[as.getD 0 (.dat .non)]):=⟨fun {cm σ G vs zs as bs} l1 l2 a b=>by
  match vs,l1,zs,l2,a,b with
  | [v0],_,[],_,a,b=>exact jo.cons (a.at 0) (.nil)⟩
theorem jer {K:PySem.W.Frag} {fd:FuncData} (D:jG K ja4 fd):∃ g,KBn K fd ["_law_e"] 1 [] g (fun vs _=>vs):=
  jd D 1 [] (fun us _=>us) (fun vs _=>vs) (fun r1 _=>r1) (fun _ _ _ _ _ _ us ws h1 h2=>match us,h1,ws,h2 with | [u0],_,[],_=>rfl)
theorem jaN {K:PySem.W.Frag} {fd:FuncData} (D:jG K VS fd):∃ g,KBn K fd ["_law_e","_law_word"] 2 [] g (fun vs zs=>[vs.getD 0 .non,vs.getD 1 .non]):=
  jd D 2 [] (fun us ws=>[us.getD 0 .none,us.getD 1 .none]) (fun vs zs=>[vs.getD 0 .non,vs.getD 1 .non]) (fun r1 r2=> .cons (Vals.at r1 0) (.cons (Vals.at r1 1) (.nil))) (fun _ _ _ _ _ _ us ws h1 h2=>match us,h1,ws,h2 with | [u0,u1],_,[],_=>rfl)
theorem YA {K:PySem.W.Frag}:Arr K 2 0 (fun vs zs=>[vs.getD 0 .non,vs.getD 1 .non]) (fun as bs=>[as.getD 0 (.dat .non),as.getD 1 (.dat .non)]):=⟨fun {cm σ G vs zs as bs} l1 l2 a b=>by
  match vs,l1,zs,l2,a,b with
  | [v0,v1],_,[],_,a,b=>exact jo.cons (a.at 0) (jo.cons (a.at 1) (.nil))⟩
theorem jd3 {K:PySem.W.Frag} {fd:FuncData} (D:jG K VS fd):∃ g,KBn K fd ["_law_e","_law_word"] 2 [] g (fun vs _=>vs):=
  jd D 2 [] (fun us _=>us) (fun vs _=>vs) (fun r1 _=>r1) (fun _ _ _ _ _ _ us ws h1 h2=>match us,h1,ws,h2 with | [u0,u1],_,[],_=>rfl)
theorem wf {K:PySem.W.Frag} {fd:FuncData} (D:jG K ze fd):∃ g,KBn K fd ["_law_e"] 1 [] g (fun vs zs=>[vs.getD 0 .non]):=
  jd D 1 [] (fun us ws=>[us.getD 0 .none]) (fun vs zs=>[vs.getD 0 .non]) (fun r1 r2=> .cons (Vals.at r1 0) (.nil)) (fun _ _ _ _ _ _ us ws h1 h2=>match us,h1,ws,h2 with | [u0],_,[],_=>rfl)
theorem vk {K:PySem.W.Frag}:Arr K 1 0 (fun vs zs=>[vs.getD 0 .non]) (fun as bs=>[as.getD 0 (.dat .non)]):=⟨fun {cm σ G vs zs as bs} l1 l2 a b=>by
  match vs,l1,zs,l2,a,b with
  | [v0],_,[],_,a,b=>exact jo.cons (a.at 0) (.nil)⟩
theorem jda {K:PySem.W.Frag} {fd:FuncData} (D:jG K ze fd):∃ g,KBn K fd ["_law_e"] 1 [] g (fun vs _=>vs):=
  jd D 1 [] (fun us _=>us) (fun vs _=>vs) (fun r1 _=>r1) (fun _ _ _ _ _ _ us ws h1 h2=>match us,h1,ws,h2 with | [u0],_,[],_=>rfl)
theorem Wl {K:PySem.W.Frag} {fd:FuncData} (D:jG K Jm fd):∃ g,KBn K fd ["self","problem","position"] 3 [] g (fun vs zs=>[vs.getD 0 .non,vs.getD 1 .non,vs.getD 2 .non]):=
  jd D 3 [] (fun us ws=>[us.getD 0 .none,us.getD 1 .none,us.getD 2 .none]) (fun vs zs=>[vs.getD 0 .non,vs.getD 1 .non,vs.getD 2 .non]) (fun r1 r2=> .cons (Vals.at r1 0) (.cons (Vals.at r1 1) (.cons (Vals.at r1 2) (.nil)))) (fun _ _ _ _ _ _ us ws h1 h2=>match us,h1,ws,h2 with | [u0,u1,u2],_,[],_=>rfl)
theorem Y5 {K:PySem.W.Frag}:Arr K 2 0 (fun vs zs=>[vs.getD 0 .non,vs.getD 1 .non]) (fun as bs=>[as.getD 0 (.dat .non),as.getD 1 (.dat .non)]):=⟨fun {cm σ G vs zs as bs} l1 l2 a b=>by
  match vs,l1,zs,l2,a,b with
  | [v0,v1],_,[],_,a,b=>exact jo.cons (a.at 0) (jo.cons (a.at 1) (.nil))⟩
theorem Y8 {K:PySem.W.Frag} {fd:FuncData} (D:jG K Jm fd):∃ g,KBn K fd ["self","problem","position"] 3 [] g (fun vs _=>vs):=
  jd D 3 [] (fun us _=>us) (fun vs _=>vs) (fun r1 _=>r1) (fun _ _ _ _ _ _ us ws h1 h2=>match us,h1,ws,h2 with | [u0,u1,u2],_,[],_=>rfl)
theorem wq {K:PySem.W.Frag} {fd:FuncData} (D:jG K Jm fd):∃ g,KBn K fd ["self","problem","position"] 1 ["problem","position"] g (fun vs zs=>[vs.getD 0 .non,zs.getD 0 .non,zs.getD 1 .non]):=
  jd D 1 ["problem","position"] (fun us ws=>[us.getD 0 .none,ws.getD 0 .none,ws.getD 1 .none]) (fun vs zs=>[vs.getD 0 .non,zs.getD 0 .non,zs.getD 1 .non]) (fun r1 r2=> .cons (Vals.at r1 0) (.cons (Vals.at r2 0) (.cons (Vals.at r2 1) (.nil)))) (fun _ _ _ _ _ _ us ws h1 h2=>match us,h1,ws,h2 with | [u0],_,[w0,w1],_=>rfl)
theorem v6 {K:PySem.W.Frag}:Arr K 0 2 (fun vs zs=>[zs.getD 0 .non,zs.getD 1 .non]) (fun as bs=>[bs.getD 0 (.dat .non),bs.getD 1 (.dat .non)]):=⟨fun {cm σ G vs zs as bs} l1 l2 a b=>by
  match vs,l1,zs,l2,a,b with
  | [],_,[z0,z1],_,a,b=>exact jo.cons (b.at 0) (jo.cons (b.at 1) (.nil))⟩
theorem Vs {K:PySem.W.Frag} {fd:FuncData} (D:jG K j9 fd):∃ g,KBn K fd ["self","problem","position"] 3 [] g (fun vs zs=>[vs.getD 0 .non,vs.getD 1 .non,vs.getD 2 .non]):=
  jd D 3 [] (fun us ws=>[us.getD 0 .none,us.getD 1 .none,us.getD 2 .none]) (fun vs zs=>[vs.getD 0 .non,vs.getD 1 .non,vs.getD 2 .non]) (fun r1 r2=> .cons (Vals.at r1 0) (.cons (Vals.at r1 1) (.cons (Vals.at r1 2) (.nil)))) (fun _ _ _ _ _ _ us ws h1 h2=>match us,h1,ws,h2 with | [u0,u1,u2],_,[],_=>rfl)
theorem Yv {K:PySem.W.Frag}:Arr K 2 0 (fun vs zs=>[vs.getD 0 .non,vs.getD 1 .non]) (fun as bs=>[as.getD 0 (.dat .non),as.getD 1 (.dat .non)]):=⟨fun {cm σ G vs zs as bs} l1 l2 a b=>by
  match vs,l1,zs,l2,a,b with
  | [v0,v1],_,[],_,a,b=>exact jo.cons (a.at 0) (jo.cons (a.at 1) (.nil))⟩
theorem Yr {K:PySem.W.Frag} {fd:FuncData} (D:jG K j9 fd):∃ g,KBn K fd ["self","problem","position"] 3 [] g (fun vs _=>vs):=
  jd D 3 [] (fun us _=>us) (fun vs _=>vs) (fun r1 _=>r1) (fun _ _ _ _ _ _ us ws h1 h2=>match us,h1,ws,h2 with | [u0,u1,u2],_,[],_=>rfl)
theorem wc {K:PySem.W.Frag} {fd:FuncData} (D:jG K j9 fd):∃ g,KBn K fd ["self","problem","position"] 1 ["problem","position"] g (fun vs zs=>[vs.getD 0 .non,zs.getD 0 .non,zs.getD 1 .non]):=
  jd D 1 ["problem","position"] (fun us ws=>[us.getD 0 .none,ws.getD 0 .none,ws.getD 1 .none]) (fun vs zs=>[vs.getD 0 .non,zs.getD 0 .non,zs.getD 1 .non]) (fun r1 r2=> .cons (Vals.at r1 0) (.cons (Vals.at r2 0) (.cons (Vals.at r2 1) (.nil)))) (fun _ _ _ _ _ _ us ws h1 h2=>match us,h1,ws,h2 with | [u0],_,[w0,w1],_=>rfl)
theorem vS {K:PySem.W.Frag}:Arr K 0 2 (fun vs zs=>[zs.getD 0 .non,zs.getD 1 .non]) (fun as bs=>[bs.getD 0 (.dat .non),bs.getD 1 (.dat .non)]):=⟨fun {cm σ G vs zs as bs} l1 l2 a b=>by
  match vs,l1,zs,l2,a,b with
  | [],_,[z0,z1],_,a,b=>exact jo.cons (b.at 0) (jo.cons (b.at 1) (.nil))⟩
theorem jcP {K:PySem.W.Frag} {fd:FuncData} (D:jG K vD fd):∃ g,KBn K fd ["self","source","target"] 3 [] g (fun vs zs=>[vs.getD 0 .non,vs.getD 1 .non,vs.getD 2 .non]):=
  jd D 3 [] (fun us ws=>[us.getD 0 .none,us.getD 1 .none,us.getD 2 .none]) (fun vs zs=>[vs.getD 0 .non,vs.getD 1 .non,vs.getD 2 .non]) (fun r1 r2=> .cons (Vals.at r1 0) (.cons (Vals.at r1 1) (.cons (Vals.at r1 2) (.nil)))) (fun _ _ _ _ _ _ us ws h1 h2=>match us,h1,ws,h2 with | [u0,u1,u2],_,[],_=>rfl)
theorem jbx {K:PySem.W.Frag}:Arr K 2 0 (fun vs zs=>[vs.getD 0 .non,vs.getD 1 .non]) (fun as bs=>[as.getD 0 (.dat .non),as.getD 1 (.dat .non)]):=⟨fun {cm σ G vs zs as bs} l1 l2 a b=>by
  match vs,l1,zs,l2,a,b with
  | [v0,v1],_,[],_,a,b=>exact jo.cons (a.at 0) (jo.cons (a.at 1) (.nil))⟩
theorem jby {K:PySem.W.Frag} {fd:FuncData} (D:jG K vD fd):∃ g,KBn K fd ["self","source","target"] 3 [] g (fun vs _=>vs):=
  jd D 3 [] (fun us _=>us) (fun vs _=>vs) (fun r1 _=>r1) (fun _ _ _ _ _ _ us ws h1 h2=>match us,h1,ws,h2 with | [u0,u1,u2],_,[],_=>rfl)
theorem yY {K:PySem.W.Frag} {fd:FuncData} (D:jG K vD fd):∃ g,KBn K fd ["self","source","target"] 1 ["source","target"] g (fun vs zs=>[vs.getD 0 .non,zs.getD 0 .non,zs.getD 1 .non]):=
  jd D 1 ["source","target"] (fun us ws=>[us.getD 0 .none,ws.getD 0 .none,ws.getD 1 .none]) (fun vs zs=>[vs.getD 0 .non,zs.getD 0 .non,zs.getD 1 .non]) (fun r1 r2=> .cons (Vals.at r1 0) (.cons (Vals.at r2 0) (.cons (Vals.at r2 1) (.nil)))) (fun _ _ _ _ _ _ us ws h1 h2=>match us,h1,ws,h2 with | [u0],_,[w0,w1],_=>rfl)
theorem yh {K:PySem.W.Frag}:Arr K 0 2 (fun vs zs=>[zs.getD 0 .non,zs.getD 1 .non]) (fun as bs=>[bs.getD 0 (.dat .non),bs.getD 1 (.dat .non)]):=⟨fun {cm σ G vs zs as bs} l1 l2 a b=>by
  match vs,l1,zs,l2,a,b with
  | [],_,[z0,z1],_,a,b=>exact jo.cons (b.at 0) (jo.cons (b.at 1) (.nil))⟩
theorem jce {K:PySem.W.Frag} {fd:FuncData} (D:jG K vp fd):∃ g,KBn K fd ["self","first","second"] 3 [] g (fun vs zs=>[vs.getD 0 .non,vs.getD 1 .non,vs.getD 2 .non]):=
  jd D 3 [] (fun us ws=>[us.getD 0 .none,us.getD 1 .none,us.getD 2 .none]) (fun vs zs=>[vs.getD 0 .non,vs.getD 1 .non,vs.getD 2 .non]) (fun r1 r2=> .cons (Vals.at r1 0) (.cons (Vals.at r1 1) (.cons (Vals.at r1 2) (.nil)))) (fun _ _ _ _ _ _ us ws h1 h2=>match us,h1,ws,h2 with | [u0,u1,u2],_,[],_=>rfl)
theorem ja2 {K:PySem.W.Frag}:Arr K 2 0 (fun vs zs=>[vs.getD 0 .non,vs.getD 1 .non]) (fun as bs=>[as.getD 0 (.dat .non),as.getD 1 (.dat .non)]):=⟨fun {cm σ G vs zs as bs} l1 l2 a b=>by
  match vs,l1,zs,l2,a,b with
  | [v0,v1],_,[],_,a,b=>exact jo.cons (a.at 0) (jo.cons (a.at 1) (.nil))⟩
theorem jah {K:PySem.W.Frag} {fd:FuncData} (D:jG K vp fd):∃ g,KBn K fd ["self","first","second"] 3 [] g (fun vs _=>vs):=
  jd D 3 [] (fun us _=>us) (fun vs _=>vs) (fun r1 _=>r1) (fun _ _ _ _ _ _ us ws h1 h2=>match us,h1,ws,h2 with | [u0,u1,u2],_,[],_=>rfl)
theorem zi {K:PySem.W.Frag} {fd:FuncData} (D:jG K vp fd):∃ g,KBn K fd ["self","first","second"] 1 ["first","second"] g (fun vs zs=>[vs.getD 0 .non,zs.getD 0 .non,zs.getD 1 .non]):=
  jd D 1 ["first","second"] (fun us ws=>[us.getD 0 .none,ws.getD 0 .none,ws.getD 1 .none]) (fun vs zs=>[vs.getD 0 .non,zs.getD 0 .non,zs.getD 1 .non]) (fun r1 r2=> .cons (Vals.at r1 0) (.cons (Vals.at r2 0) (.cons (Vals.at r2 1) (.nil)))) (fun _ _ _ _ _ _ us ws h1 h2=>match us,h1,ws,h2 with | [u0],_,[w0,w1],_=>rfl)
theorem yj {K:PySem.W.Frag}:Arr K 0 2 (fun vs zs=>[zs.getD 0 .non,zs.getD 1 .non]) (fun as bs=>[bs.getD 0 (.dat .non),bs.getD 1 (.dat .non)]):=⟨fun {cm σ G vs zs as bs} l1 l2 a b=>by
  match vs,l1,zs,l2,a,b with
  | [],_,[z0,z1],_,a,b=>exact jo.cons (b.at 0) (jo.cons (b.at 1) (.nil))⟩
theorem jbA {K:PySem.W.Frag} {fd:FuncData} (D:jG K JO fd):∃ g,KBn K fd ["self","position","results"] 3 [] g (fun vs zs=>[vs.getD 0 .non,vs.getD 1 .non,vs.getD 2 .non]):=
  jd D 3 [] (fun us ws=>[us.getD 0 .none,us.getD 1 .none,us.getD 2 .none]) (fun vs zs=>[vs.getD 0 .non,vs.getD 1 .non,vs.getD 2 .non]) (fun r1 r2=> .cons (Vals.at r1 0) (.cons (Vals.at r1 1) (.cons (Vals.at r1 2) (.nil)))) (fun _ _ _ _ _ _ us ws h1 h2=>match us,h1,ws,h2 with | [u0,u1,u2],_,[],_=>rfl)
theorem Wt {K:PySem.W.Frag}:Arr K 2 0 (fun vs zs=>[vs.getD 0 .non,vs.getD 1 .non]) (fun as bs=>[as.getD 0 (.dat .non),as.getD 1 (.dat .non)]):=⟨fun {cm σ G vs zs as bs} l1 l2 a b=>by
  match vs,l1,zs,l2,a,b with
  | [v0,v1],_,[],_,a,b=>exact jo.cons (a.at 0) (jo.cons (a.at 1) (.nil))⟩
theorem Ws {K:PySem.W.Frag} {fd:FuncData} (D:jG K JO fd):∃ g,KBn K fd ["self","position","results"] 3 [] g (fun vs _=>vs):=
  jd D 3 [] (fun us _=>us) (fun vs _=>vs) (fun r1 _=>r1) (fun _ _ _ _ _ _ us ws h1 h2=>match us,h1,ws,h2 with | [u0,u1,u2],_,[],_=>rfl)
theorem wH {K:PySem.W.Frag} {fd:FuncData} (D:jG K JO fd):∃ g,KBn K fd ["self","position","results"] 1 ["position","results"] g (fun vs zs=>[vs.getD 0 .non,zs.getD 0 .non,zs.getD 1 .non]):=
  jd D 1 ["position","results"] (fun us ws=>[us.getD 0 .none,ws.getD 0 .none,ws.getD 1 .none]) (fun vs zs=>[vs.getD 0 .non,zs.getD 0 .non,zs.getD 1 .non]) (fun r1 r2=> .cons (Vals.at r1 0) (.cons (Vals.at r2 0) (.cons (Vals.at r2 1) (.nil)))) (fun _ _ _ _ _ _ us ws h1 h2=>match us,h1,ws,h2 with | [u0],_,[w0,w1],_=>rfl)
theorem wp {K:PySem.W.Frag}:Arr K 0 2 (fun vs zs=>[zs.getD 0 .non,zs.getD 1 .non]) (fun as bs=>[bs.getD 0 (.dat .non),bs.getD 1 (.dat .non)]):=⟨fun {cm σ G vs zs as bs} l1 l2 a b=>by
  match vs,l1,zs,l2,a,b with
  | [],_,[z0,z1],_,a,b=>exact jo.cons (b.at 0) (jo.cons (b.at 1) (.nil))⟩
theorem jb0 {K:PySem.W.Frag} {fd:FuncData} (D:jG K J9 fd):∃ g,KBn K fd ["self","at_station","window"] 3 [] g (fun vs zs=>[vs.getD 0 .non,vs.getD 1 .non,vs.getD 2 .non]):=
  jd D 3 [] (fun us ws=>[us.getD 0 .none,us.getD 1 .none,us.getD 2 .none]) (fun vs zs=>[vs.getD 0 .non,vs.getD 1 .non,vs.getD 2 .non]) (fun r1 r2=> .cons (Vals.at r1 0) (.cons (Vals.at r1 1) (.cons (Vals.at r1 2) (.nil)))) (fun _ _ _ _ _ _ us ws h1 h2=>match us,h1,ws,h2 with | [u0,u1,u2],_,[],_=>rfl)
theorem W6 {K:PySem.W.Frag}:Arr K 2 0 (fun vs zs=>[vs.getD 0 .non,vs.getD 1 .non]) (fun as bs=>[as.getD 0 (.dat .non),as.getD 1 (.dat .non)]):=⟨fun {cm σ G vs zs as bs} l1 l2 a b=>by
  match vs,l1,zs,l2,a,b with
  | [v0,v1],_,[],_,a,b=>exact jo.cons (a.at 0) (jo.cons (a.at 1) (.nil))⟩
theorem WT {K:PySem.W.Frag} {fd:FuncData} (D:jG K J9 fd):∃ g,KBn K fd ["self","at_station","window"] 3 [] g (fun vs _=>vs):=
  jd D 3 [] (fun us _=>us) (fun vs _=>vs) (fun r1 _=>r1) (fun _ _ _ _ _ _ us ws h1 h2=>match us,h1,ws,h2 with | [u0,u1,u2],_,[],_=>rfl)
theorem wJ {K:PySem.W.Frag} {fd:FuncData} (D:jG K J9 fd):∃ g,KBn K fd ["self","at_station","window"] 1 ["at_station","window"] g (fun vs zs=>[vs.getD 0 .non,zs.getD 0 .non,zs.getD 1 .non]):=
  jd D 1 ["at_station","window"] (fun us ws=>[us.getD 0 .none,ws.getD 0 .none,ws.getD 1 .none]) (fun vs zs=>[vs.getD 0 .non,zs.getD 0 .non,zs.getD 1 .non]) (fun r1 r2=> .cons (Vals.at r1 0) (.cons (Vals.at r2 0) (.cons (Vals.at r2 1) (.nil)))) (fun _ _ _ _ _ _ us ws h1 h2=>match us,h1,ws,h2 with | [u0],_,[w0,w1],_=>rfl)
theorem wn {K:PySem.W.Frag}:Arr K 0 2 (fun vs zs=>[zs.getD 0 .non,zs.getD 1 .non]) (fun as bs=>[bs.getD 0 (.dat .non),bs.getD 1 (.dat .non)]):=⟨fun {cm σ G vs zs as bs} l1 l2 a b=>by
  match vs,l1,zs,l2,a,b with
  | [],_,[z0,z1],_,a,b=>exact jo.cons (b.at 0) (jo.cons (b.at 1) (.nil))⟩
theorem jgn {K:PySem.W.Frag} {fd:FuncData} (D:jG K jba fd):∃ g,KBn K fd ["_law_one","_law_other"] 2 [] g (fun vs zs=>[vs.getD 0 .non,vs.getD 1 .non]):=
  jd D 2 [] (fun us ws=>[us.getD 0 .none,us.getD 1 .none]) (fun vs zs=>[vs.getD 0 .non,vs.getD 1 .non]) (fun r1 r2=> .cons (Vals.at r1 0) (.cons (Vals.at r1 1) (.nil))) (fun _ _ _ _ _ _ us ws h1 h2=>match us,h1,ws,h2 with | [u0,u1],_,[],_=>rfl)
theorem jei {K:PySem.W.Frag}:Arr K 2 0 (fun vs zs=>[vs.getD 0 .non,vs.getD 1 .non]) (fun as bs=>[as.getD 0 (.dat .non),as.getD 1 (.dat .non)]):=⟨fun {cm σ G vs zs as bs} l1 l2 a b=>by
  match vs,l1,zs,l2,a,b with
  | [v0,v1],_,[],_,a,b=>exact jo.cons (a.at 0) (jo.cons (a.at 1) (.nil))⟩
theorem jem {K:PySem.W.Frag} {fd:FuncData} (D:jG K jba fd):∃ g,KBn K fd ["_law_one","_law_other"] 2 [] g (fun vs _=>vs):=
  jd D 2 [] (fun us _=>us) (fun vs _=>vs) (fun r1 _=>r1) (fun _ _ _ _ _ _ us ws h1 h2=>match us,h1,ws,h2 with | [u0,u1],_,[],_=>rfl)
theorem jav {K:PySem.W.Frag} {fd:FuncData} (D:jG K VM fd):∃ g,KBn K fd ["_law_e"] 1 [] g (fun vs zs=>[vs.getD 0 .non]):=
  jd D 1 [] (fun us ws=>[us.getD 0 .none]) (fun vs zs=>[vs.getD 0 .non]) (fun r1 r2=> .cons (Vals.at r1 0) (.nil)) (fun _ _ _ _ _ _ us ws h1 h2=>match us,h1,ws,h2 with | [u0],_,[],_=>rfl)
theorem Yz {K:PySem.W.Frag}:Arr K 1 0 (fun vs zs=>[vs.getD 0 .non]) (fun as bs=>[as.getD 0 (.dat .non)]):=⟨fun {cm σ G vs zs as bs} l1 l2 a b=>by
  match vs,l1,zs,l2,a,b with
  | [v0],_,[],_,a,b=>exact jo.cons (a.at 0) (.nil)⟩
theorem jdU {K:PySem.W.Frag} {fd:FuncData} (D:jG K VM fd):∃ g,KBn K fd ["_law_e"] 1 [] g (fun vs _=>vs):=
  jd D 1 [] (fun us _=>us) (fun vs _=>vs) (fun r1 _=>r1) (fun _ _ _ _ _ _ us ws h1 h2=>match us,h1,ws,h2 with | [u0],_,[],_=>rfl)
theorem jfj {K:PySem.W.Frag} {fd:FuncData} (D:jG K jef fd):∃ g,KBn K fd ["_law_script","_law_k"] 2 [] g (fun vs _=>vs):=
  jd D 2 [] (fun us _=>us) (fun vs _=>vs) (fun r1 _=>r1) (fun _ _ _ _ _ _ us ws h1 h2=>match us,h1,ws,h2 with | [u0,u1],_,[],_=>rfl)
theorem jeg {K:PySem.W.Frag} {fd:FuncData} (D:jG K jag fd):∃ g,KBn K fd ["_law_rng_here"] 1 [] g (fun vs _=>vs):=
  jd D 1 [] (fun us _=>us) (fun vs _=>vs) (fun r1 _=>r1) (fun _ _ _ _ _ _ us ws h1 h2=>match us,h1,ws,h2 with | [u0],_,[],_=>rfl)
theorem jfW:FnScope ["_law_rng_here","_law_many","_law_digit"] ["_law_rng_here","_law_many"] (defScope jg7):=⟨rfl,rfl,rfl,by decide +kernel,rfl,by decide +kernel,by decide +kernel⟩
def jfn:MS:=
    Jo (V8 (jE (m2 gtD (jkc 0 (mC (.int 0))) (mC (.int 0)))) (Jo (Vb (JF jfs (je (jkc 0 (mC (.int 0))) (je (jh 1) (jY)))) (jgi 2 (gCs (gIx 0 (mC (.int 0))) (gCs (gNm 2) (gNl)))))
    (YY (jh 2))) (we))
    (Jo (Vb (m2 jlt (JF jko (je (m2 Vu (m2 ji1 (jkc 0 (mC (.int 1))) (mC (.int 48311))) (mC (.int 20011))) (jY))) (mC (.int 2147483563))) (gIx 0 (mC (.int 1))))
    (YY (m2 jlt (m2 jl4 (m2 jlt (JF jko (je (m2 ji1 (jkc 0 (mC (.int 1))) (jkc 0 (mC (.int 1)))) (jY))) (mC (.int 2147483497))) (mC (.int 17))) (jh 1))))
def ja6:List FA→RF:=wj 2 3 jfn
theorem jjm {P:Program} {w:World} {K:PySem.W.Frag} {mg:Str→Option Value} {base:Heap} (c:Kn fa fn K mg) {fd:FuncData} (D:jG K ja7 fd):FnG P w K mg base (L2.CX P w) 1 (ja7.ad.a K) fd ["_law_rng_here","_law_many"] (spF ⟨He.ga K,none,[]⟩ K ja6):=by
  exact WH D jfW rfl rfl fun cdv A outer s H E hr hg=>
    jl (V3 (jdl joy (jfZ (pv 0) (JE) (fun _ _=>rfl)) (JE) (nomark _)) (jl (jj7 (vc jjw (by rfl) (c.free 4) (by decide +kernel) (ja (jfZ (pv 0) (JE) (fun _ _=>rfl)) (ja (jb (pv 1)) (ji)))) (jfy rfl (Yk (jmt (pv 0) (JE)) (Yk (jb2 (pg_name (i:=2) jfW.nd rfl (by first | exact .inl rfl | exact .inr rfl))) (jfk)))))
    (va (vq (jb (pv 2))))) (yx))
    (jl (jj7 (vn jir (jaQ jiy (by rfl) (c.free 5) (by decide +kernel) (ja (vn wZ (vn jip (jfZ (pv 0) (JE) (fun _ _=>rfl)) (JE)) (JE)) (ji))) (JE)) (jmt (pv 0) (JE)))
    (va (vq (vn jir (vn jlC (vn jir (jaQ jiy (by rfl) (c.free 5) (by decide +kernel) (ja (vn jip (jfZ (pv 0) (JE) (fun _ _=>rfl)) (jfZ (pv 0) (JE) (fun _ _=>rfl))) (ji))) (JE)) (JE)) (jb (pv 1))))))
theorem jeD:FnScope ["_law_rng_here","_law_some"] ["_law_rng_here"] (defScope jfB):=⟨rfl,rfl,rfl,by decide +kernel,rfl,by decide +kernel,by decide +kernel⟩
def jf8:MS:=
    Jo (Vb (zk (je (mC (.int 0)) (je (mC (.int 1)) (je (m1 jnY (mC (.int 1))) (je (m2 jls (mC (.int 10)) (mC (.int 17))) (je (mC (.bl true)) (je (mC (.bl false)) (je (mC .non) (je (mC (.str "")) (je (mC (.str "a")) (je (mC (.str "2,2/2/1")) (je (zk (jY)) (je (zk (je (mC (.int 1)) (je (mC (.int 2)) (jY)))) (je (YX (jY)) (je (YX (je (mC (.int 0)) (je (mC (.int 3)) (jY)))) (je (mC (.dic [])) (je (jhq [("a",YX (je (mC (.int 1)) (je (zk (je (mC (.int 0)) (jY))) (jY))))]) (jY)))))))))))))))))) (gNm 1))
    (YY (m2 ixD (jh 1) (jA ja6 2 0 (fun as bs=>[as.getD 0 (.dat .non),as.getD 1 (.dat .non)]) (jfN 0 (jQ (mC (.int 16)) (jn))) jn)))
def jcp:List FA→RF:=wj 1 2 jf8
theorem jhS {P:Program} {w:World} {K:PySem.W.Frag} {mg:Str→Option Value} {base:Heap} (c:Kn fa fn K mg) {fd:FuncData} (D:jG K Vv fd):FnG P w K mg base (L2.CX P w) 2 (Vv.ad.a K) fd ["_law_rng_here"] (spF ⟨He.ga K,none,[]⟩ K jcp):=by
  obtain ⟨fd_l_draw,D_l_draw⟩:=c.def_ 0 (d:=ja7)
  have O_l_draw:=jjm (P:=P) (w:=w) (base:=base) c D_l_draw
  have B2_l_draw:=jeq D_l_draw
  exact WH D jeD rfl rfl fun cdv A outer s H E hr hg=>
    jl (vf (i:=1) jeD.nd rfl (by first | exact .inl rfl | exact .inr rfl) (Jb (ja (JE) (ja (JE) (ja (jnp jns (JE)) (ja (vn jk0 (JE) (JE)) (ja (jhv) (ja (jhv) (ja (jmE) (ja (jk) (ja (jk) (ja (jk) (ja (Jb (ji)) (ja (Jb (ja (JE) (ja (JE) (ji)))) (ja (Jt (ji)) (ja (Jt (ja (JE) (ja (JE) (ji)))) (ja (jks) (ja (jix (jaI (Jt (ja (JE) (ja (Jb (ja (JE) (ji))) (ji)))) (jgC)) rfl rfl (by simp) (by decide)) (ji)))))))))))))))))))
    (va (vq (jl3 jnI (jb (pv 1)) (JV O_l_draw (hr.mono (by decide)) hg (takes_of rfl rfl rfl rfl) (by rfl) (c.glo 6) D_l_draw.kp (jgc D_l_draw) jek (jgq (pv 0) (jB (JE) (jJ)))) (fun _ _=>rfl))))
theorem WZ:FnScope ["self","value"] ["self","value"] (defScope zv):=⟨rfl,rfl,rfl,by decide +kernel,rfl,by decide +kernel,by decide +kernel⟩
def WY:ME:=vH [mC (.str "invalid length: "),m1 Ju (jh 1)]
def Jw:List Dat→Option (List (Str×Dat)):=Y9 1 WY [("value",1)]
theorem yW {P:Program} {w:World} {K:PySem.W.Frag} {mg:Str→Option Value} {base:Heap} (c:Kn fa fn K mg) {fd:FuncData} (D:jG K jV fd):FnG P w K mg base (L2.CX P w) 1 (jV.ad.a K) fd ["self","value"] (spX ⟨He.ga K,none,[]⟩ K (He.ga K "InvalidLength") Jw):=by
  exact yc D WZ rfl (c.oex 8) (by simp) (by decide) (aa1 ⟨c.nof 11,by decide,by decide⟩ aa0) fun cdv A outer s H E hr hg=>
    pss_cons (ps_expr (J7 (by rfl) (c.glo 10) (c.xbs 9).1 (c.xbs 9).2.1 (c.xbs 9).2.2 (pa_cons (pv 0) (pa_cons (Je (jj (jk) (jj (jz hg hr.units (jb (pv 1))) (JY)))) pa_nil)))) (pss_one (ps_ost (pv 0) (pv 1)))
theorem jaj:FnScope ["self","position"] ["self","position"] (defScope Yf):=⟨rfl,rfl,rfl,by decide +kernel,rfl,by decide +kernel,by decide +kernel⟩
def jaC:ME:=vH [mC (.str "invalid piece: "),m1 Ju (jh 1)]
def JM:List Dat→Option (List (Str×Dat)):=Y9 1 jaC [("position",1)]
theorem zo {P:Program} {w:World} {K:PySem.W.Frag} {mg:Str→Option Value} {base:Heap} (c:Kn fa fn K mg) {fd:FuncData} (D:jG K j7 fd):FnG P w K mg base (L2.CX P w) 1 (j7.ad.a K) fd ["self","position"] (spX ⟨He.ga K,none,[]⟩ K (He.ga K "InvalidPiece") JM):=by
  exact yc D jaj rfl (c.oex 14) (by simp) (by decide) (aa1 ⟨c.nof 15,by decide,by decide⟩ aa0) fun cdv A outer s H E hr hg=>
    pss_cons (ps_expr (J7 (by rfl) (c.glo 10) (c.xbs 9).1 (c.xbs 9).2.1 (c.xbs 9).2.2 (pa_cons (pv 0) (pa_cons (Je (jj (jk) (jj (jz hg hr.units (jb (pv 1))) (JY)))) pa_nil)))) (pss_one (ps_ost (pv 0) (pv 1)))
theorem jab:FnScope ["self","position"] ["self","position"] (defScope zH):=⟨rfl,rfl,rfl,by decide +kernel,rfl,by decide +kernel,by decide +kernel⟩
def WV:ME:=vH [mC (.str "invalid record: "),m1 Ju (jh 1)]
def JB:List Dat→Option (List (Str×Dat)):=Y9 1 WV [("position",1)]
theorem yN {P:Program} {w:World} {K:PySem.W.Frag} {mg:Str→Option Value} {base:Heap} (c:Kn fa fn K mg) {fd:FuncData} (D:jG K jW fd):FnG P w K mg base (L2.CX P w) 1 (jW.ad.a K) fd ["self","position"] (spX ⟨He.ga K,none,[]⟩ K (He.ga K "InvalidRecord") JB):=by
  exact yc D jab rfl (c.oex 18) (by simp) (by decide) (aa1 ⟨c.nof 19,by decide,by decide⟩ aa0) fun cdv A outer s H E hr hg=>
    pss_cons (ps_expr (J7 (by rfl) (c.glo 10) (c.xbs 9).1 (c.xbs 9).2.1 (c.xbs 9).2.2 (pa_cons (pv 0) (pa_cons (Je (jj (jk) (jj (jz hg hr.units (jb (pv 1))) (JY)))) pa_nil)))) (pss_one (ps_ost (pv 0) (pv 1)))
theorem jaD:FnScope ["self","value"] ["self","value"] (defScope zW):=⟨rfl,rfl,rfl,by decide +kernel,rfl,by decide +kernel,by decide +kernel⟩
def jaS:ME:=vH [mC (.str "invalid count: "),m1 Ju (jh 1)]
def JK:List Dat→Option (List (Str×Dat)):=Y9 1 jaS [("value",1)]
theorem zN {P:Program} {w:World} {K:PySem.W.Frag} {mg:Str→Option Value} {base:Heap} (c:Kn fa fn K mg) {fd:FuncData} (D:jG K j5 fd):FnG P w K mg base (L2.CX P w) 1 (j5.ad.a K) fd ["self","value"] (spX ⟨He.ga K,none,[]⟩ K (He.ga K "InvalidCount") JK):=by
  exact yc D jaD rfl (c.oex 22) (by simp) (by decide) (aa1 ⟨c.nof 23,by decide,by decide⟩ aa0) fun cdv A outer s H E hr hg=>
    pss_cons (ps_expr (J7 (by rfl) (c.glo 10) (c.xbs 9).1 (c.xbs 9).2.1 (c.xbs 9).2.2 (pa_cons (pv 0) (pa_cons (Je (jj (jk) (jj (jz hg hr.units (jb (pv 1))) (JY)))) pa_nil)))) (pss_one (ps_ost (pv 0) (pv 1)))
theorem W4:FnScope ["self","position"] ["self","position"] (defScope zz):=⟨rfl,rfl,rfl,by decide +kernel,rfl,by decide +kernel,by decide +kernel⟩
def W8:ME:=vH [mC (.str "invalid visits: "),m1 Ju (jh 1)]
def JC:List Dat→Option (List (Str×Dat)):=Y9 1 W8 [("position",1)]
theorem yV {P:Program} {w:World} {K:PySem.W.Frag} {mg:Str→Option Value} {base:Heap} (c:Kn fa fn K mg) {fd:FuncData} (D:jG K jX fd):FnG P w K mg base (L2.CX P w) 1 (jX.ad.a K) fd ["self","position"] (spX ⟨He.ga K,none,[]⟩ K (He.ga K "InvalidVisits") JC):=by
  exact yc D W4 rfl (c.oex 26) (by simp) (by decide) (aa1 ⟨c.nof 27,by decide,by decide⟩ aa0) fun cdv A outer s H E hr hg=>
    pss_cons (ps_expr (J7 (by rfl) (c.glo 10) (c.xbs 9).1 (c.xbs 9).2.1 (c.xbs 9).2.2 (pa_cons (pv 0) (pa_cons (Je (jj (jk) (jj (jz hg hr.units (jb (pv 1))) (JY)))) pa_nil)))) (pss_one (ps_ost (pv 0) (pv 1)))
theorem jaJ:FnScope ["self","problem"] ["self","problem"] (defScope zY):=⟨rfl,rfl,rfl,by decide +kernel,rfl,by decide +kernel,by decide +kernel⟩
def jaH:ME:=vH [mC (.str "invalid visit: "),m1 Ju (jh 1)]
def JH:List Dat→Option (List (Str×Dat)):=Y9 1 jaH [("problem",1)]
theorem zE {P:Program} {w:World} {K:PySem.W.Frag} {mg:Str→Option Value} {base:Heap} (c:Kn fa fn K mg) {fd:FuncData} (D:jG K j6 fd):FnG P w K mg base (L2.CX P w) 1 (j6.ad.a K) fd ["self","problem"] (spX ⟨He.ga K,none,[]⟩ K (He.ga K "InvalidVisit") JH):=by
  exact yc D jaJ rfl (c.oex 30) (by simp) (by decide) (aa1 ⟨c.nof 31,by decide,by decide⟩ aa0) fun cdv A outer s H E hr hg=>
    pss_cons (ps_expr (J7 (by rfl) (c.glo 10) (c.xbs 9).1 (c.xbs 9).2.1 (c.xbs 9).2.2 (pa_cons (pv 0) (pa_cons (Je (jj (jk) (jj (jz hg hr.units (jb (pv 1))) (JY)))) pa_nil)))) (pss_one (ps_ost (pv 0) (pv 1)))
theorem W2:FnScope ["self","value"] ["self","value"] (defScope zR):=⟨rfl,rfl,rfl,by decide +kernel,rfl,by decide +kernel,by decide +kernel⟩
def W7:ME:=vH [mC (.str "invalid window: "),m1 Ju (jh 1)]
def JA:List Dat→Option (List (Str×Dat)):=Y9 1 W7 [("value",1)]
theorem yX {P:Program} {w:World} {K:PySem.W.Frag} {mg:Str→Option Value} {base:Heap} (c:Kn fa fn K mg) {fd:FuncData} (D:jG K jT fd):FnG P w K mg base (L2.CX P w) 1 (jT.ad.a K) fd ["self","value"] (spX ⟨He.ga K,none,[]⟩ K (He.ga K "InvalidWindow") JA):=by
  exact yc D W2 rfl (c.oex 34) (by simp) (by decide) (aa1 ⟨c.nof 35,by decide,by decide⟩ aa0) fun cdv A outer s H E hr hg=>
    pss_cons (ps_expr (J7 (by rfl) (c.glo 10) (c.xbs 9).1 (c.xbs 9).2.1 (c.xbs 9).2.2 (pa_cons (pv 0) (pa_cons (Je (jj (jk) (jj (jz hg hr.units (jb (pv 1))) (JY)))) pa_nil)))) (pss_one (ps_ost (pv 0) (pv 1)))
theorem WQ:FnScope ["self","position"] ["self","position"] (defScope zy):=⟨rfl,rfl,rfl,by decide +kernel,rfl,by decide +kernel,by decide +kernel⟩
def W9:ME:=vH [mC (.str "invalid supply: "),m1 Ju (jh 1)]
def Jx:List Dat→Option (List (Str×Dat)):=Y9 1 W9 [("position",1)]
theorem yQ {P:Program} {w:World} {K:PySem.W.Frag} {mg:Str→Option Value} {base:Heap} (c:Kn fa fn K mg) {fd:FuncData} (D:jG K jS fd):FnG P w K mg base (L2.CX P w) 1 (jS.ad.a K) fd ["self","position"] (spX ⟨He.ga K,none,[]⟩ K (He.ga K "InvalidSupply") Jx):=by
  exact yc D WQ rfl (c.oex 38) (by simp) (by decide) (aa1 ⟨c.nof 39,by decide,by decide⟩ aa0) fun cdv A outer s H E hr hg=>
    pss_cons (ps_expr (J7 (by rfl) (c.glo 10) (c.xbs 9).1 (c.xbs 9).2.1 (c.xbs 9).2.2 (pa_cons (pv 0) (pa_cons (Je (jj (jk) (jj (jz hg hr.units (jb (pv 1))) (JY)))) pa_nil)))) (pss_one (ps_ost (pv 0) (pv 1)))
theorem jbv:FnScope ["self","value"] ["self","value"] (defScope YK):=⟨rfl,rfl,rfl,by decide +kernel,rfl,by decide +kernel,by decide +kernel⟩
def jbD:ME:=vH [mC (.str "invalid name: "),m1 Ju (jh 1)]
def JU:List Dat→Option (List (Str×Dat)):=Y9 1 jbD [("value",1)]
theorem Yh {P:Program} {w:World} {K:PySem.W.Frag} {mg:Str→Option Value} {base:Heap} (c:Kn fa fn K mg) {fd:FuncData} (D:jG K Jc fd):FnG P w K mg base (L2.CX P w) 1 (Jc.ad.a K) fd ["self","value"] (spX ⟨He.ga K,none,[]⟩ K (He.ga K "InvalidName") JU):=by
  exact yc D jbv rfl (c.oex 42) (by simp) (by decide) (aa1 ⟨c.nof 43,by decide,by decide⟩ aa0) fun cdv A outer s H E hr hg=>
    pss_cons (ps_expr (J7 (by rfl) (c.glo 10) (c.xbs 9).1 (c.xbs 9).2.1 (c.xbs 9).2.2 (pa_cons (pv 0) (pa_cons (Je (jj (jk) (jj (jz hg hr.units (jb (pv 1))) (JY)))) pa_nil)))) (pss_one (ps_ost (pv 0) (pv 1)))
theorem Wd:FnScope ["self","problem"] ["self","problem"] (defScope yP):=⟨rfl,rfl,rfl,by decide +kernel,rfl,by decide +kernel,by decide +kernel⟩
def We:ME:=vH [mC (.str "invalid station: "),m1 Ju (jh 1)]
def Jr:List Dat→Option (List (Str×Dat)):=Y9 1 We [("problem",1)]
theorem yA {P:Program} {w:World} {K:PySem.W.Frag} {mg:Str→Option Value} {base:Heap} (c:Kn fa fn K mg) {fd:FuncData} (D:jG K jM fd):FnG P w K mg base (L2.CX P w) 1 (jM.ad.a K) fd ["self","problem"] (spX ⟨He.ga K,none,[]⟩ K (He.ga K "InvalidStation") Jr):=by
  exact yc D Wd rfl (c.oex 46) (by simp) (by decide) (aa1 ⟨c.nof 47,by decide,by decide⟩ aa0) fun cdv A outer s H E hr hg=>
    pss_cons (ps_expr (J7 (by rfl) (c.glo 10) (c.xbs 9).1 (c.xbs 9).2.1 (c.xbs 9).2.2 (pa_cons (pv 0) (pa_cons (Je (jj (jk) (jj (jz hg hr.units (jb (pv 1))) (JY)))) pa_nil)))) (pss_one (ps_ost (pv 0) (pv 1)))
theorem jay:FnScope ["self","position"] ["self","position"] (defScope Yb):=⟨rfl,rfl,rfl,by decide +kernel,rfl,by decide +kernel,by decide +kernel⟩
def jaY:ME:=vH [mC (.str "invalid split: "),m1 Ju (jh 1)]
def JL:List Dat→Option (List (Str×Dat)):=Y9 1 jaY [("position",1)]
theorem zB {P:Program} {w:World} {K:PySem.W.Frag} {mg:Str→Option Value} {base:Heap} (c:Kn fa fn K mg) {fd:FuncData} (D:jG K j4 fd):FnG P w K mg base (L2.CX P w) 1 (j4.ad.a K) fd ["self","position"] (spX ⟨He.ga K,none,[]⟩ K (He.ga K "InvalidSplit") JL):=by
  exact yc D jay rfl (c.oex 50) (by simp) (by decide) (aa1 ⟨c.nof 51,by decide,by decide⟩ aa0) fun cdv A outer s H E hr hg=>
    pss_cons (ps_expr (J7 (by rfl) (c.glo 10) (c.xbs 9).1 (c.xbs 9).2.1 (c.xbs 9).2.2 (pa_cons (pv 0) (pa_cons (Je (jj (jk) (jj (jz hg hr.units (jb (pv 1))) (JY)))) pa_nil)))) (pss_one (ps_ost (pv 0) (pv 1)))
theorem jbF:FnScope ["self","position"] ["self","position"] (defScope YI):=⟨rfl,rfl,rfl,by decide +kernel,rfl,by decide +kernel,by decide +kernel⟩
def jbs:ME:=vH [mC (.str "invalid path: "),m1 Ju (jh 1)]
def JQ:List Dat→Option (List (Str×Dat)):=Y9 1 jbs [("position",1)]
theorem zZ {P:Program} {w:World} {K:PySem.W.Frag} {mg:Str→Option Value} {base:Heap} (c:Kn fa fn K mg) {fd:FuncData} (D:jG K Jd fd):FnG P w K mg base (L2.CX P w) 1 (Jd.ad.a K) fd ["self","position"] (spX ⟨He.ga K,none,[]⟩ K (He.ga K "InvalidPath") JQ):=by
  exact yc D jbF rfl (c.oex 54) (by simp) (by decide) (aa1 ⟨c.nof 55,by decide,by decide⟩ aa0) fun cdv A outer s H E hr hg=>
    pss_cons (ps_expr (J7 (by rfl) (c.glo 10) (c.xbs 9).1 (c.xbs 9).2.1 (c.xbs 9).2.2 (pa_cons (pv 0) (pa_cons (Je (jj (jk) (jj (jz hg hr.units (jb (pv 1))) (JY)))) pa_nil)))) (pss_one (ps_ost (pv 0) (pv 1)))
theorem jbC:FnScope ["self","value"] ["self","value"] (defScope YO):=⟨rfl,rfl,rfl,by decide +kernel,rfl,by decide +kernel,by decide +kernel⟩
def jbI:ME:=vH [mC (.str "invalid tick: "),m1 Ju (jh 1)]
def JR:List Dat→Option (List (Str×Dat)):=Y9 1 jbI [("value",1)]
theorem zX {P:Program} {w:World} {K:PySem.W.Frag} {mg:Str→Option Value} {base:Heap} (c:Kn fa fn K mg) {fd:FuncData} (D:jG K Jf fd):FnG P w K mg base (L2.CX P w) 1 (Jf.ad.a K) fd ["self","value"] (spX ⟨He.ga K,none,[]⟩ K (He.ga K "InvalidTick") JR):=by
  exact yc D jbC rfl (c.oex 58) (by simp) (by decide) (aa1 ⟨c.nof 59,by decide,by decide⟩ aa0) fun cdv A outer s H E hr hg=>
    pss_cons (ps_expr (J7 (by rfl) (c.glo 10) (c.xbs 9).1 (c.xbs 9).2.1 (c.xbs 9).2.2 (pa_cons (pv 0) (pa_cons (Je (jj (jk) (jj (jz hg hr.units (jb (pv 1))) (JY)))) pa_nil)))) (pss_one (ps_ost (pv 0) (pv 1)))
theorem jbu:FnScope ["self","value"] ["self","value"] (defScope YC):=⟨rfl,rfl,rfl,by decide +kernel,rfl,by decide +kernel,by decide +kernel⟩
def jbG:ME:=vH [mC (.str "invalid time: "),m1 Ju (jh 1)]
def JT:List Dat→Option (List (Str×Dat)):=Y9 1 jbG [("value",1)]
theorem Yi {P:Program} {w:World} {K:PySem.W.Frag} {mg:Str→Option Value} {base:Heap} (c:Kn fa fn K mg) {fd:FuncData} (D:jG K Jh fd):FnG P w K mg base (L2.CX P w) 1 (Jh.ad.a K) fd ["self","value"] (spX ⟨He.ga K,none,[]⟩ K (He.ga K "InvalidTime") JT):=by
  exact yc D jbu rfl (c.oex 62) (by simp) (by decide) (aa1 ⟨c.nof 63,by decide,by decide⟩ aa0) fun cdv A outer s H E hr hg=>
    pss_cons (ps_expr (J7 (by rfl) (c.glo 10) (c.xbs 9).1 (c.xbs 9).2.1 (c.xbs 9).2.2 (pa_cons (pv 0) (pa_cons (Je (jj (jk) (jj (jz hg hr.units (jb (pv 1))) (JY)))) pa_nil)))) (pss_one (ps_ost (pv 0) (pv 1)))
theorem W5:FnScope ["self","position"] ["self","position"] (defScope zF):=⟨rfl,rfl,rfl,by decide +kernel,rfl,by decide +kernel,by decide +kernel⟩
def WU:ME:=vH [mC (.str "invalid faults: "),m1 Ju (jh 1)]
def JD:List Dat→Option (List (Str×Dat)):=Y9 1 WU [("position",1)]
theorem yO {P:Program} {w:World} {K:PySem.W.Frag} {mg:Str→Option Value} {base:Heap} (c:Kn fa fn K mg) {fd:FuncData} (D:jG K jU fd):FnG P w K mg base (L2.CX P w) 1 (jU.ad.a K) fd ["self","position"] (spX ⟨He.ga K,none,[]⟩ K (He.ga K "InvalidFaults") JD):=by
  exact yc D W5 rfl (c.oex 66) (by simp) (by decide) (aa1 ⟨c.nof 67,by decide,by decide⟩ aa0) fun cdv A outer s H E hr hg=>
    pss_cons (ps_expr (J7 (by rfl) (c.glo 10) (c.xbs 9).1 (c.xbs 9).2.1 (c.xbs 9).2.2 (pa_cons (pv 0) (pa_cons (Je (jj (jk) (jj (jz hg hr.units (jb (pv 1))) (JY)))) pa_nil)))) (pss_one (ps_ost (pv 0) (pv 1)))
theorem jaw:FnScope ["self","problem"] ["self","problem"] (defScope Yc):=⟨rfl,rfl,rfl,by decide +kernel,rfl,by decide +kernel,by decide +kernel⟩
def jaU:ME:=vH [mC (.str "invalid fault: "),m1 Ju (jh 1)]
def JJ:List Dat→Option (List (Str×Dat)):=Y9 1 jaU [("problem",1)]
theorem zK {P:Program} {w:World} {K:PySem.W.Frag} {mg:Str→Option Value} {base:Heap} (c:Kn fa fn K mg) {fd:FuncData} (D:jG K j0 fd):FnG P w K mg base (L2.CX P w) 1 (j0.ad.a K) fd ["self","problem"] (spX ⟨He.ga K,none,[]⟩ K (He.ga K "InvalidFault") JJ):=by
  exact yc D jaw rfl (c.oex 70) (by simp) (by decide) (aa1 ⟨c.nof 71,by decide,by decide⟩ aa0) fun cdv A outer s H E hr hg=>
    pss_cons (ps_expr (J7 (by rfl) (c.glo 10) (c.xbs 9).1 (c.xbs 9).2.1 (c.xbs 9).2.2 (pa_cons (pv 0) (pa_cons (Je (jj (jk) (jj (jz hg hr.units (jb (pv 1))) (JY)))) pa_nil)))) (pss_one (ps_ost (pv 0) (pv 1)))
theorem Wb:FnScope ["self","value"] ["self","value"] (defScope yL):=⟨rfl,rfl,rfl,by decide +kernel,rfl,by decide +kernel,by decide +kernel⟩
def V5:ME:=vH [mC (.str "invalid command: "),m1 Ju (jh 1)]
def Jq:List Dat→Option (List (Str×Dat)):=Y9 1 V5 [("value",1)]
theorem yz {P:Program} {w:World} {K:PySem.W.Frag} {mg:Str→Option Value} {base:Heap} (c:Kn fa fn K mg) {fd:FuncData} (D:jG K jN fd):FnG P w K mg base (L2.CX P w) 1 (jN.ad.a K) fd ["self","value"] (spX ⟨He.ga K,none,[]⟩ K (He.ga K "InvalidCommand") Jq):=by
  exact yc D Wb rfl (c.oex 74) (by simp) (by decide) (aa1 ⟨c.nof 75,by decide,by decide⟩ aa0) fun cdv A outer s H E hr hg=>
    pss_cons (ps_expr (J7 (by rfl) (c.glo 10) (c.xbs 9).1 (c.xbs 9).2.1 (c.xbs 9).2.2 (pa_cons (pv 0) (pa_cons (Je (jj (jk) (jj (jz hg hr.units (jb (pv 1))) (JY)))) pa_nil)))) (pss_one (ps_ost (pv 0) (pv 1)))
theorem jbt:FnScope ["self","line"] ["self","line"] (defScope YB):=⟨rfl,rfl,rfl,by decide +kernel,rfl,by decide +kernel,by decide +kernel⟩
def jbr:ME:=vH [mC (.str "invalid text, line: "),m1 Ju (jh 1)]
def JP:List Dat→Option (List (Str×Dat)):=Y9 1 jbr [("line",1)]
theorem Ya {P:Program} {w:World} {K:PySem.W.Frag} {mg:Str→Option Value} {base:Heap} (c:Kn fa fn K mg) {fd:FuncData} (D:jG K Jg fd):FnG P w K mg base (L2.CX P w) 1 (Jg.ad.a K) fd ["self","line"] (spX ⟨He.ga K,none,[]⟩ K (He.ga K "InvalidText") JP):=by
  exact yc D jbt rfl (c.oex 78) (by simp) (by decide) (aa1 ⟨c.nof 79,by decide,by decide⟩ aa0) fun cdv A outer s H E hr hg=>
    pss_cons (ps_expr (J7 (by rfl) (c.glo 10) (c.xbs 9).1 (c.xbs 9).2.1 (c.xbs 9).2.2 (pa_cons (pv 0) (pa_cons (Je (jj (jk) (jj (jz hg hr.units (jb (pv 1))) (JY)))) pa_nil)))) (pss_one (ps_ost (pv 0) (pv 1)))
theorem WR:FnScope ["self","value"] ["self","value"] (defScope zx):=⟨rfl,rfl,rfl,by decide +kernel,rfl,by decide +kernel,by decide +kernel⟩
def jaa:ME:=vH [mC (.str "unknown stream: "),m1 Ju (jh 1)]
def Jy:List Dat→Option (List (Str×Dat)):=Y9 1 jaa [("value",1)]
theorem yU {P:Program} {w:World} {K:PySem.W.Frag} {mg:Str→Option Value} {base:Heap} (c:Kn fa fn K mg) {fd:FuncData} (D:jG K jR fd):FnG P w K mg base (L2.CX P w) 1 (jR.ad.a K) fd ["self","value"] (spX ⟨He.ga K,none,[]⟩ K (He.ga K "UnknownStream") Jy):=by
  exact w6 D WR rfl (c.oeb 82) (by simp) (by decide) (aa1 ⟨c.nof 85,by decide,by decide⟩ aa0) fun cdv A outer s H E hr hg=>
    pss_cons (ps_expr (vo wB (by rfl) (c.free 84) (by decide +kernel) (c.xbt 83) (by decide +kernel) (by decide +kernel) (by decide) (by decide) (pa_cons (pv 0) (pa_cons (Je (jj (jk) (jj (jz hg hr.units (jb (pv 1))) (JY)))) pa_nil)))) (pss_one (vZ wB (pv 0) (pv 1)))
theorem V9:FnScope ["self","value"] ["self","value"] (defScope yM):=⟨rfl,rfl,rfl,by decide +kernel,rfl,by decide +kernel,by decide +kernel⟩
def Wo:ME:=vH [mC (.str "unknown station: "),m1 Ju (jh 1)]
def Jp:List Dat→Option (List (Str×Dat)):=Y9 1 Wo [("value",1)]
theorem yF {P:Program} {w:World} {K:PySem.W.Frag} {mg:Str→Option Value} {base:Heap} (c:Kn fa fn K mg) {fd:FuncData} (D:jG K jK fd):FnG P w K mg base (L2.CX P w) 1 (jK.ad.a K) fd ["self","value"] (spX ⟨He.ga K,none,[]⟩ K (He.ga K "UnknownStation") Jp):=by
  exact w6 D V9 rfl (c.oeb 88) (by simp) (by decide) (aa1 ⟨c.nof 89,by decide,by decide⟩ aa0) fun cdv A outer s H E hr hg=>
    pss_cons (ps_expr (vo wB (by rfl) (c.free 84) (by decide +kernel) (c.xbt 83) (by decide +kernel) (by decide +kernel) (by decide) (by decide) (pa_cons (pv 0) (pa_cons (Je (jj (jk) (jj (jz hg hr.units (jb (pv 1))) (JY)))) pa_nil)))) (pss_one (vZ wB (pv 0) (pv 1)))
theorem jcc:FnScope ["self","taken"] ["self","taken"] (defScope VW):=⟨rfl,rfl,rfl,by decide +kernel,rfl,by decide +kernel,by decide +kernel⟩
def jcn:ME:=vH [mC (.str "name taken: "),m1 Ju (jh 1)]
def vh:List Dat→Option (List (Str×Dat)):=Y9 1 jcn [("taken",1)]
theorem Ve {P:Program} {w:World} {K:PySem.W.Frag} {mg:Str→Option Value} {base:Heap} (c:Kn fa fn K mg) {fd:FuncData} (D:jG K Jz fd):FnG P w K mg base (L2.CX P w) 1 (Jz.ad.a K) fd ["self","taken"] (spX ⟨He.ga K,none,[]⟩ K (He.ga K "NameTaken") vh):=by
  exact w6 D jcc rfl (c.oeb 92) (by simp) (by decide) (aa1 ⟨c.nof 95,by decide,by decide⟩ aa0) fun cdv A outer s H E hr hg=>
    pss_cons (ps_expr (vo jI (by rfl) (c.free 94) (by decide +kernel) (c.xbt 93) (by decide +kernel) (by decide +kernel) (by decide) (by decide) (pa_cons (pv 0) (pa_cons (Je (jj (jk) (jj (jz hg hr.units (jb (pv 1))) (JY)))) pa_nil)))) (pss_one (vZ jI (pv 0) (pv 1)))
theorem jbz:FnScope ["self","value"] ["self","value"] (defScope YN):=⟨rfl,rfl,rfl,by decide +kernel,rfl,by decide +kernel,by decide +kernel⟩
def jbB:ME:=vH [mC (.str "unknown unit: "),m1 Ju (jh 1)]
def JS:List Dat→Option (List (Str×Dat)):=Y9 1 jbB [("value",1)]
theorem Yd {P:Program} {w:World} {K:PySem.W.Frag} {mg:Str→Option Value} {base:Heap} (c:Kn fa fn K mg) {fd:FuncData} (D:jG K Ji fd):FnG P w K mg base (L2.CX P w) 1 (Ji.ad.a K) fd ["self","value"] (spX ⟨He.ga K,none,[]⟩ K (He.ga K "UnknownUnit") JS):=by
  exact w6 D jbz rfl (c.oeb 98) (by simp) (by decide) (aa1 ⟨c.nof 99,by decide,by decide⟩ aa0) fun cdv A outer s H E hr hg=>
    pss_cons (ps_expr (vo wB (by rfl) (c.free 84) (by decide +kernel) (c.xbt 83) (by decide +kernel) (by decide +kernel) (by decide) (by decide) (pa_cons (pv 0) (pa_cons (Je (jj (jk) (jj (jz hg hr.units (jb (pv 1))) (JY)))) pa_nil)))) (pss_one (vZ wB (pv 0) (pv 1)))
theorem jcQ:FnScope ["self","cases"] ["self","cases"] (defScope Wv):=⟨rfl,rfl,rfl,by decide +kernel,rfl,by decide +kernel,by decide +kernel⟩
def jcB:ME:=vH [mC (.str "no splits: "),m1 Ju (jh 1)]
def vr:List Dat→Option (List (Str×Dat)):=Y9 1 jcB [("cases",1)]
theorem VX {P:Program} {w:World} {K:PySem.W.Frag} {mg:Str→Option Value} {base:Heap} (c:Kn fa fn K mg) {fd:FuncData} (D:jG K JN fd):FnG P w K mg base (L2.CX P w) 1 (JN.ad.a K) fd ["self","cases"] (spX ⟨He.ga K,none,[]⟩ K (He.ga K "NoSplits") vr):=by
  exact w6 D jcQ rfl (c.oeb 102) (by simp) (by decide) (aa1 ⟨c.nof 103,by decide,by decide⟩ aa0) fun cdv A outer s H E hr hg=>
    pss_cons (ps_expr (vo jI (by rfl) (c.free 94) (by decide +kernel) (c.xbt 93) (by decide +kernel) (by decide +kernel) (by decide) (by decide) (pa_cons (pv 0) (pa_cons (Je (jj (jk) (jj (jz hg hr.units (jb (pv 1))) (JY)))) pa_nil)))) (pss_one (vZ jI (pv 0) (pv 1)))
theorem jdv:FnScope ["self","refusal"] ["self","refusal"] (defScope jaM):=⟨rfl,rfl,rfl,by decide +kernel,rfl,by decide +kernel,by decide +kernel⟩
def jdp:ME:=vH [mC (.str "refused: "),m1 Ju (jh 1)]
def vL:List Dat→Option (List (Str×Dat)):=Y9 1 jdp [("refusal",1)]
theorem Wz {P:Program} {w:World} {K:PySem.W.Frag} {mg:Str→Option Value} {base:Heap} (c:Kn fa fn K mg) {fd:FuncData} (D:jG K J3 fd):FnG P w K mg base (L2.CX P w) 1 (J3.ad.a K) fd ["self","refusal"] (spX ⟨He.ga K,none,[]⟩ K (He.ga K "Refused") vL):=by
  exact w6 D jdv rfl (c.oeb 106) (by simp) (by decide) (aa1 ⟨c.nof 107,by decide,by decide⟩ aa0) fun cdv A outer s H E hr hg=>
    pss_cons (ps_expr (vo jI (by rfl) (c.free 94) (by decide +kernel) (c.xbt 93) (by decide +kernel) (by decide +kernel) (by decide) (by decide) (pa_cons (pv 0) (pa_cons (Je (jj (jk) (jj (jz hg hr.units (jb (pv 1))) (JY)))) pa_nil)))) (pss_one (vZ jI (pv 0) (pv 1)))
theorem jdr:FnScope ["self","total"] ["self","total"] (defScope jaR):=⟨rfl,rfl,rfl,by decide +kernel,rfl,by decide +kernel,by decide +kernel⟩
def jdE:ME:=vH [mC (.str "too slow: "),m1 Ju (jh 1)]
def vK:List Dat→Option (List (Str×Dat)):=Y9 1 jdE [("total",1)]
theorem WK {P:Program} {w:World} {K:PySem.W.Frag} {mg:Str→Option Value} {base:Heap} (c:Kn fa fn K mg) {fd:FuncData} (D:jG K JZ fd):FnG P w K mg base (L2.CX P w) 1 (JZ.ad.a K) fd ["self","total"] (spX ⟨He.ga K,none,[]⟩ K (He.ga K "TooSlow") vK):=by
  exact w6 D jdr rfl (c.oeb 110) (by simp) (by decide) (aa1 ⟨c.nof 111,by decide,by decide⟩ aa0) fun cdv A outer s H E hr hg=>
    pss_cons (ps_expr (vo jI (by rfl) (c.free 94) (by decide +kernel) (c.xbt 93) (by decide +kernel) (by decide +kernel) (by decide) (by decide) (pa_cons (pv 0) (pa_cons (Je (jj (jk) (jj (jz hg hr.units (jb (pv 1))) (JY)))) pa_nil)))) (pss_one (vZ jI (pv 0) (pv 1)))
theorem jdo:FnScope ["self","value"] ["self","value"] (defScope jas):=⟨rfl,rfl,rfl,by decide +kernel,rfl,by decide +kernel,by decide +kernel⟩
def jdA:ME:=vH [mC (.str "not late: "),m1 Ju (jh 1)]
def vJ:List Dat→Option (List (Str×Dat)):=Y9 1 jdA [("value",1)]
theorem WA {P:Program} {w:World} {K:PySem.W.Frag} {mg:Str→Option Value} {base:Heap} (c:Kn fa fn K mg) {fd:FuncData} (D:jG K J5 fd):FnG P w K mg base (L2.CX P w) 1 (J5.ad.a K) fd ["self","value"] (spX ⟨He.ga K,none,[]⟩ K (He.ga K "NotLate") vJ):=by
  exact w6 D jdo rfl (c.oeb 114) (by simp) (by decide) (aa1 ⟨c.nof 115,by decide,by decide⟩ aa0) fun cdv A outer s H E hr hg=>
    pss_cons (ps_expr (vo jI (by rfl) (c.free 94) (by decide +kernel) (c.xbt 93) (by decide +kernel) (by decide +kernel) (by decide) (by decide) (pa_cons (pv 0) (pa_cons (Je (jj (jk) (jj (jz hg hr.units (jb (pv 1))) (JY)))) pa_nil)))) (pss_one (vZ jI (pv 0) (pv 1)))
theorem jdw:FnScope ["self","danger"] ["self","danger"] (defScope jaF):=⟨rfl,rfl,rfl,by decide +kernel,rfl,by decide +kernel,by decide +kernel⟩
def jdx:ME:=vH [mC (.str "exposed: "),m1 Ju (jh 1)]
def vT:List Dat→Option (List (Str×Dat)):=Y9 1 jdx [("danger",1)]
theorem WI {P:Program} {w:World} {K:PySem.W.Frag} {mg:Str→Option Value} {base:Heap} (c:Kn fa fn K mg) {fd:FuncData} (D:jG K JX fd):FnG P w K mg base (L2.CX P w) 1 (JX.ad.a K) fd ["self","danger"] (spX ⟨He.ga K,none,[]⟩ K (He.ga K "Exposed") vT):=by
  exact w6 D jdw rfl (c.oeb 118) (by simp) (by decide) (aa1 ⟨c.nof 119,by decide,by decide⟩ aa0) fun cdv A outer s H E hr hg=>
    pss_cons (ps_expr (vo jI (by rfl) (c.free 94) (by decide +kernel) (c.xbt 93) (by decide +kernel) (by decide +kernel) (by decide) (by decide) (pa_cons (pv 0) (pa_cons (Je (jj (jk) (jj (jz hg hr.units (jb (pv 1))) (JY)))) pa_nil)))) (pss_one (vZ jI (pv 0) (pv 1)))
theorem jdq:FnScope ["self","limit"] ["self","limit"] (defScope jap):=⟨rfl,rfl,rfl,by decide +kernel,rfl,by decide +kernel,by decide +kernel⟩
def jdu:ME:=vH [mC (.str "more than: "),m1 Ju (jh 1)]
def vM:List Dat→Option (List (Str×Dat)):=Y9 1 jdu [("limit",1)]
theorem WL {P:Program} {w:World} {K:PySem.W.Frag} {mg:Str→Option Value} {base:Heap} (c:Kn fa fn K mg) {fd:FuncData} (D:jG K J4 fd):FnG P w K mg base (L2.CX P w) 1 (J4.ad.a K) fd ["self","limit"] (spX ⟨He.ga K,none,[]⟩ K (He.ga K "TooMany") vM):=by
  exact w6 D jdq rfl (c.oeb 122) (by simp) (by decide) (aa1 ⟨c.nof 125,by decide,by decide⟩ aa0) fun cdv A outer s H E hr hg=>
    pss_cons (ps_expr (vo jal (by rfl) (c.free 124) (by decide +kernel) (c.xbt 123) (by decide +kernel) (by decide +kernel) (by decide) (by decide) (pa_cons (pv 0) (pa_cons (Je (jj (jk) (jj (jz hg hr.units (jb (pv 1))) (JY)))) pa_nil)))) (pss_one (vZ jal (pv 0) (pv 1)))
theorem jdz:FnScope ["self","limit"] ["self","limit"] (defScope jaB):=⟨rfl,rfl,rfl,by decide +kernel,rfl,by decide +kernel,by decide +kernel⟩
def jdy:ME:=vH [mC (.str "more than: "),m1 Ju (jh 1)]
def vU:List Dat→Option (List (Str×Dat)):=Y9 1 jdy [("limit",1)]
theorem Ww {P:Program} {w:World} {K:PySem.W.Frag} {mg:Str→Option Value} {base:Heap} (c:Kn fa fn K mg) {fd:FuncData} (D:jG K J0 fd):FnG P w K mg base (L2.CX P w) 1 (J0.ad.a K) fd ["self","limit"] (spX ⟨He.ga K,none,[]⟩ K (He.ga K "TooLong") vU):=by
  exact w6 D jdz rfl (c.oeb 128) (by simp) (by decide) (aa1 ⟨c.nof 129,by decide,by decide⟩ aa0) fun cdv A outer s H E hr hg=>
    pss_cons (ps_expr (vo jal (by rfl) (c.free 124) (by decide +kernel) (c.xbt 123) (by decide +kernel) (by decide +kernel) (by decide) (by decide) (pa_cons (pv 0) (pa_cons (Je (jj (jk) (jj (jz hg hr.units (jb (pv 1))) (JY)))) pa_nil)))) (pss_one (vZ jal (pv 0) (pv 1)))
theorem vA:FnScope ["_law_thing_here","_law_found"] ["_law_thing_here"] (defScope jgL):=⟨rfl,rfl,rfl,by decide +kernel,rfl,by decide +kernel,by decide +kernel⟩
def jg3:MS:=
    Jo (Vb (zk (je (YX (je (jv "InvalidPiece" JM 0 1 (fun as bs=>[bs.getD 0 (.dat .non)]) (jn) (jQ (jh 0) (jn))) (je (mC (.str "due")) (jY)))) (je (YX (je (jv "InvalidLength" Jw 0 1 (fun as bs=>[bs.getD 0 (.dat .non)]) (jn) (jQ (jh 0) (jn))) (je (mC (.str "due")) (jY)))) (jY)))) (gNm 1))
    (Jo (Vb (m2 Vu (jh 1) (zk (je (YX (je (jv "InvalidCount" JK 0 1 (fun as bs=>[bs.getD 0 (.dat .non)]) (jn) (jQ (jh 0) (jn))) (je (mC (.str "due")) (jY)))) (je (YX (je (jv "InvalidRecord" JB 0 1 (fun as bs=>[bs.getD 0 (.dat .non)]) (jn) (jQ (jh 0) (jn))) (je (mC (.str "due")) (jY)))) (jY))))) (gNm 1))
    (Jo (Vb (m2 Vu (jh 1) (zk (je (YX (je (jv "InvalidVisit" JH 0 1 (fun as bs=>[bs.getD 0 (.dat .non)]) (jn) (jQ (jh 0) (jn))) (je (mC (.str "due")) (jY)))) (je (YX (je (jv "InvalidVisits" JC 0 1 (fun as bs=>[bs.getD 0 (.dat .non)]) (jn) (jQ (jh 0) (jn))) (je (mC (.str "due")) (jY)))) (jY))))) (gNm 1))
    (Jo (Vb (m2 Vu (jh 1) (zk (je (YX (je (jv "InvalidSupply" Jx 0 1 (fun as bs=>[bs.getD 0 (.dat .non)]) (jn) (jQ (jh 0) (jn))) (je (mC (.str "due")) (jY)))) (je (YX (je (jv "InvalidWindow" JA 0 1 (fun as bs=>[bs.getD 0 (.dat .non)]) (jn) (jQ (jh 0) (jn))) (je (mC (.str "due")) (jY)))) (jY))))) (gNm 1))
    (Jo (Vb (m2 Vu (jh 1) (zk (je (YX (je (jv "InvalidStation" Jr 0 1 (fun as bs=>[bs.getD 0 (.dat .non)]) (jn) (jQ (jh 0) (jn))) (je (mC (.str "due")) (jY)))) (je (YX (je (jv "InvalidName" JU 0 1 (fun as bs=>[bs.getD 0 (.dat .non)]) (jn) (jQ (jh 0) (jn))) (je (mC (.str "due")) (jY)))) (jY))))) (gNm 1))
    (Jo (Vb (m2 Vu (jh 1) (zk (je (YX (je (jv "InvalidPath" JQ 0 1 (fun as bs=>[bs.getD 0 (.dat .non)]) (jn) (jQ (jh 0) (jn))) (je (mC (.str "due")) (jY)))) (je (YX (je (jv "InvalidSplit" JL 0 1 (fun as bs=>[bs.getD 0 (.dat .non)]) (jn) (jQ (jh 0) (jn))) (je (mC (.str "due")) (jY)))) (jY))))) (gNm 1))
    (Jo (Vb (m2 Vu (jh 1) (zk (je (YX (je (jv "InvalidTime" JT 0 1 (fun as bs=>[bs.getD 0 (.dat .non)]) (jn) (jQ (jh 0) (jn))) (je (mC (.str "due")) (jY)))) (je (YX (je (jv "InvalidTick" JR 0 1 (fun as bs=>[bs.getD 0 (.dat .non)]) (jn) (jQ (jh 0) (jn))) (je (mC (.str "due")) (jY)))) (jY))))) (gNm 1))
    (Jo (Vb (m2 Vu (jh 1) (zk (je (YX (je (jv "InvalidFault" JJ 0 1 (fun as bs=>[bs.getD 0 (.dat .non)]) (jn) (jQ (jh 0) (jn))) (je (mC (.str "due")) (jY)))) (je (YX (je (jv "InvalidFaults" JD 0 1 (fun as bs=>[bs.getD 0 (.dat .non)]) (jn) (jQ (jh 0) (jn))) (je (mC (.str "due")) (jY)))) (jY))))) (gNm 1))
    (Jo (Vb (m2 Vu (jh 1) (zk (je (YX (je (jv "InvalidText" JP 0 1 (fun as bs=>[bs.getD 0 (.dat .non)]) (jn) (jQ (jh 0) (jn))) (je (mC (.str "due")) (jY)))) (je (YX (je (jv "InvalidCommand" Jq 0 1 (fun as bs=>[bs.getD 0 (.dat .non)]) (jn) (jQ (jh 0) (jn))) (je (mC (.str "due")) (jY)))) (jY))))) (gNm 1))
    (Jo (Vb (m2 Vu (jh 1) (zk (je (YX (je (jv "UnknownStation" Jp 0 1 (fun as bs=>[bs.getD 0 (.dat .non)]) (jn) (jQ (jh 0) (jn))) (je (mC (.str "lookup")) (jY)))) (je (YX (je (jv "UnknownStream" Jy 0 1 (fun as bs=>[bs.getD 0 (.dat .non)]) (jn) (jQ (jh 0) (jn))) (je (mC (.str "lookup")) (jY)))) (jY))))) (gNm 1))
    (Jo (Vb (m2 Vu (jh 1) (zk (je (YX (je (jv "UnknownUnit" JS 0 1 (fun as bs=>[bs.getD 0 (.dat .non)]) (jn) (jQ (jh 0) (jn))) (je (mC (.str "lookup")) (jY)))) (je (YX (je (jv "NameTaken" vh 0 1 (fun as bs=>[bs.getD 0 (.dat .non)]) (jn) (jQ (jh 0) (jn))) (je (mC (.str "run")) (jY)))) (jY))))) (gNm 1))
    (Jo (Vb (m2 Vu (jh 1) (zk (je (YX (je (jv "TooSlow" vK 0 1 (fun as bs=>[bs.getD 0 (.dat .non)]) (jn) (jQ (jh 0) (jn))) (je (mC (.str "run")) (jY)))) (je (YX (je (jv "Refused" vL 0 1 (fun as bs=>[bs.getD 0 (.dat .non)]) (jn) (jQ (jh 0) (jn))) (je (mC (.str "run")) (jY)))) (je (YX (je (jv "NoSplits" vr 0 1 (fun as bs=>[bs.getD 0 (.dat .non)]) (jn) (jQ (jh 0) (jn))) (je (mC (.str "run")) (jY)))) (jY)))))) (gNm 1))
    (Jo (Vb (m2 Vu (jh 1) (zk (je (YX (je (jv "Exposed" vT 0 1 (fun as bs=>[bs.getD 0 (.dat .non)]) (jn) (jQ (jh 0) (jn))) (je (mC (.str "run")) (jY)))) (je (YX (je (jv "NotLate" vJ 0 1 (fun as bs=>[bs.getD 0 (.dat .non)]) (jn) (jQ (jh 0) (jn))) (je (mC (.str "run")) (jY)))) (jY))))) (gNm 1))
    (YY (m2 Vu (jh 1) (zk (je (YX (je (jv "TooLong" vU 0 1 (fun as bs=>[bs.getD 0 (.dat .non)]) (jn) (jQ (jh 0) (jn))) (je (mC (.str "sum")) (jY)))) (je (YX (je (jv "TooMany" vM 0 1 (fun as bs=>[bs.getD 0 (.dat .non)]) (jn) (jQ (jh 0) (jn))) (je (mC (.str "sum")) (jY)))) (jY))))))))))))))))))
def jfA:List FA→RF:=wj 1 2 jg3
theorem jjg {P:Program} {w:World} {K:PySem.W.Frag} {mg:Str→Option Value} {base:Heap} (c:Kn fa fn K mg) {fd:FuncData} (D:jG K jbm fd):FnG P w K mg base (L2.CX P w) 3 (jbm.ad.a K) fd ["_law_thing_here"] (spF ⟨He.ga K,none,[]⟩ K jfA):=by
  obtain ⟨fd_InvalidLength_init0,D_InvalidLength_init0⟩:=c.def_ 2 (d:=jV)
  have O_InvalidLength_init0:=yW (P:=P) (w:=w) (base:=base) c D_InvalidLength_init0
  have B2_InvalidLength_init0:=wu D_InvalidLength_init0
  obtain ⟨fd_InvalidPiece_init0,D_InvalidPiece_init0⟩:=c.def_ 3 (d:=j7)
  have O_InvalidPiece_init0:=zo (P:=P) (w:=w) (base:=base) c D_InvalidPiece_init0
  have B2_InvalidPiece_init0:=wD D_InvalidPiece_init0
  obtain ⟨fd_InvalidRecord_init0,D_InvalidRecord_init0⟩:=c.def_ 4 (d:=jW)
  have O_InvalidRecord_init0:=yN (P:=P) (w:=w) (base:=base) c D_InvalidRecord_init0
  have B2_InvalidRecord_init0:=wy D_InvalidRecord_init0
  obtain ⟨fd_InvalidCount_init0,D_InvalidCount_init0⟩:=c.def_ 5 (d:=j5)
  have O_InvalidCount_init0:=zN (P:=P) (w:=w) (base:=base) c D_InvalidCount_init0
  have B2_InvalidCount_init0:=wF D_InvalidCount_init0
  obtain ⟨fd_InvalidVisits_init0,D_InvalidVisits_init0⟩:=c.def_ 6 (d:=jX)
  have O_InvalidVisits_init0:=yV (P:=P) (w:=w) (base:=base) c D_InvalidVisits_init0
  have B2_InvalidVisits_init0:=ww D_InvalidVisits_init0
  obtain ⟨fd_InvalidVisit_init0,D_InvalidVisit_init0⟩:=c.def_ 7 (d:=j6)
  have O_InvalidVisit_init0:=zE (P:=P) (w:=w) (base:=base) c D_InvalidVisit_init0
  have B2_InvalidVisit_init0:=wG D_InvalidVisit_init0
  obtain ⟨fd_InvalidWindow_init0,D_InvalidWindow_init0⟩:=c.def_ 8 (d:=jT)
  have O_InvalidWindow_init0:=yX (P:=P) (w:=w) (base:=base) c D_InvalidWindow_init0
  have B2_InvalidWindow_init0:=wv D_InvalidWindow_init0
  obtain ⟨fd_InvalidSupply_init0,D_InvalidSupply_init0⟩:=c.def_ 9 (d:=jS)
  have O_InvalidSupply_init0:=yQ (P:=P) (w:=w) (base:=base) c D_InvalidSupply_init0
  have B2_InvalidSupply_init0:=wz D_InvalidSupply_init0
  obtain ⟨fd_InvalidName_init0,D_InvalidName_init0⟩:=c.def_ 10 (d:=Jc)
  have O_InvalidName_init0:=Yh (P:=P) (w:=w) (base:=base) c D_InvalidName_init0
  have B2_InvalidName_init0:=wV D_InvalidName_init0
  obtain ⟨fd_InvalidStation_init0,D_InvalidStation_init0⟩:=c.def_ 11 (d:=jM)
  have O_InvalidStation_init0:=yA (P:=P) (w:=w) (base:=base) c D_InvalidStation_init0
  have B2_InvalidStation_init0:=wl D_InvalidStation_init0
  obtain ⟨fd_InvalidSplit_init0,D_InvalidSplit_init0⟩:=c.def_ 12 (d:=j4)
  have O_InvalidSplit_init0:=zB (P:=P) (w:=w) (base:=base) c D_InvalidSplit_init0
  have B2_InvalidSplit_init0:=wC D_InvalidSplit_init0
  obtain ⟨fd_InvalidPath_init0,D_InvalidPath_init0⟩:=c.def_ 13 (d:=Jd)
  have O_InvalidPath_init0:=zZ (P:=P) (w:=w) (base:=base) c D_InvalidPath_init0
  have B2_InvalidPath_init0:=wU D_InvalidPath_init0
  obtain ⟨fd_InvalidTick_init0,D_InvalidTick_init0⟩:=c.def_ 14 (d:=Jf)
  have O_InvalidTick_init0:=zX (P:=P) (w:=w) (base:=base) c D_InvalidTick_init0
  have B2_InvalidTick_init0:=wY D_InvalidTick_init0
  obtain ⟨fd_InvalidTime_init0,D_InvalidTime_init0⟩:=c.def_ 15 (d:=Jh)
  have O_InvalidTime_init0:=Yi (P:=P) (w:=w) (base:=base) c D_InvalidTime_init0
  have B2_InvalidTime_init0:=wS D_InvalidTime_init0
  obtain ⟨fd_InvalidFaults_init0,D_InvalidFaults_init0⟩:=c.def_ 16 (d:=jU)
  have O_InvalidFaults_init0:=yO (P:=P) (w:=w) (base:=base) c D_InvalidFaults_init0
  have B2_InvalidFaults_init0:=wr D_InvalidFaults_init0
  obtain ⟨fd_InvalidFault_init0,D_InvalidFault_init0⟩:=c.def_ 17 (d:=j0)
  have O_InvalidFault_init0:=zK (P:=P) (w:=w) (base:=base) c D_InvalidFault_init0
  have B2_InvalidFault_init0:=wE D_InvalidFault_init0
  obtain ⟨fd_InvalidCommand_init0,D_InvalidCommand_init0⟩:=c.def_ 18 (d:=jN)
  have O_InvalidCommand_init0:=yz (P:=P) (w:=w) (base:=base) c D_InvalidCommand_init0
  have B2_InvalidCommand_init0:=wk D_InvalidCommand_init0
  obtain ⟨fd_InvalidText_init0,D_InvalidText_init0⟩:=c.def_ 19 (d:=Jg)
  have O_InvalidText_init0:=Ya (P:=P) (w:=w) (base:=base) c D_InvalidText_init0
  have B2_InvalidText_init0:=wT D_InvalidText_init0
  obtain ⟨fd_UnknownStream_init0,D_UnknownStream_init0⟩:=c.def_ 20 (d:=jR)
  have O_UnknownStream_init0:=yU (P:=P) (w:=w) (base:=base) c D_UnknownStream_init0
  have B2_UnknownStream_init0:=wx D_UnknownStream_init0
  obtain ⟨fd_UnknownStation_init0,D_UnknownStation_init0⟩:=c.def_ 21 (d:=jK)
  have O_UnknownStation_init0:=yF (P:=P) (w:=w) (base:=base) c D_UnknownStation_init0
  have B2_UnknownStation_init0:=wi D_UnknownStation_init0
  obtain ⟨fd_NameTaken_init0,D_NameTaken_init0⟩:=c.def_ 22 (d:=Jz)
  have O_NameTaken_init0:=Ve (P:=P) (w:=w) (base:=base) c D_NameTaken_init0
  have B2_NameTaken_init0:=yw D_NameTaken_init0
  obtain ⟨fd_UnknownUnit_init0,D_UnknownUnit_init0⟩:=c.def_ 23 (d:=Ji)
  have O_UnknownUnit_init0:=Yd (P:=P) (w:=w) (base:=base) c D_UnknownUnit_init0
  have B2_UnknownUnit_init0:=wM D_UnknownUnit_init0
  obtain ⟨fd_NoSplits_init0,D_NoSplits_init0⟩:=c.def_ 24 (d:=JN)
  have O_NoSplits_init0:=VX (P:=P) (w:=w) (base:=base) c D_NoSplits_init0
  have B2_NoSplits_init0:=yT D_NoSplits_init0
  obtain ⟨fd_Refused_init0,D_Refused_init0⟩:=c.def_ 25 (d:=J3)
  have O_Refused_init0:=Wz (P:=P) (w:=w) (base:=base) c D_Refused_init0
  have B2_Refused_init0:=zJ D_Refused_init0
  obtain ⟨fd_TooSlow_init0,D_TooSlow_init0⟩:=c.def_ 26 (d:=JZ)
  have O_TooSlow_init0:=WK (P:=P) (w:=w) (base:=base) c D_TooSlow_init0
  have B2_TooSlow_init0:=zq D_TooSlow_init0
  obtain ⟨fd_NotLate_init0,D_NotLate_init0⟩:=c.def_ 27 (d:=J5)
  have O_NotLate_init0:=WA (P:=P) (w:=w) (base:=base) c D_NotLate_init0
  have B2_NotLate_init0:=zn D_NotLate_init0
  obtain ⟨fd_Exposed_init0,D_Exposed_init0⟩:=c.def_ 28 (d:=JX)
  have O_Exposed_init0:=WI (P:=P) (w:=w) (base:=base) c D_Exposed_init0
  have B2_Exposed_init0:=zA D_Exposed_init0
  obtain ⟨fd_TooMany_init0,D_TooMany_init0⟩:=c.def_ 29 (d:=J4)
  have O_TooMany_init0:=WL (P:=P) (w:=w) (base:=base) c D_TooMany_init0
  have B2_TooMany_init0:=zu D_TooMany_init0
  obtain ⟨fd_TooLong_init0,D_TooLong_init0⟩:=c.def_ 30 (d:=J0)
  have O_TooLong_init0:=Ww (P:=P) (w:=w) (base:=base) c D_TooLong_init0
  have B2_TooLong_init0:=zG D_TooLong_init0
  exact WH D vA rfl rfl fun cdv A outer s H E hr hg=>
    jl (vf (i:=1) vA.nd rfl (by first | exact .inl rfl | exact .inr rfl) (Jb (ja (Jt (ja (jr (OexC.mkE (c.oex 14)) (c.xin 16).1 (c.xin 16).2 O_InvalidPiece_init0 (hr.mono (by decide)) hg (takes_of rfl rfl rfl rfl) (by rfl) (c.glo 17) (yJ D_InvalidPiece_init0) (fun _ _ _=>rfl) w7 (Jv (jb (pv 0)) (JW))) (ja (jk) (ji)))) (ja (Jt (ja (jr (OexC.mkE (c.oex 8)) (c.xin 12).1 (c.xin 12).2 O_InvalidLength_init0 (hr.mono (by decide)) hg (takes_of rfl rfl rfl rfl) (by rfl) (c.glo 13) (zt D_InvalidLength_init0) (fun _ _ _=>rfl) yC (Jv (jb (pv 0)) (JW))) (ja (jk) (ji)))) (ji)))))
    (jl (vf (i:=1) vA.nd rfl (by first | exact .inl rfl | exact .inr rfl) (vn wZ (jb (pv 1)) (Jb (ja (Jt (ja (jr (OexC.mkE (c.oex 22)) (c.xin 24).1 (c.xin 24).2 O_InvalidCount_init0 (hr.mono (by decide)) hg (takes_of rfl rfl rfl rfl) (by rfl) (c.glo 25) (zT D_InvalidCount_init0) (fun _ _ _=>rfl) yH (Jv (jb (pv 0)) (JW))) (ja (jk) (ji)))) (ja (Jt (ja (jr (OexC.mkE (c.oex 18)) (c.xin 20).1 (c.xin 20).2 O_InvalidRecord_init0 (hr.mono (by decide)) hg (takes_of rfl rfl rfl rfl) (by rfl) (c.glo 21) (yo D_InvalidRecord_init0) (fun _ _ _=>rfl) wX (Jv (jb (pv 0)) (JW))) (ja (jk) (ji)))) (ji))))))
    (jl (vf (i:=1) vA.nd rfl (by first | exact .inl rfl | exact .inr rfl) (vn wZ (jb (pv 1)) (Jb (ja (Jt (ja (jr (OexC.mkE (c.oex 30)) (c.xin 32).1 (c.xin 32).2 O_InvalidVisit_init0 (hr.mono (by decide)) hg (takes_of rfl rfl rfl rfl) (by rfl) (c.glo 33) (zg D_InvalidVisit_init0) (fun _ _ _=>rfl) yf (Jv (jb (pv 0)) (JW))) (ja (jk) (ji)))) (ja (Jt (ja (jr (OexC.mkE (c.oex 26)) (c.xin 28).1 (c.xin 28).2 O_InvalidVisits_init0 (hr.mono (by decide)) hg (takes_of rfl rfl rfl rfl) (by rfl) (c.glo 29) (yB D_InvalidVisits_init0) (fun _ _ _=>rfl) wR (Jv (jb (pv 0)) (JW))) (ja (jk) (ji)))) (ji))))))
    (jl (vf (i:=1) vA.nd rfl (by first | exact .inl rfl | exact .inr rfl) (vn wZ (jb (pv 1)) (Jb (ja (Jt (ja (jr (OexC.mkE (c.oex 38)) (c.xin 40).1 (c.xin 40).2 O_InvalidSupply_init0 (hr.mono (by decide)) hg (takes_of rfl rfl rfl rfl) (by rfl) (c.glo 41) (yq D_InvalidSupply_init0) (fun _ _ _=>rfl) wQ (Jv (jb (pv 0)) (JW))) (ja (jk) (ji)))) (ja (Jt (ja (jr (OexC.mkE (c.oex 34)) (c.xin 36).1 (c.xin 36).2 O_InvalidWindow_init0 (hr.mono (by decide)) hg (takes_of rfl rfl rfl rfl) (by rfl) (c.glo 37) (zI D_InvalidWindow_init0) (fun _ _ _=>rfl) yD (Jv (jb (pv 0)) (JW))) (ja (jk) (ji)))) (ji))))))
    (jl (vf (i:=1) vA.nd rfl (by first | exact .inl rfl | exact .inr rfl) (vn wZ (jb (pv 1)) (Jb (ja (Jt (ja (jr (OexC.mkE (c.oex 46)) (c.xin 48).1 (c.xin 48).2 O_InvalidStation_init0 (hr.mono (by decide)) hg (takes_of rfl rfl rfl rfl) (by rfl) (c.glo 49) (yE D_InvalidStation_init0) (fun _ _ _=>rfl) wO (Jv (jb (pv 0)) (JW))) (ja (jk) (ji)))) (ja (Jt (ja (jr (OexC.mkE (c.oex 42)) (c.xin 44).1 (c.xin 44).2 O_InvalidName_init0 (hr.mono (by decide)) hg (takes_of rfl rfl rfl rfl) (by rfl) (c.glo 45) (Ys D_InvalidName_init0) (fun _ _ _=>rfl) zh (Jv (jb (pv 0)) (JW))) (ja (jk) (ji)))) (ji))))))
    (jl (vf (i:=1) vA.nd rfl (by first | exact .inl rfl | exact .inr rfl) (vn wZ (jb (pv 1)) (Jb (ja (Jt (ja (jr (OexC.mkE (c.oex 54)) (c.xin 56).1 (c.xin 56).2 O_InvalidPath_init0 (hr.mono (by decide)) hg (takes_of rfl rfl rfl rfl) (by rfl) (c.glo 57) (zb D_InvalidPath_init0) (fun _ _ _=>rfl) ym (Jv (jb (pv 0)) (JW))) (ja (jk) (ji)))) (ja (Jt (ja (jr (OexC.mkE (c.oex 50)) (c.xin 52).1 (c.xin 52).2 O_InvalidSplit_init0 (hr.mono (by decide)) hg (takes_of rfl rfl rfl rfl) (by rfl) (c.glo 53) (yI D_InvalidSplit_init0) (fun _ _ _=>rfl) w9 (Jv (jb (pv 0)) (JW))) (ja (jk) (ji)))) (ji))))))
    (jl (vf (i:=1) vA.nd rfl (by first | exact .inl rfl | exact .inr rfl) (vn wZ (jb (pv 1)) (Jb (ja (Jt (ja (jr (OexC.mkE (c.oex 62)) (c.xin 64).1 (c.xin 64).2 O_InvalidTime_init0 (hr.mono (by decide)) hg (takes_of rfl rfl rfl rfl) (by rfl) (c.glo 65) (Yj D_InvalidTime_init0) (fun _ _ _=>rfl) y4 (Jv (jb (pv 0)) (JW))) (ja (jk) (ji)))) (ja (Jt (ja (jr (OexC.mkE (c.oex 58)) (c.xin 60).1 (c.xin 60).2 O_InvalidTick_init0 (hr.mono (by decide)) hg (takes_of rfl rfl rfl rfl) (by rfl) (c.glo 61) (Yu D_InvalidTick_init0) (fun _ _ _=>rfl) y6 (Jv (jb (pv 0)) (JW))) (ja (jk) (ji)))) (ji))))))
    (jl (vf (i:=1) vA.nd rfl (by first | exact .inl rfl | exact .inr rfl) (vn wZ (jb (pv 1)) (Jb (ja (Jt (ja (jr (OexC.mkE (c.oex 70)) (c.xin 72).1 (c.xin 72).2 O_InvalidFault_init0 (hr.mono (by decide)) hg (takes_of rfl rfl rfl rfl) (by rfl) (c.glo 73) (zd D_InvalidFault_init0) (fun _ _ _=>rfl) yg (Jv (jb (pv 0)) (JW))) (ja (jk) (ji)))) (ja (Jt (ja (jr (OexC.mkE (c.oex 66)) (c.xin 68).1 (c.xin 68).2 O_InvalidFaults_init0 (hr.mono (by decide)) hg (takes_of rfl rfl rfl rfl) (by rfl) (c.glo 69) (yy D_InvalidFaults_init0) (fun _ _ _=>rfl) wW (Jv (jb (pv 0)) (JW))) (ja (jk) (ji)))) (ji))))))
    (jl (vf (i:=1) vA.nd rfl (by first | exact .inl rfl | exact .inr rfl) (vn wZ (jb (pv 1)) (Jb (ja (Jt (ja (jr (OexC.mkE (c.oex 78)) (c.xin 80).1 (c.xin 80).2 O_InvalidText_init0 (hr.mono (by decide)) hg (takes_of rfl rfl rfl rfl) (by rfl) (c.glo 81) (YU D_InvalidText_init0) (fun _ _ _=>rfl) zC (Jv (jb (pv 0)) (JW))) (ja (jk) (ji)))) (ja (Jt (ja (jr (OexC.mkE (c.oex 74)) (c.xin 76).1 (c.xin 76).2 O_InvalidCommand_init0 (hr.mono (by decide)) hg (takes_of rfl rfl rfl rfl) (by rfl) (c.glo 77) (za D_InvalidCommand_init0) (fun _ _ _=>rfl) yn (Jv (jb (pv 0)) (JW))) (ja (jk) (ji)))) (ji))))))
    (jl (vf (i:=1) vA.nd rfl (by first | exact .inl rfl | exact .inr rfl) (vn wZ (jb (pv 1)) (Jb (ja (Jt (ja (jr (Vi.mkE wB (c.oeb 88)) (c.xin 90).1 (c.xin 90).2 O_UnknownStation_init0 (hr.mono (by decide)) hg (takes_of rfl rfl rfl rfl) (by rfl) (c.glo 91) (y8 D_UnknownStation_init0) (fun _ _ _=>rfl) yk (Jv (jb (pv 0)) (JW))) (ja (jk) (ji)))) (ja (Jt (ja (jr (Vi.mkE wB (c.oeb 82)) (c.xin 86).1 (c.xin 86).2 O_UnknownStream_init0 (hr.mono (by decide)) hg (takes_of rfl rfl rfl rfl) (by rfl) (c.glo 87) (zM D_UnknownStream_init0) (fun _ _ _=>rfl) yt (Jv (jb (pv 0)) (JW))) (ja (jk) (ji)))) (ji))))))
    (jl (vf (i:=1) vA.nd rfl (by first | exact .inl rfl | exact .inr rfl) (vn wZ (jb (pv 1)) (Jb (ja (Jt (ja (jr (Vi.mkE wB (c.oeb 98)) (c.xin 100).1 (c.xin 100).2 O_UnknownUnit_init0 (hr.mono (by decide)) hg (takes_of rfl rfl rfl rfl) (by rfl) (c.glo 101) (Ym D_UnknownUnit_init0) (fun _ _ _=>rfl) yZ (Jv (jb (pv 0)) (JW))) (ja (jk) (ji)))) (ja (Jt (ja (jr (Vi.mkE jI (c.oeb 92)) (c.xin 96).1 (c.xin 96).2 O_NameTaken_init0 (hr.mono (by decide)) hg (takes_of rfl rfl rfl rfl) (by rfl) (c.glo 97) (Y3 D_NameTaken_init0) (fun _ _ _=>rfl) zS (Jv (jb (pv 0)) (JW))) (ja (jk) (ji)))) (ji))))))
    (jl (vf (i:=1) vA.nd rfl (by first | exact .inl rfl | exact .inr rfl) (vn wZ (jb (pv 1)) (Jb (ja (Jt (ja (jr (Vi.mkE jI (c.oeb 110)) (c.xin 112).1 (c.xin 112).2 O_TooSlow_init0 (hr.mono (by decide)) hg (takes_of rfl rfl rfl rfl) (by rfl) (c.glo 113) (VJ D_TooSlow_init0) (fun _ _ _=>rfl) YJ (Jv (jb (pv 0)) (JW))) (ja (jk) (ji)))) (ja (Jt (ja (jr (Vi.mkE jI (c.oeb 106)) (c.xin 108).1 (c.xin 108).2 O_Refused_init0 (hr.mono (by decide)) hg (takes_of rfl rfl rfl rfl) (by rfl) (c.glo 109) (Y1 D_Refused_init0) (fun _ _ _=>rfl) zV (Jv (jb (pv 0)) (JW))) (ja (jk) (ji)))) (ja (Jt (ja (jr (Vi.mkE jI (c.oeb 102)) (c.xin 104).1 (c.xin 104).2 O_NoSplits_init0 (hr.mono (by decide)) hg (takes_of rfl rfl rfl rfl) (by rfl) (c.glo 105) (Vo D_NoSplits_init0) (fun _ _ _=>rfl) Yo (Jv (jb (pv 0)) (JW))) (ja (jk) (ji)))) (ji)))))))
    (jl (vf (i:=1) vA.nd rfl (by first | exact .inl rfl | exact .inr rfl) (vn wZ (jb (pv 1)) (Jb (ja (Jt (ja (jr (Vi.mkE jI (c.oeb 118)) (c.xin 120).1 (c.xin 120).2 O_Exposed_init0 (hr.mono (by decide)) hg (takes_of rfl rfl rfl rfl) (by rfl) (c.glo 121) (Vk D_Exposed_init0) (fun _ _ _=>rfl) Yl (Jv (jb (pv 0)) (JW))) (ja (jk) (ji)))) (ja (Jt (ja (jr (Vi.mkE jI (c.oeb 114)) (c.xin 116).1 (c.xin 116).2 O_NotLate_init0 (hr.mono (by decide)) hg (takes_of rfl rfl rfl rfl) (by rfl) (c.glo 117) (VU D_NotLate_init0) (fun _ _ _=>rfl) YM (Jv (jb (pv 0)) (JW))) (ja (jk) (ji)))) (ji))))))
    (va (vq (vn wZ (jb (pv 1)) (Jb (ja (Jt (ja (jr (Vi.mkE jal (c.oeb 128)) (c.xin 130).1 (c.xin 130).2 O_TooLong_init0 (hr.mono (by decide)) hg (takes_of rfl rfl rfl rfl) (by rfl) (c.glo 131) (VF D_TooLong_init0) (fun _ _ _=>rfl) YQ (Jv (jb (pv 0)) (JW))) (ja (jk) (ji)))) (ja (Jt (ja (jr (Vi.mkE jal (c.oeb 122)) (c.xin 126).1 (c.xin 126).2 O_TooMany_init0 (hr.mono (by decide)) hg (takes_of rfl rfl rfl rfl) (by rfl) (c.glo 127) (VL D_TooMany_init0) (fun _ _ _=>rfl) YH (Jv (jb (pv 0)) (JW))) (ja (jk) (ji)))) (ji)))))))))))))))))))
theorem JG:FnScope ["_law_thing_here","_law_found"] ["_law_thing_here"] (defScope VR):=⟨rfl,rfl,rfl,by decide +kernel,rfl,by decide +kernel,by decide +kernel⟩
def Vw:MS:=
    Jo (jdt 1 (jkn (je (jv "InvalidPiece" JM 1 0 (fun as bs=>[as.getD 0 (.dat .non)]) (jQ (jh 0) (jn)) (jn)) (je (jv "InvalidLength" Jw 1 0 (fun as bs=>[as.getD 0 (.dat .non)]) (jQ (jh 0) (jn)) (jn)) (je (jv "InvalidCount" JK 1 0 (fun as bs=>[as.getD 0 (.dat .non)]) (jQ (jh 0) (jn)) (jn)) (je (jv "InvalidRecord" JB 1 0 (fun as bs=>[as.getD 0 (.dat .non)]) (jQ (jh 0) (jn)) (jn)) (je (jv "InvalidVisit" JH 1 0 (fun as bs=>[as.getD 0 (.dat .non)]) (jQ (jh 0) (jn)) (jn)) (jY))))))))
    (Jo (jdt 1 (jjY 1 (zk (je (jv "InvalidVisits" JC 1 0 (fun as bs=>[as.getD 0 (.dat .non)]) (jQ (jh 0) (jn)) (jn)) (je (jv "InvalidSupply" Jx 1 0 (fun as bs=>[as.getD 0 (.dat .non)]) (jQ (jh 0) (jn)) (jn)) (je (jv "InvalidWindow" JA 1 0 (fun as bs=>[as.getD 0 (.dat .non)]) (jQ (jh 0) (jn)) (jn)) (je (jv "InvalidStation" Jr 1 0 (fun as bs=>[as.getD 0 (.dat .non)]) (jQ (jh 0) (jn)) (jn)) (jY))))))))
    (Jo (jdt 1 (jjY 1 (zk (je (jv "InvalidName" JU 1 0 (fun as bs=>[as.getD 0 (.dat .non)]) (jQ (jh 0) (jn)) (jn)) (je (jv "InvalidPath" JQ 1 0 (fun as bs=>[as.getD 0 (.dat .non)]) (jQ (jh 0) (jn)) (jn)) (je (jv "InvalidSplit" JL 1 0 (fun as bs=>[as.getD 0 (.dat .non)]) (jQ (jh 0) (jn)) (jn)) (je (jv "InvalidTime" JT 1 0 (fun as bs=>[as.getD 0 (.dat .non)]) (jQ (jh 0) (jn)) (jn)) (jY))))))))
    (Jo (jdt 1 (jjY 1 (zk (je (jv "InvalidTick" JR 1 0 (fun as bs=>[as.getD 0 (.dat .non)]) (jQ (jh 0) (jn)) (jn)) (je (jv "InvalidFault" JJ 1 0 (fun as bs=>[as.getD 0 (.dat .non)]) (jQ (jh 0) (jn)) (jn)) (je (jv "InvalidFaults" JD 1 0 (fun as bs=>[as.getD 0 (.dat .non)]) (jQ (jh 0) (jn)) (jn)) (je (jv "InvalidText" JP 1 0 (fun as bs=>[as.getD 0 (.dat .non)]) (jQ (jh 0) (jn)) (jn)) (jY))))))))
    (Jo (jdF 1 (jv "InvalidCommand" Jq 1 0 (fun as bs=>[as.getD 0 (.dat .non)]) (jQ (jh 0) (jn)) (jn)))
    (Jo (jdt 1 (jjY 1 (zk (je (jv "UnknownStation" Jp 1 0 (fun as bs=>[as.getD 0 (.dat .non)]) (jQ (jh 0) (jn)) (jn)) (je (jv "UnknownStream" Jy 1 0 (fun as bs=>[as.getD 0 (.dat .non)]) (jQ (jh 0) (jn)) (jn)) (je (jv "UnknownUnit" JS 1 0 (fun as bs=>[as.getD 0 (.dat .non)]) (jQ (jh 0) (jn)) (jn)) (je (jv "NameTaken" vh 1 0 (fun as bs=>[as.getD 0 (.dat .non)]) (jQ (jh 0) (jn)) (jn)) (je (jv "TooSlow" vK 1 0 (fun as bs=>[as.getD 0 (.dat .non)]) (jQ (jh 0) (jn)) (jn)) (jY)))))))))
    (Jo (jdt 1 (jjY 1 (zk (je (jv "Refused" vL 1 0 (fun as bs=>[as.getD 0 (.dat .non)]) (jQ (jh 0) (jn)) (jn)) (je (jv "NoSplits" vr 1 0 (fun as bs=>[as.getD 0 (.dat .non)]) (jQ (jh 0) (jn)) (jn)) (je (jv "Exposed" vT 1 0 (fun as bs=>[as.getD 0 (.dat .non)]) (jQ (jh 0) (jn)) (jn)) (je (jv "NotLate" vJ 1 0 (fun as bs=>[as.getD 0 (.dat .non)]) (jQ (jh 0) (jn)) (jn)) (je (jv "TooLong" vU 1 0 (fun as bs=>[as.getD 0 (.dat .non)]) (jQ (jh 0) (jn)) (jn)) (jY)))))))))
    (YY (jhG 1 (zk (je (jv "TooMany" vM 1 0 (fun as bs=>[as.getD 0 (.dat .non)]) (jQ (jh 0) (jn)) (jn)) (jY)))))))))))
def zf:List FA→RF:=wj 1 2 Vw
theorem jci {P:Program} {w:World} {K:PySem.W.Frag} {mg:Str→Option Value} {base:Heap} (c:Kn fa fn K mg) {fd:FuncData} (D:jG K vl fd):FnG P w K mg base (L2.CX P w) 3 (vl.ad.a K) fd ["_law_thing_here"] (spF ⟨He.ga K,none,[]⟩ K zf):=by
  obtain ⟨fd_InvalidVisit_init0,D_InvalidVisit_init0⟩:=c.def_ 7 (d:=j6)
  have O_InvalidVisit_init0:=zE (P:=P) (w:=w) (base:=base) c D_InvalidVisit_init0
  have B2_InvalidVisit_init0:=wG D_InvalidVisit_init0
  obtain ⟨fd_InvalidRecord_init0,D_InvalidRecord_init0⟩:=c.def_ 4 (d:=jW)
  have O_InvalidRecord_init0:=yN (P:=P) (w:=w) (base:=base) c D_InvalidRecord_init0
  have B2_InvalidRecord_init0:=wy D_InvalidRecord_init0
  obtain ⟨fd_InvalidCount_init0,D_InvalidCount_init0⟩:=c.def_ 5 (d:=j5)
  have O_InvalidCount_init0:=zN (P:=P) (w:=w) (base:=base) c D_InvalidCount_init0
  have B2_InvalidCount_init0:=wF D_InvalidCount_init0
  obtain ⟨fd_InvalidLength_init0,D_InvalidLength_init0⟩:=c.def_ 2 (d:=jV)
  have O_InvalidLength_init0:=yW (P:=P) (w:=w) (base:=base) c D_InvalidLength_init0
  have B2_InvalidLength_init0:=wu D_InvalidLength_init0
  obtain ⟨fd_InvalidPiece_init0,D_InvalidPiece_init0⟩:=c.def_ 3 (d:=j7)
  have O_InvalidPiece_init0:=zo (P:=P) (w:=w) (base:=base) c D_InvalidPiece_init0
  have B2_InvalidPiece_init0:=wD D_InvalidPiece_init0
  obtain ⟨fd_InvalidStation_init0,D_InvalidStation_init0⟩:=c.def_ 11 (d:=jM)
  have O_InvalidStation_init0:=yA (P:=P) (w:=w) (base:=base) c D_InvalidStation_init0
  have B2_InvalidStation_init0:=wl D_InvalidStation_init0
  obtain ⟨fd_InvalidWindow_init0,D_InvalidWindow_init0⟩:=c.def_ 8 (d:=jT)
  have O_InvalidWindow_init0:=yX (P:=P) (w:=w) (base:=base) c D_InvalidWindow_init0
  have B2_InvalidWindow_init0:=wv D_InvalidWindow_init0
  obtain ⟨fd_InvalidSupply_init0,D_InvalidSupply_init0⟩:=c.def_ 9 (d:=jS)
  have O_InvalidSupply_init0:=yQ (P:=P) (w:=w) (base:=base) c D_InvalidSupply_init0
  have B2_InvalidSupply_init0:=wz D_InvalidSupply_init0
  obtain ⟨fd_InvalidVisits_init0,D_InvalidVisits_init0⟩:=c.def_ 6 (d:=jX)
  have O_InvalidVisits_init0:=yV (P:=P) (w:=w) (base:=base) c D_InvalidVisits_init0
  have B2_InvalidVisits_init0:=ww D_InvalidVisits_init0
  obtain ⟨fd_InvalidTime_init0,D_InvalidTime_init0⟩:=c.def_ 15 (d:=Jh)
  have O_InvalidTime_init0:=Yi (P:=P) (w:=w) (base:=base) c D_InvalidTime_init0
  have B2_InvalidTime_init0:=wS D_InvalidTime_init0
  obtain ⟨fd_InvalidSplit_init0,D_InvalidSplit_init0⟩:=c.def_ 12 (d:=j4)
  have O_InvalidSplit_init0:=zB (P:=P) (w:=w) (base:=base) c D_InvalidSplit_init0
  have B2_InvalidSplit_init0:=wC D_InvalidSplit_init0
  obtain ⟨fd_InvalidPath_init0,D_InvalidPath_init0⟩:=c.def_ 13 (d:=Jd)
  have O_InvalidPath_init0:=zZ (P:=P) (w:=w) (base:=base) c D_InvalidPath_init0
  have B2_InvalidPath_init0:=wU D_InvalidPath_init0
  obtain ⟨fd_InvalidName_init0,D_InvalidName_init0⟩:=c.def_ 10 (d:=Jc)
  have O_InvalidName_init0:=Yh (P:=P) (w:=w) (base:=base) c D_InvalidName_init0
  have B2_InvalidName_init0:=wV D_InvalidName_init0
  obtain ⟨fd_InvalidText_init0,D_InvalidText_init0⟩:=c.def_ 19 (d:=Jg)
  have O_InvalidText_init0:=Ya (P:=P) (w:=w) (base:=base) c D_InvalidText_init0
  have B2_InvalidText_init0:=wT D_InvalidText_init0
  obtain ⟨fd_InvalidFaults_init0,D_InvalidFaults_init0⟩:=c.def_ 16 (d:=jU)
  have O_InvalidFaults_init0:=yO (P:=P) (w:=w) (base:=base) c D_InvalidFaults_init0
  have B2_InvalidFaults_init0:=wr D_InvalidFaults_init0
  obtain ⟨fd_InvalidFault_init0,D_InvalidFault_init0⟩:=c.def_ 17 (d:=j0)
  have O_InvalidFault_init0:=zK (P:=P) (w:=w) (base:=base) c D_InvalidFault_init0
  have B2_InvalidFault_init0:=wE D_InvalidFault_init0
  obtain ⟨fd_InvalidTick_init0,D_InvalidTick_init0⟩:=c.def_ 14 (d:=Jf)
  have O_InvalidTick_init0:=zX (P:=P) (w:=w) (base:=base) c D_InvalidTick_init0
  have B2_InvalidTick_init0:=wY D_InvalidTick_init0
  obtain ⟨fd_InvalidCommand_init0,D_InvalidCommand_init0⟩:=c.def_ 18 (d:=jN)
  have O_InvalidCommand_init0:=yz (P:=P) (w:=w) (base:=base) c D_InvalidCommand_init0
  have B2_InvalidCommand_init0:=wk D_InvalidCommand_init0
  obtain ⟨fd_TooSlow_init0,D_TooSlow_init0⟩:=c.def_ 26 (d:=JZ)
  have O_TooSlow_init0:=WK (P:=P) (w:=w) (base:=base) c D_TooSlow_init0
  have B2_TooSlow_init0:=zq D_TooSlow_init0
  obtain ⟨fd_NameTaken_init0,D_NameTaken_init0⟩:=c.def_ 22 (d:=Jz)
  have O_NameTaken_init0:=Ve (P:=P) (w:=w) (base:=base) c D_NameTaken_init0
  have B2_NameTaken_init0:=yw D_NameTaken_init0
  obtain ⟨fd_UnknownUnit_init0,D_UnknownUnit_init0⟩:=c.def_ 23 (d:=Ji)
  have O_UnknownUnit_init0:=Yd (P:=P) (w:=w) (base:=base) c D_UnknownUnit_init0
  have B2_UnknownUnit_init0:=wM D_UnknownUnit_init0
  obtain ⟨fd_UnknownStream_init0,D_UnknownStream_init0⟩:=c.def_ 20 (d:=jR)
  have O_UnknownStream_init0:=yU (P:=P) (w:=w) (base:=base) c D_UnknownStream_init0
  have B2_UnknownStream_init0:=wx D_UnknownStream_init0
  obtain ⟨fd_UnknownStation_init0,D_UnknownStation_init0⟩:=c.def_ 21 (d:=jK)
  have O_UnknownStation_init0:=yF (P:=P) (w:=w) (base:=base) c D_UnknownStation_init0
  have B2_UnknownStation_init0:=wi D_UnknownStation_init0
  obtain ⟨fd_TooLong_init0,D_TooLong_init0⟩:=c.def_ 30 (d:=J0)
  have O_TooLong_init0:=Ww (P:=P) (w:=w) (base:=base) c D_TooLong_init0
  have B2_TooLong_init0:=zG D_TooLong_init0
  obtain ⟨fd_NotLate_init0,D_NotLate_init0⟩:=c.def_ 27 (d:=J5)
  have O_NotLate_init0:=WA (P:=P) (w:=w) (base:=base) c D_NotLate_init0
  have B2_NotLate_init0:=zn D_NotLate_init0
  obtain ⟨fd_Exposed_init0,D_Exposed_init0⟩:=c.def_ 28 (d:=JX)
  have O_Exposed_init0:=WI (P:=P) (w:=w) (base:=base) c D_Exposed_init0
  have B2_Exposed_init0:=zA D_Exposed_init0
  obtain ⟨fd_NoSplits_init0,D_NoSplits_init0⟩:=c.def_ 24 (d:=JN)
  have O_NoSplits_init0:=VX (P:=P) (w:=w) (base:=base) c D_NoSplits_init0
  have B2_NoSplits_init0:=yT D_NoSplits_init0
  obtain ⟨fd_Refused_init0,D_Refused_init0⟩:=c.def_ 25 (d:=J3)
  have O_Refused_init0:=Wz (P:=P) (w:=w) (base:=base) c D_Refused_init0
  have B2_Refused_init0:=zJ D_Refused_init0
  obtain ⟨fd_TooMany_init0,D_TooMany_init0⟩:=c.def_ 29 (d:=J4)
  have O_TooMany_init0:=WL (P:=P) (w:=w) (base:=base) c D_TooMany_init0
  have B2_TooMany_init0:=zu D_TooMany_init0
  exact WH D JG rfl rfl fun cdv A outer s H E hr hg=>
    jl (jb1 (i:=1) JG.nd rfl (by first | exact .inl rfl | exact .inr rfl) (jg1 (ja (jF (OexC.mkE (c.oex 14)) (c.xin 16).1 (c.xin 16).2 O_InvalidPiece_init0 (hr.mono (by decide)) hg (takes_of rfl rfl rfl rfl) (by rfl) (c.glo 17) (Wp D_InvalidPiece_init0) (fun _ _ _=>rfl) YZ (jB (jb (pv 0)) (jJ))) (ja (jF (OexC.mkE (c.oex 8)) (c.xin 12).1 (c.xin 12).2 O_InvalidLength_init0 (hr.mono (by decide)) hg (takes_of rfl rfl rfl rfl) (by rfl) (c.glo 13) (VO D_InvalidLength_init0) (fun _ _ _=>rfl) YR (jB (jb (pv 0)) (jJ))) (ja (jF (OexC.mkE (c.oex 22)) (c.xin 24).1 (c.xin 24).2 O_InvalidCount_init0 (hr.mono (by decide)) hg (takes_of rfl rfl rfl rfl) (by rfl) (c.glo 25) (Wi D_InvalidCount_init0) (fun _ _ _=>rfl) Y6 (jB (jb (pv 0)) (jJ))) (ja (jF (OexC.mkE (c.oex 18)) (c.xin 20).1 (c.xin 20).2 O_InvalidRecord_init0 (hr.mono (by decide)) hg (takes_of rfl rfl rfl rfl) (by rfl) (c.glo 21) (VZ D_InvalidRecord_init0) (fun _ _ _=>rfl) YT (jB (jb (pv 0)) (jJ))) (ja (jF (OexC.mkE (c.oex 30)) (c.xin 32).1 (c.xin 32).2 O_InvalidVisit_init0 (hr.mono (by decide)) hg (takes_of rfl rfl rfl rfl) (by rfl) (c.glo 33) (V6 D_InvalidVisit_init0) (fun _ _ _=>rfl) Y7 (jB (jb (pv 0)) (jJ))) (ji))))))))
    (jl (jb1 (i:=1) JG.nd rfl (by first | exact .inl rfl | exact .inr rfl) (jf3 (pv 1) (Jb (ja (jF (OexC.mkE (c.oex 26)) (c.xin 28).1 (c.xin 28).2 O_InvalidVisits_init0 (hr.mono (by decide)) hg (takes_of rfl rfl rfl rfl) (by rfl) (c.glo 29) (VG D_InvalidVisits_init0) (fun _ _ _=>rfl) YW (jB (jb (pv 0)) (jJ))) (ja (jF (OexC.mkE (c.oex 38)) (c.xin 40).1 (c.xin 40).2 O_InvalidSupply_init0 (hr.mono (by decide)) hg (takes_of rfl rfl rfl rfl) (by rfl) (c.glo 41) (V0 D_InvalidSupply_init0) (fun _ _ _=>rfl) YV (jB (jb (pv 0)) (jJ))) (ja (jF (OexC.mkE (c.oex 34)) (c.xin 36).1 (c.xin 36).2 O_InvalidWindow_init0 (hr.mono (by decide)) hg (takes_of rfl rfl rfl rfl) (by rfl) (c.glo 37) (VC D_InvalidWindow_init0) (fun _ _ _=>rfl) YF (jB (jb (pv 0)) (jJ))) (ja (jF (OexC.mkE (c.oex 46)) (c.xin 48).1 (c.xin 48).2 O_InvalidStation_init0 (hr.mono (by decide)) hg (takes_of rfl rfl rfl rfl) (by rfl) (c.glo 49) (Vj D_InvalidStation_init0) (fun _ _ _=>rfl) Yq (jB (jb (pv 0)) (jJ))) (ji))))))))
    (jl (jb1 (i:=1) JG.nd rfl (by first | exact .inl rfl | exact .inr rfl) (jf3 (pv 1) (Jb (ja (jF (OexC.mkE (c.oex 42)) (c.xin 44).1 (c.xin 44).2 O_InvalidName_init0 (hr.mono (by decide)) hg (takes_of rfl rfl rfl rfl) (by rfl) (c.glo 45) (jad D_InvalidName_init0) (fun _ _ _=>rfl) Vl (jB (jb (pv 0)) (jJ))) (ja (jF (OexC.mkE (c.oex 54)) (c.xin 56).1 (c.xin 56).2 O_InvalidPath_init0 (hr.mono (by decide)) hg (takes_of rfl rfl rfl rfl) (by rfl) (c.glo 57) (W3 D_InvalidPath_init0) (fun _ _ _=>rfl) Vr (jB (jb (pv 0)) (jJ))) (ja (jF (OexC.mkE (c.oex 50)) (c.xin 52).1 (c.xin 52).2 O_InvalidSplit_init0 (hr.mono (by decide)) hg (takes_of rfl rfl rfl rfl) (by rfl) (c.glo 53) (Wj D_InvalidSplit_init0) (fun _ _ _=>rfl) Y2 (jB (jb (pv 0)) (jJ))) (ja (jF (OexC.mkE (c.oex 62)) (c.xin 64).1 (c.xin 64).2 O_InvalidTime_init0 (hr.mono (by decide)) hg (takes_of rfl rfl rfl rfl) (by rfl) (c.glo 65) (WW D_InvalidTime_init0) (fun _ _ _=>rfl) Vh (jB (jb (pv 0)) (jJ))) (ji))))))))
    (jl (jb1 (i:=1) JG.nd rfl (by first | exact .inl rfl | exact .inr rfl) (jf3 (pv 1) (Jb (ja (jF (OexC.mkE (c.oex 58)) (c.xin 60).1 (c.xin 60).2 O_InvalidTick_init0 (hr.mono (by decide)) hg (takes_of rfl rfl rfl rfl) (by rfl) (c.glo 61) (WS D_InvalidTick_init0) (fun _ _ _=>rfl) Vt (jB (jb (pv 0)) (jJ))) (ja (jF (OexC.mkE (c.oex 70)) (c.xin 72).1 (c.xin 72).2 O_InvalidFault_init0 (hr.mono (by decide)) hg (takes_of rfl rfl rfl rfl) (by rfl) (c.glo 73) (Wg D_InvalidFault_init0) (fun _ _ _=>rfl) Y0 (jB (jb (pv 0)) (jJ))) (ja (jF (OexC.mkE (c.oex 66)) (c.xin 68).1 (c.xin 68).2 O_InvalidFaults_init0 (hr.mono (by decide)) hg (takes_of rfl rfl rfl rfl) (by rfl) (c.glo 69) (VP D_InvalidFaults_init0) (fun _ _ _=>rfl) YS (jB (jb (pv 0)) (jJ))) (ja (jF (OexC.mkE (c.oex 78)) (c.xin 80).1 (c.xin 80).2 O_InvalidText_init0 (hr.mono (by decide)) hg (takes_of rfl rfl rfl rfl) (by rfl) (c.glo 81) (W1 D_InvalidText_init0) (fun _ _ _=>rfl) Vn (jB (jb (pv 0)) (jJ))) (ji))))))))
    (jl (WM (pv 1) (jF (OexC.mkE (c.oex 74)) (c.xin 76).1 (c.xin 76).2 O_InvalidCommand_init0 (hr.mono (by decide)) hg (takes_of rfl rfl rfl rfl) (by rfl) (c.glo 77) (Vp D_InvalidCommand_init0) (fun _ _ _=>rfl) Yt (jB (jb (pv 0)) (jJ))))
    (jl (jb1 (i:=1) JG.nd rfl (by first | exact .inl rfl | exact .inr rfl) (jf3 (pv 1) (Jb (ja (jF (Vi.mkE wB (c.oeb 88)) (c.xin 90).1 (c.xin 90).2 O_UnknownStation_init0 (hr.mono (by decide)) hg (takes_of rfl rfl rfl rfl) (by rfl) (c.glo 91) (Vg D_UnknownStation_init0) (fun _ _ _=>rfl) Yp (jB (jb (pv 0)) (jJ))) (ja (jF (Vi.mkE wB (c.oeb 82)) (c.xin 86).1 (c.xin 86).2 O_UnknownStream_init0 (hr.mono (by decide)) hg (takes_of rfl rfl rfl rfl) (by rfl) (c.glo 87) (VV D_UnknownStream_init0) (fun _ _ _=>rfl) YE (jB (jb (pv 0)) (jJ))) (ja (jF (Vi.mkE wB (c.oeb 98)) (c.xin 100).1 (c.xin 100).2 O_UnknownUnit_init0 (hr.mono (by decide)) hg (takes_of rfl rfl rfl rfl) (by rfl) (c.glo 101) (jae D_UnknownUnit_init0) (fun _ _ _=>rfl) Vm (jB (jb (pv 0)) (jJ))) (ja (jF (Vi.mkE jI (c.oeb 92)) (c.xin 96).1 (c.xin 96).2 O_NameTaken_init0 (hr.mono (by decide)) hg (takes_of rfl rfl rfl rfl) (by rfl) (c.glo 97) (jbH D_NameTaken_init0) (fun _ _ _=>rfl) Wf (jB (jb (pv 0)) (jJ))) (ja (jF (Vi.mkE jI (c.oeb 110)) (c.xin 112).1 (c.xin 112).2 O_TooSlow_init0 (hr.mono (by decide)) hg (takes_of rfl rfl rfl rfl) (by rfl) (c.glo 113) (jcq D_TooSlow_init0) (fun _ _ _=>rfl) jan (jB (jb (pv 0)) (jJ))) (ji)))))))))
    (jl (jb1 (i:=1) JG.nd rfl (by first | exact .inl rfl | exact .inr rfl) (jf3 (pv 1) (Jb (ja (jF (Vi.mkE jI (c.oeb 106)) (c.xin 108).1 (c.xin 108).2 O_Refused_init0 (hr.mono (by decide)) hg (takes_of rfl rfl rfl rfl) (by rfl) (c.glo 109) (jb6 D_Refused_init0) (fun _ _ _=>rfl) jai (jB (jb (pv 0)) (jJ))) (ja (jF (Vi.mkE jI (c.oeb 102)) (c.xin 104).1 (c.xin 104).2 O_NoSplits_init0 (hr.mono (by decide)) hg (takes_of rfl rfl rfl rfl) (by rfl) (c.glo 105) (jbX D_NoSplits_init0) (fun _ _ _=>rfl) jac (jB (jb (pv 0)) (jJ))) (ja (jF (Vi.mkE jI (c.oeb 118)) (c.xin 120).1 (c.xin 120).2 O_Exposed_init0 (hr.mono (by decide)) hg (takes_of rfl rfl rfl rfl) (by rfl) (c.glo 121) (jcs D_Exposed_init0) (fun _ _ _=>rfl) jaV (jB (jb (pv 0)) (jJ))) (ja (jF (Vi.mkE jI (c.oeb 114)) (c.xin 116).1 (c.xin 116).2 O_NotLate_init0 (hr.mono (by decide)) hg (takes_of rfl rfl rfl rfl) (by rfl) (c.glo 117) (jch D_NotLate_init0) (fun _ _ _=>rfl) jak (jB (jb (pv 0)) (jJ))) (ja (jF (Vi.mkE jal (c.oeb 128)) (c.xin 130).1 (c.xin 130).2 O_TooLong_init0 (hr.mono (by decide)) hg (takes_of rfl rfl rfl rfl) (by rfl) (c.glo 131) (jb8 D_TooLong_init0) (fun _ _ _=>rfl) jaf (jB (jb (pv 0)) (jJ))) (ji)))))))))
    (va (vq (jiY (pv 1) (Jb (ja (jF (Vi.mkE jal (c.oeb 122)) (c.xin 126).1 (c.xin 126).2 O_TooMany_init0 (hr.mono (by decide)) hg (takes_of rfl rfl rfl rfl) (by rfl) (c.glo 127) (jcf D_TooMany_init0) (fun _ _ _=>rfl) jaW (jB (jb (pv 0)) (jJ))) (ji))))))))))))
theorem jjd:FnScope ["_law_e"] ["_law_e"] (defScope jgX):=⟨rfl,rfl,rfl,by decide +kernel,rfl,by decide +kernel,by decide +kernel⟩
def jgQ:MS:=
    Jo (V8 (jE (m1 (isX jH ["InvalidPiece","InvalidRecord","InvalidVisits","InvalidSupply","InvalidPath","InvalidSplit"]) (jh 0))) (YY (m1 (zm ["InvalidCurve","InvalidPiece","InvalidRecord","InvalidVisits","InvalidSupply","InvalidNetwork","InvalidPath","InvalidSplit","InvalidFaults","RunFailed"] "position") (jh 0))) (we))
    (Jo (V8 (jE (m1 (isX jH ["InvalidFaults"]) (jh 0))) (YY (m1 (zm ["InvalidCurve","InvalidPiece","InvalidRecord","InvalidVisits","InvalidSupply","InvalidNetwork","InvalidPath","InvalidSplit","InvalidFaults","RunFailed"] "position") (jh 0))) (we))
    (Jo (V8 (jE (m1 (isX jH ["InvalidVisit","InvalidStation","InvalidFault"]) (jh 0))) (YY (m1 (zm ["InvalidCurve","InvalidVisit","InvalidStation","InvalidNetwork","InvalidFault"] "problem") (jh 0))) (we))
    (Jo (V8 (jE (m1 (isX jH ["InvalidText"]) (jh 0))) (YY (m1 (zm ["InvalidText"] "line") (jh 0))) (we))
    (Jo (V8 (jE (m1 (isX jH ["NameTaken"]) (jh 0))) (YY (m1 (zm ["NameTaken"] "taken") (jh 0))) (we))
    (Jo (V8 (jE (m1 (isX jH ["TooSlow"]) (jh 0))) (YY (m1 (zm ["TooSlow"] "total") (jh 0))) (we))
    (Jo (V8 (jE (m1 (isX jH ["Refused"]) (jh 0))) (YY (m1 (zm ["Refused"] "refusal") (jh 0))) (we))
    (Jo (V8 (jE (m1 (isX jH ["NoSplits"]) (jh 0))) (YY (m1 (zm ["NoSplits"] "cases") (jh 0))) (we))
    (Jo (V8 (jE (m1 (isX jH ["Exposed"]) (jh 0))) (YY (m1 (zm ["Exposed"] "danger") (jh 0))) (we))
    (YY (mIf (jE (m1 (isX jH ["TooLong","TooMany"]) (jh 0))) (m1 (zm ["TooLong","TooMany"] "limit") (jh 0)) (m1 (zm ["InvalidLength","InvalidCount","InvalidWindow","InvalidName","InvalidTime","InvalidTick","InvalidCommand","UnknownStation","UnknownStream","UnknownUnit","NotLate"] "value") (jh 0))))))))))))
def zj:List FA→RF:=wj 1 1 jgQ
theorem jiw {P:Program} {w:World} {K:PySem.W.Frag} {mg:Str→Option Value} {base:Heap} (c:Kn fa fn K mg) {fd:FuncData} (D:jG K ja3 fd):FnG P w K mg base (L2.CX P w) 1 (ja3.ad.a K) fd ["_law_e"] (spF ⟨He.ga K,none,[]⟩ K zj):=by
  exact WH D jjd rfl rfl fun cdv A outer s H E hr hg=>
    jl (V3 (yd (jdZ (c.free 138) (by rfl) (c.kitVT 137 136 (ts:=[(.c "InvalidPiece"),(.c "InvalidRecord"),(.c "InvalidVisits"),(.c "InvalidSupply"),(.c "InvalidPath"),(.c "InvalidSplit")])) (jb (pv 0)) (pa_cons (pe_glob (v:= .ref _) (by rfl) (c.glo 17) rfl) (pa_cons (pe_glob (v:= .ref _) (by rfl) (c.glo 21) rfl) (pa_cons (pe_glob (v:= .ref _) (by rfl) (c.glo 29) rfl) (pa_cons (pe_glob (v:= .ref _) (by rfl) (c.glo 41) rfl) (pa_cons (pe_glob (v:= .ref _) (by rfl) (c.glo 57) rfl) (pa_cons (pe_glob (v:= .ref _) (by rfl) (c.glo 53) rfl) (pa_nil))))))) (.cons (.own _) (.cons (.own _) (.cons (.own _) (.cons (.own _) (.cons (.own _) (.cons (.own _) (.nil))))))) (Nat.le_of_ble_eq_true rfl))) (va (vq (vE (c.xfV 139) (jb (pv 0))))) (yx))
    (jl (V3 (yd (jL (c.free 138) (by rfl) (c.kitV 140 136 (t:=(.c "InvalidFaults"))) (jb (pv 0)) (pe_glob (v:= .ref _) (by rfl) (c.glo 69) rfl) (.own _))) (va (vq (vE (c.xfV 139) (jb (pv 0))))) (yx))
    (jl (V3 (yd (jdZ (c.free 138) (by rfl) (c.kitVT 141 136 (ts:=[(.c "InvalidVisit"),(.c "InvalidStation"),(.c "InvalidFault")])) (jb (pv 0)) (pa_cons (pe_glob (v:= .ref _) (by rfl) (c.glo 33) rfl) (pa_cons (pe_glob (v:= .ref _) (by rfl) (c.glo 49) rfl) (pa_cons (pe_glob (v:= .ref _) (by rfl) (c.glo 73) rfl) (pa_nil)))) (.cons (.own _) (.cons (.own _) (.cons (.own _) (.nil)))) (Nat.le_of_ble_eq_true rfl))) (va (vq (vE (c.xfV 142) (jb (pv 0))))) (yx))
    (jl (V3 (yd (jL (c.free 138) (by rfl) (c.kitV 143 136 (t:=(.c "InvalidText"))) (jb (pv 0)) (pe_glob (v:= .ref _) (by rfl) (c.glo 81) rfl) (.own _))) (va (vq (vE (c.xfV 144) (jb (pv 0))))) (yx))
    (jl (V3 (yd (jL (c.free 138) (by rfl) (c.kitV 145 136 (t:=(.c "NameTaken"))) (jb (pv 0)) (pe_glob (v:= .ref _) (by rfl) (c.glo 97) rfl) (.own _))) (va (vq (vE (c.xfV 146) (jb (pv 0))))) (yx))
    (jl (V3 (yd (jL (c.free 138) (by rfl) (c.kitV 147 136 (t:=(.c "TooSlow"))) (jb (pv 0)) (pe_glob (v:= .ref _) (by rfl) (c.glo 113) rfl) (.own _))) (va (vq (vE (c.xfV 148) (jb (pv 0))))) (yx))
    (jl (V3 (yd (jL (c.free 138) (by rfl) (c.kitV 149 136 (t:=(.c "Refused"))) (jb (pv 0)) (pe_glob (v:= .ref _) (by rfl) (c.glo 109) rfl) (.own _))) (va (vq (vE (c.xfV 150) (jb (pv 0))))) (yx))
    (jl (V3 (yd (jL (c.free 138) (by rfl) (c.kitV 151 136 (t:=(.c "NoSplits"))) (jb (pv 0)) (pe_glob (v:= .ref _) (by rfl) (c.glo 105) rfl) (.own _))) (va (vq (vE (c.xfV 152) (jb (pv 0))))) (yx))
    (jl (V3 (yd (jL (c.free 138) (by rfl) (c.kitV 153 136 (t:=(.c "Exposed"))) (jb (pv 0)) (pe_glob (v:= .ref _) (by rfl) (c.glo 121) rfl) (.own _))) (va (vq (vE (c.xfV 154) (jb (pv 0))))) (yx))
    (va (vq (jmv (yd (jdZ (c.free 138) (by rfl) (c.kitVT 155 136 (ts:=[(.c "TooLong"),(.c "TooMany")])) (jb (pv 0)) (pa_cons (pe_glob (v:= .ref _) (by rfl) (c.glo 131) rfl) (pa_cons (pe_glob (v:= .ref _) (by rfl) (c.glo 127) rfl) (pa_nil))) (.cons (.own _) (.cons (.own _) (.nil))) (Nat.le_of_ble_eq_true rfl))) (vE (c.xfV 156) (jb (pv 0))) (vE (c.xfV 157) (jb (pv 0))))))))))))))
theorem YL:FnScope ["_law_e","_law_found","_law_low","_law_word","_law_here"] ["_law_e"] (defScope jgZ):=⟨rfl,rfl,rfl,by decide +kernel,rfl,by decide +kernel,by decide +kernel⟩
def jg0:MS:=
    Jo (Vb (zk (je (m1 (isX jH ["InvalidCurve","InvalidPiece","InvalidLength","InvalidCount","InvalidRecord","InvalidVisit","InvalidVisits","InvalidSupply","InvalidWindow","InvalidStation","InvalidNetwork","InvalidName","InvalidPath","InvalidSplit","InvalidTime","InvalidTick","InvalidFault","InvalidFaults","InvalidHanded","InvalidBook","InvalidWeights","InvalidText","InvalidCommand"]) (jh 0)) (je (m1 (isX jH ["InvalidCurve","InvalidPiece","InvalidLength","InvalidCount","InvalidRecord","InvalidVisit","InvalidVisits","InvalidSupply","InvalidWindow","InvalidStation","InvalidNetwork","InvalidName","InvalidPath","InvalidSplit","InvalidTime","InvalidTick","InvalidFault","InvalidFaults","InvalidHanded","InvalidBook","InvalidWeights","InvalidText","InvalidCommand"]) (jh 0)) (je (m1 (isX jH ["UnknownStation","UnknownStream","UnknownUnit","NoLink"]) (jh 0)) (jY))))) (gNm 1))
    (Jo (Vb (m2 Vu (jh 1) (zk (je (m1 (isX jH ["NameTaken","NotGood","TooSlow","Refused","Overfull","NotPlain","HasReserves","NoSplits","Exposed","NotLate","RunFailed"]) (jh 0)) (je (m1 (isX jH ["TooLong","TooMany"]) (jh 0)) (jY))))) (gNm 1))
    (Jo (Vb (m1 (isX jH []) (jh 0)) (gNm 2))
    (YY (m2 Vu (mJn (mC (.str "")) (mLc (jh5 jk4 (je (mC (.str "dvlra")) (je (jh 1) (jY)))) (jnV 3 4) (jE (jh 4)) (jh 3) [3,4])) (m2 jj2 (mC (.str "low")) (JF jko (je (jh 2) (jY))))))))
def jfu:List FA→RF:=wj 1 5 jg0
theorem jiK {P:Program} {w:World} {K:PySem.W.Frag} {mg:Str→Option Value} {base:Heap} (c:Kn fa fn K mg) {fd:FuncData} (D:jG K ja4 fd):FnG P w K mg base (L2.CX P w) 1 (ja4.ad.a K) fd ["_law_e"] (spF ⟨He.ga K,none,[]⟩ K jfu):=by
  exact WH D YL rfl rfl fun cdv A outer s H E hr hg=>
    jl (vf (i:=1) YL.nd rfl (by first | exact .inl rfl | exact .inr rfl) (Jb (ja (jL (c.free 138) (by rfl) (c.kitV 162 136 (t:=(.c "DueError"))) (jb (pv 0)) (pe_glob (v:= .ref _) (by rfl) (c.glo 10) rfl) (.own _)) (ja (jL (c.free 138) (by rfl) (c.kitV 161 136 (t:=(.b "ValueError"))) (jb (pv 0)) (pe_bltn (v:= .ty "ValueError") (by rfl) (c.free 160) (by decide +kernel) rfl) (.ty _)) (ja (jL (c.free 138) (by rfl) (c.kitV 159 136 (t:=(.b "LookupError"))) (jb (pv 0)) (pe_bltn (v:= .ty "LookupError") (by rfl) (c.free 84) (by decide +kernel) rfl) (.ty _)) (ji))))))
    (jl (vf (i:=1) YL.nd rfl (by first | exact .inl rfl | exact .inr rfl) (vn wZ (jb (pv 1)) (Jb (ja (jL (c.free 138) (by rfl) (c.kitV 164 136 (t:=(.b "RuntimeError"))) (jb (pv 0)) (pe_bltn (v:= .ty "RuntimeError") (by rfl) (c.free 94) (by decide +kernel) rfl) (.ty _)) (ja (jL (c.free 138) (by rfl) (c.kitV 163 136 (t:=(.b "ArithmeticError"))) (jb (pv 0)) (pe_bltn (v:= .ty "ArithmeticError") (by rfl) (c.free 124) (by decide +kernel) rfl) (.ty _)) (ji))))))
    (jl (vf (i:=2) YL.nd rfl (by first | exact .inl rfl | exact .inr rfl) (jdZ (c.free 138) (by rfl) (c.kitVT 169 136 (ts:=[(.b "KeyError"),(.b "IndexError"),(.b "ZeroDivisionError"),(.b "OverflowError")])) (jb (pv 0)) (pa_cons (pe_bltn (v:= .ty "KeyError") (by rfl) (c.free 165) (by decide +kernel) rfl) (pa_cons (pe_bltn (v:= .ty "IndexError") (by rfl) (c.free 166) (by decide +kernel) rfl) (pa_cons (pe_bltn (v:= .ty "ZeroDivisionError") (by rfl) (c.free 167) (by decide +kernel) rfl) (pa_cons (pe_bltn (v:= .ty "OverflowError") (by rfl) (c.free 168) (by decide +kernel) rfl) (pa_nil))))) (.cons (.ty _) (.cons (.ty _) (.cons (.ty _) (.cons (.ty _) (.nil))))) (Nat.le_of_ble_eq_true rfl)))
    (va (vq (vn wZ (jkD (jk) (jjD (own:=[("_law_word",3),("_law_here",4)]) rfl YL.nd (jlf (by rfl) (c.free 134) (ja (jk) (ja (jb (pv 1)) (ji)))) (blkOk_by (by rfl)) (jkh 3 4) (fun _ _ _ _ _=>pg_tup rfl (pgs_cons (pg_name (i:=3) YL.nd rfl (by first | exact .inl rfl | exact .inr rfl)) (pgs_cons (pg_name (i:=4) YL.nd rfl (by first | exact .inl rfl | exact .inr rfl)) (pgs_nil)))) (fun _ _ _ _ _=>pts_one (yd (jb (pv 4)))) (fun _ _ _ _ _=>jb (pv 3)))) (vn jmz (jk) (jaQ jiy (by rfl) (c.free 5) (by decide +kernel) (ja (jb (pv 2)) (ji)))))))))
theorem jhn:FnScope ["_law_e","_law_word"] ["_law_e","_law_word"] (defScope jfI):=⟨rfl,rfl,rfl,by decide +kernel,rfl,by decide +kernel,by decide +kernel⟩
def jfF:MS:=
    YY (m2 eqD (jA jfu 1 0 (fun as bs=>[as.getD 0 (.dat .non)]) (jQ (jh 0) (jn)) jn) (m2 itP (jhq [("due",mC (.str "dv")),("lookup",mC (.str "l")),("run",mC (.str "r")),("sum",mC (.str "a"))]) (jh 1)))
def vy:List FA→RF:=wj 2 2 jfF
theorem jhb {P:Program} {w:World} {K:PySem.W.Frag} {mg:Str→Option Value} {base:Heap} (c:Kn fa fn K mg) {fd:FuncData} (D:jG K VS fd):FnG P w K mg base (L2.CX P w) 2 (VS.ad.a K) fd ["_law_e","_law_word"] (spF ⟨He.ga K,none,[]⟩ K vy):=by
  obtain ⟨fd_l_base,D_l_base⟩:=c.def_ 34 (d:=ja4)
  have O_l_base:=jiK (P:=P) (w:=w) (base:=base) c D_l_base
  have B1_l_base:=jer D_l_base
  exact WH D jhn rfl rfl fun cdv A outer s H E hr hg=>
    va (vq (jkm (jn7 hr.units) (JV O_l_base (hr.mono (by decide)) hg (takes_of rfl rfl rfl rfl) (by rfl) (c.glo 170) D_l_base.kp (jgw D_l_base) jeo (jB (jb (pv 0)) (jJ))) (jlR hr.units (jix (jaI (jk) (jaI (jk) (jaI (jk) (jaI (jk) (jgC))))) rfl rfl (by simp) (by decide)) (jb (pv 1))) (nomark _)))
theorem j8:FnScope ["_law_e","_law_found","_law_k","_law_here"] ["_law_e"] (defScope jd8):=⟨rfl,rfl,rfl,by decide +kernel,rfl,by decide +kernel,by decide +kernel⟩
def jeb:MS:=
    Jo (Vb (zk (je (m1 (isX jH ["InvalidCurve"]) (jh 0)) (je (m1 (isX jH ["InvalidPiece"]) (jh 0)) (je (m1 (isX jH ["InvalidLength"]) (jh 0)) (jY))))) (gNm 1))
    (Jo (Vb (m2 Vu (jh 1) (zk (je (m1 (isX jH ["InvalidCount"]) (jh 0)) (je (m1 (isX jH ["InvalidRecord"]) (jh 0)) (je (m1 (isX jH ["InvalidVisit"]) (jh 0)) (jY)))))) (gNm 1))
    (Jo (Vb (m2 Vu (jh 1) (zk (je (m1 (isX jH ["InvalidVisits"]) (jh 0)) (je (m1 (isX jH ["InvalidSupply"]) (jh 0)) (je (m1 (isX jH ["InvalidWindow"]) (jh 0)) (jY)))))) (gNm 1))
    (Jo (Vb (m2 Vu (jh 1) (zk (je (m1 (isX jH ["InvalidStation"]) (jh 0)) (je (m1 (isX jH ["InvalidNetwork"]) (jh 0)) (je (m1 (isX jH ["InvalidName"]) (jh 0)) (jY)))))) (gNm 1))
    (Jo (Vb (m2 Vu (jh 1) (zk (je (m1 (isX jH ["InvalidPath"]) (jh 0)) (je (m1 (isX jH ["InvalidSplit"]) (jh 0)) (je (m1 (isX jH ["InvalidTime"]) (jh 0)) (jY)))))) (gNm 1))
    (Jo (Vb (m2 Vu (jh 1) (zk (je (m1 (isX jH ["InvalidTick"]) (jh 0)) (je (m1 (isX jH ["InvalidFault"]) (jh 0)) (je (m1 (isX jH ["InvalidFaults"]) (jh 0)) (jY)))))) (gNm 1))
    (Jo (Vb (m2 Vu (jh 1) (zk (je (m1 (isX jH ["InvalidHanded"]) (jh 0)) (je (m1 (isX jH ["InvalidBook"]) (jh 0)) (je (m1 (isX jH ["InvalidWeights"]) (jh 0)) (jY)))))) (gNm 1))
    (Jo (Vb (m2 Vu (jh 1) (zk (je (m1 (isX jH ["InvalidText"]) (jh 0)) (je (m1 (isX jH ["InvalidCommand"]) (jh 0)) (je (m1 (isX jH ["UnknownStation"]) (jh 0)) (jY)))))) (gNm 1))
    (Jo (Vb (m2 Vu (jh 1) (zk (je (m1 (isX jH ["UnknownStream"]) (jh 0)) (je (m1 (isX jH ["UnknownUnit"]) (jh 0)) (je (m1 (isX jH ["NoLink"]) (jh 0)) (jY)))))) (gNm 1))
    (Jo (Vb (m2 Vu (jh 1) (zk (je (m1 (isX jH ["NameTaken"]) (jh 0)) (je (m1 (isX jH ["NotGood"]) (jh 0)) (je (m1 (isX jH ["TooSlow"]) (jh 0)) (je (m1 (isX jH ["Refused"]) (jh 0)) (jY))))))) (gNm 1))
    (Jo (Vb (m2 Vu (jh 1) (zk (je (m1 (isX jH ["Overfull"]) (jh 0)) (je (m1 (isX jH ["NotPlain"]) (jh 0)) (je (m1 (isX jH ["HasReserves"]) (jh 0)) (jY)))))) (gNm 1))
    (Jo (Vb (m2 Vu (jh 1) (zk (je (m1 (isX jH ["NoSplits"]) (jh 0)) (je (m1 (isX jH ["Exposed"]) (jh 0)) (je (m1 (isX jH ["NotLate"]) (jh 0)) (je (m1 (isX jH ["RunFailed"]) (jh 0)) (jY))))))) (gNm 1))
    (YY (mLc (jh5 jkE (je (m2 Vu (jh 1) (zk (je (m1 (isX jH ["TooLong"]) (jh 0)) (je (m1 (isX jH ["TooMany"]) (jh 0)) (jY))))) (jY))) (jnV 2 3) (jE (jh 3)) (jh 2) [2,3])))))))))))))
def jy:List FA→RF:=wj 1 4 jeb
theorem jfO {P:Program} {w:World} {K:PySem.W.Frag} {mg:Str→Option Value} {base:Heap} (c:Kn fa fn K mg) {fd:FuncData} (D:jG K ze fd):FnG P w K mg base (L2.CX P w) 1 (ze.ad.a K) fd ["_law_e"] (spF ⟨He.ga K,none,[]⟩ K jy):=by
  exact WH D j8 rfl rfl fun cdv A outer s H E hr hg=>
    jl (vf (i:=1) j8.nd rfl (by first | exact .inl rfl | exact .inr rfl) (Jb (ja (jL (c.free 138) (by rfl) (c.kitV 175 136 (t:=(.c "InvalidCurve"))) (jb (pv 0)) (pe_glob (v:= .ref _) (by rfl) (c.glo 174) rfl) (.own _)) (ja (jL (c.free 138) (by rfl) (c.kitV 173 136 (t:=(.c "InvalidPiece"))) (jb (pv 0)) (pe_glob (v:= .ref _) (by rfl) (c.glo 17) rfl) (.own _)) (ja (jL (c.free 138) (by rfl) (c.kitV 172 136 (t:=(.c "InvalidLength"))) (jb (pv 0)) (pe_glob (v:= .ref _) (by rfl) (c.glo 13) rfl) (.own _)) (ji))))))
    (jl (vf (i:=1) j8.nd rfl (by first | exact .inl rfl | exact .inr rfl) (vn wZ (jb (pv 1)) (Jb (ja (jL (c.free 138) (by rfl) (c.kitV 178 136 (t:=(.c "InvalidCount"))) (jb (pv 0)) (pe_glob (v:= .ref _) (by rfl) (c.glo 25) rfl) (.own _)) (ja (jL (c.free 138) (by rfl) (c.kitV 177 136 (t:=(.c "InvalidRecord"))) (jb (pv 0)) (pe_glob (v:= .ref _) (by rfl) (c.glo 21) rfl) (.own _)) (ja (jL (c.free 138) (by rfl) (c.kitV 176 136 (t:=(.c "InvalidVisit"))) (jb (pv 0)) (pe_glob (v:= .ref _) (by rfl) (c.glo 33) rfl) (.own _)) (ji)))))))
    (jl (vf (i:=1) j8.nd rfl (by first | exact .inl rfl | exact .inr rfl) (vn wZ (jb (pv 1)) (Jb (ja (jL (c.free 138) (by rfl) (c.kitV 181 136 (t:=(.c "InvalidVisits"))) (jb (pv 0)) (pe_glob (v:= .ref _) (by rfl) (c.glo 29) rfl) (.own _)) (ja (jL (c.free 138) (by rfl) (c.kitV 180 136 (t:=(.c "InvalidSupply"))) (jb (pv 0)) (pe_glob (v:= .ref _) (by rfl) (c.glo 41) rfl) (.own _)) (ja (jL (c.free 138) (by rfl) (c.kitV 179 136 (t:=(.c "InvalidWindow"))) (jb (pv 0)) (pe_glob (v:= .ref _) (by rfl) (c.glo 37) rfl) (.own _)) (ji)))))))
    (jl (vf (i:=1) j8.nd rfl (by first | exact .inl rfl | exact .inr rfl) (vn wZ (jb (pv 1)) (Jb (ja (jL (c.free 138) (by rfl) (c.kitV 185 136 (t:=(.c "InvalidStation"))) (jb (pv 0)) (pe_glob (v:= .ref _) (by rfl) (c.glo 49) rfl) (.own _)) (ja (jL (c.free 138) (by rfl) (c.kitV 184 136 (t:=(.c "InvalidNetwork"))) (jb (pv 0)) (pe_glob (v:= .ref _) (by rfl) (c.glo 183) rfl) (.own _)) (ja (jL (c.free 138) (by rfl) (c.kitV 182 136 (t:=(.c "InvalidName"))) (jb (pv 0)) (pe_glob (v:= .ref _) (by rfl) (c.glo 45) rfl) (.own _)) (ji)))))))
    (jl (vf (i:=1) j8.nd rfl (by first | exact .inl rfl | exact .inr rfl) (vn wZ (jb (pv 1)) (Jb (ja (jL (c.free 138) (by rfl) (c.kitV 188 136 (t:=(.c "InvalidPath"))) (jb (pv 0)) (pe_glob (v:= .ref _) (by rfl) (c.glo 57) rfl) (.own _)) (ja (jL (c.free 138) (by rfl) (c.kitV 187 136 (t:=(.c "InvalidSplit"))) (jb (pv 0)) (pe_glob (v:= .ref _) (by rfl) (c.glo 53) rfl) (.own _)) (ja (jL (c.free 138) (by rfl) (c.kitV 186 136 (t:=(.c "InvalidTime"))) (jb (pv 0)) (pe_glob (v:= .ref _) (by rfl) (c.glo 65) rfl) (.own _)) (ji)))))))
    (jl (vf (i:=1) j8.nd rfl (by first | exact .inl rfl | exact .inr rfl) (vn wZ (jb (pv 1)) (Jb (ja (jL (c.free 138) (by rfl) (c.kitV 190 136 (t:=(.c "InvalidTick"))) (jb (pv 0)) (pe_glob (v:= .ref _) (by rfl) (c.glo 61) rfl) (.own _)) (ja (jL (c.free 138) (by rfl) (c.kitV 189 136 (t:=(.c "InvalidFault"))) (jb (pv 0)) (pe_glob (v:= .ref _) (by rfl) (c.glo 73) rfl) (.own _)) (ja (jL (c.free 138) (by rfl) (c.kitV 140 136 (t:=(.c "InvalidFaults"))) (jb (pv 0)) (pe_glob (v:= .ref _) (by rfl) (c.glo 69) rfl) (.own _)) (ji)))))))
    (jl (vf (i:=1) j8.nd rfl (by first | exact .inl rfl | exact .inr rfl) (vn wZ (jb (pv 1)) (Jb (ja (jL (c.free 138) (by rfl) (c.kitV 196 136 (t:=(.c "InvalidHanded"))) (jb (pv 0)) (pe_glob (v:= .ref _) (by rfl) (c.glo 195) rfl) (.own _)) (ja (jL (c.free 138) (by rfl) (c.kitV 194 136 (t:=(.c "InvalidBook"))) (jb (pv 0)) (pe_glob (v:= .ref _) (by rfl) (c.glo 193) rfl) (.own _)) (ja (jL (c.free 138) (by rfl) (c.kitV 192 136 (t:=(.c "InvalidWeights"))) (jb (pv 0)) (pe_glob (v:= .ref _) (by rfl) (c.glo 191) rfl) (.own _)) (ji)))))))
    (jl (vf (i:=1) j8.nd rfl (by first | exact .inl rfl | exact .inr rfl) (vn wZ (jb (pv 1)) (Jb (ja (jL (c.free 138) (by rfl) (c.kitV 143 136 (t:=(.c "InvalidText"))) (jb (pv 0)) (pe_glob (v:= .ref _) (by rfl) (c.glo 81) rfl) (.own _)) (ja (jL (c.free 138) (by rfl) (c.kitV 198 136 (t:=(.c "InvalidCommand"))) (jb (pv 0)) (pe_glob (v:= .ref _) (by rfl) (c.glo 77) rfl) (.own _)) (ja (jL (c.free 138) (by rfl) (c.kitV 197 136 (t:=(.c "UnknownStation"))) (jb (pv 0)) (pe_glob (v:= .ref _) (by rfl) (c.glo 91) rfl) (.own _)) (ji)))))))
    (jl (vf (i:=1) j8.nd rfl (by first | exact .inl rfl | exact .inr rfl) (vn wZ (jb (pv 1)) (Jb (ja (jL (c.free 138) (by rfl) (c.kitV 202 136 (t:=(.c "UnknownStream"))) (jb (pv 0)) (pe_glob (v:= .ref _) (by rfl) (c.glo 87) rfl) (.own _)) (ja (jL (c.free 138) (by rfl) (c.kitV 201 136 (t:=(.c "UnknownUnit"))) (jb (pv 0)) (pe_glob (v:= .ref _) (by rfl) (c.glo 101) rfl) (.own _)) (ja (jL (c.free 138) (by rfl) (c.kitV 200 136 (t:=(.c "NoLink"))) (jb (pv 0)) (pe_glob (v:= .ref _) (by rfl) (c.glo 199) rfl) (.own _)) (ji)))))))
    (jl (vf (i:=1) j8.nd rfl (by first | exact .inl rfl | exact .inr rfl) (vn wZ (jb (pv 1)) (Jb (ja (jL (c.free 138) (by rfl) (c.kitV 145 136 (t:=(.c "NameTaken"))) (jb (pv 0)) (pe_glob (v:= .ref _) (by rfl) (c.glo 97) rfl) (.own _)) (ja (jL (c.free 138) (by rfl) (c.kitV 204 136 (t:=(.c "NotGood"))) (jb (pv 0)) (pe_glob (v:= .ref _) (by rfl) (c.glo 203) rfl) (.own _)) (ja (jL (c.free 138) (by rfl) (c.kitV 147 136 (t:=(.c "TooSlow"))) (jb (pv 0)) (pe_glob (v:= .ref _) (by rfl) (c.glo 113) rfl) (.own _)) (ja (jL (c.free 138) (by rfl) (c.kitV 149 136 (t:=(.c "Refused"))) (jb (pv 0)) (pe_glob (v:= .ref _) (by rfl) (c.glo 109) rfl) (.own _)) (ji))))))))
    (jl (vf (i:=1) j8.nd rfl (by first | exact .inl rfl | exact .inr rfl) (vn wZ (jb (pv 1)) (Jb (ja (jL (c.free 138) (by rfl) (c.kitV 210 136 (t:=(.c "Overfull"))) (jb (pv 0)) (pe_glob (v:= .ref _) (by rfl) (c.glo 209) rfl) (.own _)) (ja (jL (c.free 138) (by rfl) (c.kitV 208 136 (t:=(.c "NotPlain"))) (jb (pv 0)) (pe_glob (v:= .ref _) (by rfl) (c.glo 207) rfl) (.own _)) (ja (jL (c.free 138) (by rfl) (c.kitV 206 136 (t:=(.c "HasReserves"))) (jb (pv 0)) (pe_glob (v:= .ref _) (by rfl) (c.glo 205) rfl) (.own _)) (ji)))))))
    (jl (vf (i:=1) j8.nd rfl (by first | exact .inl rfl | exact .inr rfl) (vn wZ (jb (pv 1)) (Jb (ja (jL (c.free 138) (by rfl) (c.kitV 151 136 (t:=(.c "NoSplits"))) (jb (pv 0)) (pe_glob (v:= .ref _) (by rfl) (c.glo 105) rfl) (.own _)) (ja (jL (c.free 138) (by rfl) (c.kitV 153 136 (t:=(.c "Exposed"))) (jb (pv 0)) (pe_glob (v:= .ref _) (by rfl) (c.glo 121) rfl) (.own _)) (ja (jL (c.free 138) (by rfl) (c.kitV 213 136 (t:=(.c "NotLate"))) (jb (pv 0)) (pe_glob (v:= .ref _) (by rfl) (c.glo 117) rfl) (.own _)) (ja (jL (c.free 138) (by rfl) (c.kitV 212 136 (t:=(.c "RunFailed"))) (jb (pv 0)) (pe_glob (v:= .ref _) (by rfl) (c.glo 211) rfl) (.own _)) (ji))))))))
    (va (vq (jjD (own:=[("_law_k",2),("_law_here",3)]) rfl j8.nd (jkR (by rfl) (c.free 216) (ja (vn wZ (jb (pv 1)) (Jb (ja (jL (c.free 138) (by rfl) (c.kitV 215 136 (t:=(.c "TooLong"))) (jb (pv 0)) (pe_glob (v:= .ref _) (by rfl) (c.glo 131) rfl) (.own _)) (ja (jL (c.free 138) (by rfl) (c.kitV 214 136 (t:=(.c "TooMany"))) (jb (pv 0)) (pe_glob (v:= .ref _) (by rfl) (c.glo 127) rfl) (.own _)) (ji))))) (ji))) (blkOk_by (by rfl)) (jkh 2 3) (fun _ _ _ _ _=>pg_tup rfl (pgs_cons (pg_name (i:=2) j8.nd rfl (by first | exact .inl rfl | exact .inr rfl)) (pgs_cons (pg_name (i:=3) j8.nd rfl (by first | exact .inl rfl | exact .inr rfl)) (pgs_nil)))) (fun _ _ _ _ _=>pts_one (yd (jb (pv 3)))) (fun _ _ _ _ _=>jb (pv 2))))))))))))))))
theorem jaG:FnScope ["self","problem","position"] ["self","problem","position"] (defScope Yg):=⟨rfl,rfl,rfl,by decide +kernel,rfl,by decide +kernel,by decide +kernel⟩
def jam:ME:=vH [mC (.str "invalid curve: "),m1 Ju (jh 1),mC (.str ", "),m1 Ju (jh 2)]
def JI:List Dat→Option (List (Str×Dat)):=Y9 2 jam [("problem",1),("position",2)]
theorem jau {P:Program} {w:World} {K:PySem.W.Frag} {mg:Str→Option Value} {base:Heap} (c:Kn fa fn K mg) {fd:FuncData} (D:jG K Jm fd):FnG P w K mg base (L2.CX P w) 1 (Jm.ad.a K) fd ["self","problem","position"] (spX ⟨He.ga K,none,[]⟩ K (He.ga K "InvalidCurve") JI):=by
  exact yc D jaG rfl (c.oex 218) (by simp) (by decide) (aa1 ⟨c.nof 219,by decide,by decide⟩ (aa1 ⟨c.nof 220,by decide,by decide⟩ aa0)) fun cdv A outer s H E hr hg=>
    pss_cons (ps_expr (J7 (by rfl) (c.glo 10) (c.xbs 9).1 (c.xbs 9).2.1 (c.xbs 9).2.2 (pa_cons (pv 0) (pa_cons (Je (jj (jk) (jj (jz hg hr.units (jb (pv 1))) (jj (jk) (jj (jz hg hr.units (jb (pv 2))) (JY)))))) pa_nil)))) (pss_cons (ps_ost (pv 0) (pv 1)) (pss_one (ps_ost (pv 0) (pv 2))))
theorem Wq:FnScope ["self","problem","position"] ["self","problem","position"] (defScope yS):=⟨rfl,rfl,rfl,by decide +kernel,rfl,by decide +kernel,by decide +kernel⟩
def Wr:ME:=vH [mC (.str "invalid network: "),m1 Ju (jh 1),mC (.str ", "),m1 Ju (jh 2)]
def Js:List Dat→Option (List (Str×Dat)):=Y9 2 Wr [("problem",1),("position",2)]
theorem Wn {P:Program} {w:World} {K:PySem.W.Frag} {mg:Str→Option Value} {base:Heap} (c:Kn fa fn K mg) {fd:FuncData} (D:jG K j9 fd):FnG P w K mg base (L2.CX P w) 1 (j9.ad.a K) fd ["self","problem","position"] (spX ⟨He.ga K,none,[]⟩ K (He.ga K "InvalidNetwork") Js):=by
  exact yc D Wq rfl (c.oex 222) (by simp) (by decide) (aa1 ⟨c.nof 223,by decide,by decide⟩ (aa1 ⟨c.nof 224,by decide,by decide⟩ aa0)) fun cdv A outer s H E hr hg=>
    pss_cons (ps_expr (J7 (by rfl) (c.glo 10) (c.xbs 9).1 (c.xbs 9).2.1 (c.xbs 9).2.2 (pa_cons (pv 0) (pa_cons (Je (jj (jk) (jj (jz hg hr.units (jb (pv 1))) (jj (jk) (jj (jz hg hr.units (jb (pv 2))) (JY)))))) pa_nil)))) (pss_cons (ps_ost (pv 0) (pv 1)) (pss_one (ps_ost (pv 0) (pv 2))))
theorem jed:FnScope ["self","source","target"] ["self","source","target"] (defScope jbQ):=⟨rfl,rfl,rfl,by decide +kernel,rfl,by decide +kernel,by decide +kernel⟩
def jdP:ME:=vH [mC (.str "no link: "),m1 Ju (jh 1),mC (.str ", "),m1 Ju (jh 2)]
def wg:List Dat→Option (List (Str×Dat)):=Y9 2 jdP [("source",1),("target",2)]
theorem jdY {P:Program} {w:World} {K:PySem.W.Frag} {mg:Str→Option Value} {base:Heap} (c:Kn fa fn K mg) {fd:FuncData} (D:jG K vD fd):FnG P w K mg base (L2.CX P w) 1 (vD.ad.a K) fd ["self","source","target"] (spX ⟨He.ga K,none,[]⟩ K (He.ga K "NoLink") wg):=by
  exact w6 D jed rfl (c.oeb 226) (by simp) (by decide) (aa1 ⟨c.nof 227,by decide,by decide⟩ (aa1 ⟨c.nof 228,by decide,by decide⟩ aa0)) fun cdv A outer s H E hr hg=>
    pss_cons (ps_expr (vo wB (by rfl) (c.free 84) (by decide +kernel) (c.xbt 83) (by decide +kernel) (by decide +kernel) (by decide) (by decide) (pa_cons (pv 0) (pa_cons (Je (jj (jk) (jj (jz hg hr.units (jb (pv 1))) (jj (jk) (jj (jz hg hr.units (jb (pv 2))) (JY)))))) pa_nil)))) (pss_cons (vZ wB (pv 0) (pv 1)) (pss_one (vZ wB (pv 0) (pv 2))))
theorem jdC:FnScope ["self","first","second"] ["self","first","second"] (defScope jaK):=⟨rfl,rfl,rfl,by decide +kernel,rfl,by decide +kernel,by decide +kernel⟩
def jdD:ME:=vH [mC (.str "not good: "),m1 Ju (jh 1),mC (.str ", "),m1 Ju (jh 2)]
def vN:List Dat→Option (List (Str×Dat)):=Y9 2 jdD [("first",1),("second",2)]
theorem jdB {P:Program} {w:World} {K:PySem.W.Frag} {mg:Str→Option Value} {base:Heap} (c:Kn fa fn K mg) {fd:FuncData} (D:jG K vp fd):FnG P w K mg base (L2.CX P w) 1 (vp.ad.a K) fd ["self","first","second"] (spX ⟨He.ga K,none,[]⟩ K (He.ga K "NotGood") vN):=by
  exact w6 D jdC rfl (c.oeb 230) (by simp) (by decide) (aa1 ⟨c.nof 231,by decide,by decide⟩ (aa1 ⟨c.nof 232,by decide,by decide⟩ aa0)) fun cdv A outer s H E hr hg=>
    pss_cons (ps_expr (vo jI (by rfl) (c.free 94) (by decide +kernel) (c.xbt 93) (by decide +kernel) (by decide +kernel) (by decide) (by decide) (pa_cons (pv 0) (pa_cons (Je (jj (jk) (jj (jz hg hr.units (jb (pv 1))) (jj (jk) (jj (jz hg hr.units (jb (pv 2))) (JY)))))) pa_nil)))) (pss_cons (vZ jI (pv 0) (pv 1)) (pss_one (vZ jI (pv 0) (pv 2))))
theorem jb9:FnScope ["self","position","results"] ["self","position","results"] (defScope Vz):=⟨rfl,rfl,rfl,by decide +kernel,rfl,by decide +kernel,by decide +kernel⟩
def jca:ME:=vH [mC (.str "run failed: "),m1 Ju (jh 1),mC (.str ", "),m1 Ju (jh 2)]
def vm:List Dat→Option (List (Str×Dat)):=Y9 2 jca [("position",1),("results",2)]
theorem jb5 {P:Program} {w:World} {K:PySem.W.Frag} {mg:Str→Option Value} {base:Heap} (c:Kn fa fn K mg) {fd:FuncData} (D:jG K JO fd):FnG P w K mg base (L2.CX P w) 1 (JO.ad.a K) fd ["self","position","results"] (spX ⟨He.ga K,none,[]⟩ K (He.ga K "RunFailed") vm):=by
  exact w6 D jb9 rfl (c.oeb 234) (by simp) (by decide) (aa1 ⟨c.nof 235,by decide,by decide⟩ (aa1 ⟨c.nof 236,by decide,by decide⟩ aa0)) fun cdv A outer s H E hr hg=>
    pss_cons (ps_expr (vo jI (by rfl) (c.free 94) (by decide +kernel) (c.xbt 93) (by decide +kernel) (by decide +kernel) (by decide) (by decide) (pa_cons (pv 0) (pa_cons (Je (jj (jk) (jj (jz hg hr.units (jb (pv 1))) (jj (jk) (jj (jz hg hr.units (jb (pv 2))) (JY)))))) pa_nil)))) (pss_cons (vZ jI (pv 0) (pv 1)) (pss_one (vZ jI (pv 0) (pv 2))))
theorem jcw:FnScope ["self","at_station","window"] ["self","at_station","window"] (defScope WO):=⟨rfl,rfl,rfl,by decide +kernel,rfl,by decide +kernel,by decide +kernel⟩
def jc4:ME:=vH [mC (.str "overfull: "),m1 Ju (jh 1),mC (.str ", "),m1 Ju (jh 2)]
def vt:List Dat→Option (List (Str×Dat)):=Y9 2 jc4 [("at_station",1),("window",2)]
theorem jcI {P:Program} {w:World} {K:PySem.W.Frag} {mg:Str→Option Value} {base:Heap} (c:Kn fa fn K mg) {fd:FuncData} (D:jG K J9 fd):FnG P w K mg base (L2.CX P w) 1 (J9.ad.a K) fd ["self","at_station","window"] (spX ⟨He.ga K,none,[]⟩ K (He.ga K "Overfull") vt):=by
  exact w6 D jcw rfl (c.oeb 238) (by simp) (by decide) (aa1 ⟨c.nof 239,by decide,by decide⟩ (aa1 ⟨c.nof 240,by decide,by decide⟩ aa0)) fun cdv A outer s H E hr hg=>
    pss_cons (ps_expr (vo jI (by rfl) (c.free 94) (by decide +kernel) (c.xbt 93) (by decide +kernel) (by decide +kernel) (by decide) (by decide) (pa_cons (pv 0) (pa_cons (Je (jj (jk) (jj (jz hg hr.units (jb (pv 1))) (jj (jk) (jj (jz hg hr.units (jb (pv 2))) (JY)))))) pa_nil)))) (pss_cons (vZ jI (pv 0) (pv 1)) (pss_one (vZ jI (pv 0) (pv 2))))
theorem jf0:FnScope ["_law_one","_law_other","_law_found"] ["_law_one","_law_other"] (defScope jgB):=⟨rfl,rfl,rfl,by decide +kernel,rfl,by decide +kernel,by decide +kernel⟩
def jgD:MS:=
    Jo (jdt 2 (jkn (je (YX (je (jv "InvalidCurve" JI 0 2 (fun as bs=>[bs.getD 0 (.dat .non),bs.getD 1 (.dat .non)]) (jn) (jQ (jh 0) (jQ (jh 1) (jn)))) (je (jv "InvalidCurve" JI 2 0 (fun as bs=>[as.getD 0 (.dat .non),as.getD 1 (.dat .non)]) (jQ (jh 0) (jQ (jh 1) (jn))) (jn)) (je (mC (.str "due")) (jY))))) (jY))))
    (Jo (jdF 2 (YX (je (jv "InvalidNetwork" Js 0 2 (fun as bs=>[bs.getD 0 (.dat .non),bs.getD 1 (.dat .non)]) (jn) (jQ (jh 0) (jQ (jh 1) (jn)))) (je (jv "InvalidNetwork" Js 2 0 (fun as bs=>[as.getD 0 (.dat .non),as.getD 1 (.dat .non)]) (jQ (jh 0) (jQ (jh 1) (jn))) (jn)) (je (mC (.str "due")) (jY))))))
    (Jo (jdF 2 (YX (je (jv "NoLink" wg 0 2 (fun as bs=>[bs.getD 0 (.dat .non),bs.getD 1 (.dat .non)]) (jn) (jQ (jh 0) (jQ (jh 1) (jn)))) (je (jv "NoLink" wg 2 0 (fun as bs=>[as.getD 0 (.dat .non),as.getD 1 (.dat .non)]) (jQ (jh 0) (jQ (jh 1) (jn))) (jn)) (je (mC (.str "lookup")) (jY))))))
    (Jo (jdF 2 (YX (je (jv "NotGood" vN 0 2 (fun as bs=>[bs.getD 0 (.dat .non),bs.getD 1 (.dat .non)]) (jn) (jQ (jh 0) (jQ (jh 1) (jn)))) (je (jv "NotGood" vN 2 0 (fun as bs=>[as.getD 0 (.dat .non),as.getD 1 (.dat .non)]) (jQ (jh 0) (jQ (jh 1) (jn))) (jn)) (je (mC (.str "run")) (jY))))))
    (Jo (jdF 2 (YX (je (jv "RunFailed" vm 0 2 (fun as bs=>[bs.getD 0 (.dat .non),bs.getD 1 (.dat .non)]) (jn) (jQ (jh 0) (jQ (jh 1) (jn)))) (je (jv "RunFailed" vm 2 0 (fun as bs=>[as.getD 0 (.dat .non),as.getD 1 (.dat .non)]) (jQ (jh 0) (jQ (jh 1) (jn))) (jn)) (je (mC (.str "run")) (jY))))))
    (Jo (jdF 2 (YX (je (jv "Overfull" vt 0 2 (fun as bs=>[bs.getD 0 (.dat .non),bs.getD 1 (.dat .non)]) (jn) (jQ (jh 0) (jQ (jh 1) (jn)))) (je (jv "Overfull" vt 2 0 (fun as bs=>[as.getD 0 (.dat .non),as.getD 1 (.dat .non)]) (jQ (jh 0) (jQ (jh 1) (jn))) (jn)) (je (mC (.str "run")) (jY))))))
    (Jo (jdF 2 (YX (je (zc "InvalidHanded" (mC (.str "no dict"))) (je (zc "InvalidHanded" (mC (.str ""))) (je (mC (.str "due")) (jY))))))
    (Jo (jdF 2 (YX (je (zc "InvalidBook" (mC (.str "no book"))) (je (zc "InvalidBook" (mC (.str "b"))) (je (mC (.str "due")) (jY))))))
    (Jo (jdF 2 (YX (je (zc "InvalidWeights" (mC (.str "no weights"))) (je (zc "InvalidWeights" (mC (.str "w"))) (je (mC (.str "due")) (jY))))))
    (Jo (jdF 2 (YX (je (zc "NotPlain" (mC (.str "not plain"))) (je (zc "NotPlain" (mC (.str "p"))) (je (mC (.str "run")) (jY))))))
    (YY (jhG 2 (zk (je (YX (je (zc "HasReserves" (mC (.str "has reserves"))) (je (zc "HasReserves" (mC (.str "r"))) (je (mC (.str "run")) (jY))))) (jY))))))))))))))
def jfg:List FA→RF:=wj 2 3 jgD
theorem jiA {P:Program} {w:World} {K:PySem.W.Frag} {mg:Str→Option Value} {base:Heap} (c:Kn fa fn K mg) {fd:FuncData} (D:jG K jba fd):FnG P w K mg base (L2.CX P w) 3 (jba.ad.a K) fd ["_law_one","_law_other"] (spF ⟨He.ga K,none,[]⟩ K jfg):=by
  obtain ⟨fd_InvalidCurve_init0,D_InvalidCurve_init0⟩:=c.def_ 37 (d:=Jm)
  have O_InvalidCurve_init0:=jau (P:=P) (w:=w) (base:=base) c D_InvalidCurve_init0
  have B3_InvalidCurve_init0:=Y8 D_InvalidCurve_init0
  obtain ⟨fd_InvalidNetwork_init0,D_InvalidNetwork_init0⟩:=c.def_ 38 (d:=j9)
  have O_InvalidNetwork_init0:=Wn (P:=P) (w:=w) (base:=base) c D_InvalidNetwork_init0
  have B3_InvalidNetwork_init0:=Yr D_InvalidNetwork_init0
  obtain ⟨fd_NoLink_init0,D_NoLink_init0⟩:=c.def_ 39 (d:=vD)
  have O_NoLink_init0:=jdY (P:=P) (w:=w) (base:=base) c D_NoLink_init0
  have B3_NoLink_init0:=jby D_NoLink_init0
  obtain ⟨fd_NotGood_init0,D_NotGood_init0⟩:=c.def_ 40 (d:=vp)
  have O_NotGood_init0:=jdB (P:=P) (w:=w) (base:=base) c D_NotGood_init0
  have B3_NotGood_init0:=jah D_NotGood_init0
  obtain ⟨fd_RunFailed_init0,D_RunFailed_init0⟩:=c.def_ 41 (d:=JO)
  have O_RunFailed_init0:=jb5 (P:=P) (w:=w) (base:=base) c D_RunFailed_init0
  have B3_RunFailed_init0:=Ws D_RunFailed_init0
  obtain ⟨fd_Overfull_init0,D_Overfull_init0⟩:=c.def_ 42 (d:=J9)
  have O_Overfull_init0:=jcI (P:=P) (w:=w) (base:=base) c D_Overfull_init0
  have B3_Overfull_init0:=WT D_Overfull_init0
  exact WH D jf0 rfl rfl fun cdv A outer s H E hr hg=>
    jl (jb1 (i:=2) jf0.nd rfl (by first | exact .inl rfl | exact .inr rfl) (jg1 (ja (Jt (ja (jr (OexC.mkE (c.oex 218)) (c.xin 221).1 (c.xin 221).2 O_InvalidCurve_init0 (hr.mono (by decide)) hg (takes_of rfl rfl rfl rfl) (by rfl) (c.glo 174) (wq D_InvalidCurve_init0) (fun _ _ _=>rfl) v6 (Jv (jb (pv 0)) (Jv (jb (pv 1)) (JW)))) (ja (jF (OexC.mkE (c.oex 218)) (c.xin 221).1 (c.xin 221).2 O_InvalidCurve_init0 (hr.mono (by decide)) hg (takes_of rfl rfl rfl rfl) (by rfl) (c.glo 174) (Wl D_InvalidCurve_init0) (fun _ _ _=>rfl) Y5 (jB (jb (pv 0)) (jB (jb (pv 1)) (jJ)))) (ja (jk) (ji))))) (ji))))
    (jl (WM (pv 2) (Jt (ja (jr (OexC.mkE (c.oex 222)) (c.xin 225).1 (c.xin 225).2 O_InvalidNetwork_init0 (hr.mono (by decide)) hg (takes_of rfl rfl rfl rfl) (by rfl) (c.glo 183) (wc D_InvalidNetwork_init0) (fun _ _ _=>rfl) vS (Jv (jb (pv 0)) (Jv (jb (pv 1)) (JW)))) (ja (jF (OexC.mkE (c.oex 222)) (c.xin 225).1 (c.xin 225).2 O_InvalidNetwork_init0 (hr.mono (by decide)) hg (takes_of rfl rfl rfl rfl) (by rfl) (c.glo 183) (Vs D_InvalidNetwork_init0) (fun _ _ _=>rfl) Yv (jB (jb (pv 0)) (jB (jb (pv 1)) (jJ)))) (ja (jk) (ji))))))
    (jl (WM (pv 2) (Jt (ja (jr (Vi.mkE wB (c.oeb 226)) (c.xin 229).1 (c.xin 229).2 O_NoLink_init0 (hr.mono (by decide)) hg (takes_of rfl rfl rfl rfl) (by rfl) (c.glo 199) (yY D_NoLink_init0) (fun _ _ _=>rfl) yh (Jv (jb (pv 0)) (Jv (jb (pv 1)) (JW)))) (ja (jF (Vi.mkE wB (c.oeb 226)) (c.xin 229).1 (c.xin 229).2 O_NoLink_init0 (hr.mono (by decide)) hg (takes_of rfl rfl rfl rfl) (by rfl) (c.glo 199) (jcP D_NoLink_init0) (fun _ _ _=>rfl) jbx (jB (jb (pv 0)) (jB (jb (pv 1)) (jJ)))) (ja (jk) (ji))))))
    (jl (WM (pv 2) (Jt (ja (jr (Vi.mkE jI (c.oeb 230)) (c.xin 233).1 (c.xin 233).2 O_NotGood_init0 (hr.mono (by decide)) hg (takes_of rfl rfl rfl rfl) (by rfl) (c.glo 203) (zi D_NotGood_init0) (fun _ _ _=>rfl) yj (Jv (jb (pv 0)) (Jv (jb (pv 1)) (JW)))) (ja (jF (Vi.mkE jI (c.oeb 230)) (c.xin 233).1 (c.xin 233).2 O_NotGood_init0 (hr.mono (by decide)) hg (takes_of rfl rfl rfl rfl) (by rfl) (c.glo 203) (jce D_NotGood_init0) (fun _ _ _=>rfl) ja2 (jB (jb (pv 0)) (jB (jb (pv 1)) (jJ)))) (ja (jk) (ji))))))
    (jl (WM (pv 2) (Jt (ja (jr (Vi.mkE jI (c.oeb 234)) (c.xin 237).1 (c.xin 237).2 O_RunFailed_init0 (hr.mono (by decide)) hg (takes_of rfl rfl rfl rfl) (by rfl) (c.glo 211) (wH D_RunFailed_init0) (fun _ _ _=>rfl) wp (Jv (jb (pv 0)) (Jv (jb (pv 1)) (JW)))) (ja (jF (Vi.mkE jI (c.oeb 234)) (c.xin 237).1 (c.xin 237).2 O_RunFailed_init0 (hr.mono (by decide)) hg (takes_of rfl rfl rfl rfl) (by rfl) (c.glo 211) (jbA D_RunFailed_init0) (fun _ _ _=>rfl) Wt (jB (jb (pv 0)) (jB (jb (pv 1)) (jJ)))) (ja (jk) (ji))))))
    (jl (WM (pv 2) (Jt (ja (jr (Vi.mkE jI (c.oeb 238)) (c.xin 241).1 (c.xin 241).2 O_Overfull_init0 (hr.mono (by decide)) hg (takes_of rfl rfl rfl rfl) (by rfl) (c.glo 209) (wJ D_Overfull_init0) (fun _ _ _=>rfl) wn (Jv (jb (pv 0)) (Jv (jb (pv 1)) (JW)))) (ja (jF (Vi.mkE jI (c.oeb 238)) (c.xin 241).1 (c.xin 241).2 O_Overfull_init0 (hr.mono (by decide)) hg (takes_of rfl rfl rfl rfl) (by rfl) (c.glo 209) (jb0 D_Overfull_init0) (fun _ _ _=>rfl) W6 (jB (jb (pv 0)) (jB (jb (pv 1)) (jJ)))) (ja (jk) (ji))))))
    (jl (WM (pv 2) (Jt (ja (wN jcU (c.x0 242).1 (c.x0 242).2 (by rfl) (c.glo 195) (jk)) (ja (wN jcU (c.x0 242).1 (c.x0 242).2 (by rfl) (c.glo 195) (jk)) (ja (jk) (ji))))))
    (jl (WM (pv 2) (Jt (ja (wN jcU (c.x0 243).1 (c.x0 243).2 (by rfl) (c.glo 193) (jk)) (ja (wN jcU (c.x0 243).1 (c.x0 243).2 (by rfl) (c.glo 193) (jk)) (ja (jk) (ji))))))
    (jl (WM (pv 2) (Jt (ja (wN jcU (c.x0 244).1 (c.x0 244).2 (by rfl) (c.glo 191) (jk)) (ja (wN jcU (c.x0 244).1 (c.x0 244).2 (by rfl) (c.glo 191) (jk)) (ja (jk) (ji))))))
    (jl (WM (pv 2) (Jt (ja (wN jI.fb (c.x0 245).1 (c.x0 245).2 (by rfl) (c.glo 207) (jk)) (ja (wN jI.fb (c.x0 245).1 (c.x0 245).2 (by rfl) (c.glo 207) (jk)) (ja (jk) (ji))))))
    (va (vq (jiY (pv 2) (Jb (ja (Jt (ja (wN jI.fb (c.x0 246).1 (c.x0 246).2 (by rfl) (c.glo 205) (jk)) (ja (wN jI.fb (c.x0 246).1 (c.x0 246).2 (by rfl) (c.glo 205) (jk)) (ja (jk) (ji))))) (ji)))))))))))))))
theorem jhN:FnScope ["_law_e"] ["_law_e"] (defScope jf2):=⟨rfl,rfl,rfl,by decide +kernel,rfl,by decide +kernel,by decide +kernel⟩
def jf9:MS:=
    Jo (V8 (jE (m1 (isX jH ["InvalidCurve","InvalidNetwork"]) (jh 0))) (YY (zk (je (m1 (zm ["InvalidCurve","InvalidVisit","InvalidStation","InvalidNetwork","InvalidFault"] "problem") (jh 0)) (je (m1 (zm ["InvalidCurve","InvalidPiece","InvalidRecord","InvalidVisits","InvalidSupply","InvalidNetwork","InvalidPath","InvalidSplit","InvalidFaults","RunFailed"] "position") (jh 0)) (jY))))) (we))
    (Jo (V8 (jE (m1 (isX jH ["NoLink"]) (jh 0))) (YY (zk (je (m1 (zm ["NoLink"] "source") (jh 0)) (je (m1 (zm ["NoLink"] "target") (jh 0)) (jY))))) (we))
    (Jo (V8 (jE (m1 (isX jH ["NotGood"]) (jh 0))) (YY (zk (je (m1 (zm ["NotGood"] "first") (jh 0)) (je (m1 (zm ["NotGood"] "second") (jh 0)) (jY))))) (we))
    (Jo (V8 (jE (m1 (isX jH ["RunFailed"]) (jh 0))) (YY (zk (je (m1 (zm ["InvalidCurve","InvalidPiece","InvalidRecord","InvalidVisits","InvalidSupply","InvalidNetwork","InvalidPath","InvalidSplit","InvalidFaults","RunFailed"] "position") (jh 0)) (je (m1 (zm ["RunFailed"] "results") (jh 0)) (jY))))) (we))
    (YY (mIf (jE (m1 (isX jH ["Overfull"]) (jh 0))) (zk (je (m1 (zm ["Overfull"] "at_station") (jh 0)) (je (m1 (zm ["Overfull"] "window") (jh 0)) (jY)))) (zk (jY)))))))
def vw:List FA→RF:=wj 1 1 jf9
theorem jhA {P:Program} {w:World} {K:PySem.W.Frag} {mg:Str→Option Value} {base:Heap} (c:Kn fa fn K mg) {fd:FuncData} (D:jG K VM fd):FnG P w K mg base (L2.CX P w) 1 (VM.ad.a K) fd ["_law_e"] (spF ⟨He.ga K,none,[]⟩ K vw):=by
  exact WH D jhN rfl rfl fun cdv A outer s H E hr hg=>
    jl (V3 (yd (jdZ (c.free 138) (by rfl) (c.kitVT 248 136 (ts:=[(.c "InvalidCurve"),(.c "InvalidNetwork")])) (jb (pv 0)) (pa_cons (pe_glob (v:= .ref _) (by rfl) (c.glo 174) rfl) (pa_cons (pe_glob (v:= .ref _) (by rfl) (c.glo 183) rfl) (pa_nil))) (.cons (.own _) (.cons (.own _) (.nil))) (Nat.le_of_ble_eq_true rfl))) (va (vq (Jb (ja (vE (c.xfV 142) (jb (pv 0))) (ja (vE (c.xfV 139) (jb (pv 0))) (ji)))))) (yx))
    (jl (V3 (yd (jL (c.free 138) (by rfl) (c.kitV 200 136 (t:=(.c "NoLink"))) (jb (pv 0)) (pe_glob (v:= .ref _) (by rfl) (c.glo 199) rfl) (.own _))) (va (vq (Jb (ja (vE (c.xfV 250) (jb (pv 0))) (ja (vE (c.xfV 249) (jb (pv 0))) (ji)))))) (yx))
    (jl (V3 (yd (jL (c.free 138) (by rfl) (c.kitV 204 136 (t:=(.c "NotGood"))) (jb (pv 0)) (pe_glob (v:= .ref _) (by rfl) (c.glo 203) rfl) (.own _))) (va (vq (Jb (ja (vE (c.xfV 252) (jb (pv 0))) (ja (vE (c.xfV 251) (jb (pv 0))) (ji)))))) (yx))
    (jl (V3 (yd (jL (c.free 138) (by rfl) (c.kitV 212 136 (t:=(.c "RunFailed"))) (jb (pv 0)) (pe_glob (v:= .ref _) (by rfl) (c.glo 211) rfl) (.own _))) (va (vq (Jb (ja (vE (c.xfV 139) (jb (pv 0))) (ja (vE (c.xfV 253) (jb (pv 0))) (ji)))))) (yx))
    (va (vq (jmv (yd (jL (c.free 138) (by rfl) (c.kitV 210 136 (t:=(.c "Overfull"))) (jb (pv 0)) (pe_glob (v:= .ref _) (by rfl) (c.glo 209) rfl) (.own _))) (Jb (ja (vE (c.xfV 255) (jb (pv 0))) (ja (vE (c.xfV 254) (jb (pv 0))) (ji)))) (Jb (ji))))))))
theorem vu:FnScope ["_law_rng_here","_law_thing_here","_law_other","_law_ones_here","_law_classes_here","_law_twin","_law_e","_law_word","_law_due","_law_k"] ["_law_rng_here"] (defScope jfG):=⟨rfl,rfl,rfl,by decide +kernel,rfl,by decide +kernel,by decide +kernel⟩
def jf6:MS:=
    Jo (jlW 1 2 (je (jA jcp 1 0 (fun as bs=>[as.getD 0 (.dat .non)]) (jfN 0 (jn)) jn) (je (jA jcp 1 0 (fun as bs=>[as.getD 0 (.dat .non)]) (jfN 0 (jn)) jn) (jY))))
    (Jo (jjV 3 4 (jA jfA 1 0 (fun as bs=>[as.getD 0 (.dat .non)]) (jQ (jh 1) (jn)) jn) (jkn (jY)))
    (Jo (jk8 (jh5 jnC (je (jh 3) (je (jA zf 1 0 (fun as bs=>[as.getD 0 (.dat .non)]) (jQ (jh 2) (jn)) jn) (jY)))) (jgi 2 (gCs (jgi 2 (gCs (gNm 6) (gCs (gNm 7) (gNl)))) (gCs (gNm 5) (gNl)))) (Jo (V8 (cOr (jE (m2 neD (JF J8 (je (jA zj 1 0 (fun as bs=>[as.getD 0 (.dat .non)]) (jQ (jh 6) (jn)) jn) (jY))) (JF J8 (je (jh 1) (jY))))) (jE (m2 neD (JF J8 (je (jA zj 1 0 (fun as bs=>[as.getD 0 (.dat .non)]) (jQ (jh 5) (jn)) jn) (jY))) (JF J8 (je (jh 2) (jY)))))) (YY (mC (.bl false))) (we))
    (Jo (V8 (cOr (jgb (jE (jA vy 2 0 (fun as bs=>[as.getD 0 (.dat .non),as.getD 1 (.dat .non)]) (jQ (jh 6) (jQ (jh 7) (jn))) jn))) (jE (m2 neD (jA jy 1 0 (fun as bs=>[as.getD 0 (.dat .non)]) (jQ (jh 6) (jn)) jn) (jA jy 1 0 (fun as bs=>[as.getD 0 (.dat .non)]) (jQ (jh 5) (jn)) jn)))) (YY (mC (.bl false))) (we))
    (jdF 4 (jA jy 1 0 (fun as bs=>[as.getD 0 (.dat .non)]) (jQ (jh 6) (jn)) jn)))))
    (Jo (jk8 (jfV (jA jfg 2 0 (fun as bs=>[as.getD 0 (.dat .non),as.getD 1 (.dat .non)]) (jQ (jh 1) (jQ (jh 2) (jn))) jn)) (jgi 3 (gCs (gNm 6) (gCs (gNm 5) (gCs (gNm 7) (gNl))))) (Jo (Vb (mSl (zk (je (jh 1) (je (jh 2) (jY)))) (oN) (oS (JF jhk (je (jA vw 1 0 (fun as bs=>[as.getD 0 (.dat .non)]) (jQ (jh 6) (jn)) jn) (jY))))) (gNm 8))
    (Jo (V8 (cOr (jE (m2 neD (JF J8 (je (jA vw 1 0 (fun as bs=>[as.getD 0 (.dat .non)]) (jQ (jh 6) (jn)) jn) (jY))) (JF J8 (je (jh 8) (jY))))) (jE (m2 neD (JF J8 (je (jA vw 1 0 (fun as bs=>[as.getD 0 (.dat .non)]) (jQ (jh 5) (jn)) jn) (jY))) (JF J8 (je (jh 8) (jY)))))) (YY (mC (.bl false))) (we))
    (Jo (V8 (cOr (jgb (jE (jA vy 2 0 (fun as bs=>[as.getD 0 (.dat .non),as.getD 1 (.dat .non)]) (jQ (jh 6) (jQ (jh 7) (jn))) jn))) (cOr (jgb (jE (jA vy 2 0 (fun as bs=>[as.getD 0 (.dat .non),as.getD 1 (.dat .non)]) (jQ (jh 5) (jQ (jh 7) (jn))) jn))) (jE (m2 neD (jA jy 1 0 (fun as bs=>[as.getD 0 (.dat .non)]) (jQ (jh 6) (jn)) jn) (jA jy 1 0 (fun as bs=>[as.getD 0 (.dat .non)]) (jQ (jh 5) (jn)) jn))))) (YY (mC (.bl false))) (we))
    (jdF 4 (jA jy 1 0 (fun as bs=>[as.getD 0 (.dat .non)]) (jQ (jh 6) (jn)) jn))))))
    (YY (m2 eqD (JF jgN (je (jh 4) (jY))) (mLc (jh5 jfD (je (mC (.int 40)) (jY))) (cgN 9) (jl7) (zk (je (jh 9) (jY))) [9]))))))
def jd2:List FA→RF:=wj 1 10 jf6
theorem jhQ {P:Program} {w:World} {K:PySem.W.Frag} {mg:Str→Option Value} {base:Heap} (c:Kn fa fn K mg) {fd:FuncData} (D:jG K jag fd):FnG P w K mg base (L2.CX P w) 4 (jag.ad.a K) fd ["_law_rng_here"] (spF ⟨He.ga K,none,[]⟩ K jd2):=by
  obtain ⟨fd_l_thing,D_l_thing⟩:=c.def_ 1 (d:=Vv)
  have O_l_thing:=jhS (P:=P) (w:=w) (base:=base) c D_l_thing
  have B1_l_thing:=jdR D_l_thing
  obtain ⟨fd_l_ones,D_l_ones⟩:=c.def_ 31 (d:=jbm)
  have O_l_ones:=jjg (P:=P) (w:=w) (base:=base) c D_l_ones
  have B1_l_ones:=jet D_l_ones
  obtain ⟨fd_l_ones_by_place,D_l_ones_by_place⟩:=c.def_ 32 (d:=vl)
  have O_l_ones_by_place:=jci (P:=P) (w:=w) (base:=base) c D_l_ones_by_place
  have B1_l_ones_by_place:=Wk D_l_ones_by_place
  obtain ⟨fd_l_told,D_l_told⟩:=c.def_ 33 (d:=ja3)
  have O_l_told:=jiw (P:=P) (w:=w) (base:=base) c D_l_told
  have B1_l_told:=jen D_l_told
  obtain ⟨fd_l_is_of,D_l_is_of⟩:=c.def_ 35 (d:=VS)
  have O_l_is_of:=jhb (P:=P) (w:=w) (base:=base) c D_l_is_of
  have B2_l_is_of:=jd3 D_l_is_of
  obtain ⟨fd_l_classes,D_l_classes⟩:=c.def_ 36 (d:=ze)
  have O_l_classes:=jfO (P:=P) (w:=w) (base:=base) c D_l_classes
  have B1_l_classes:=jda D_l_classes
  obtain ⟨fd_l_more,D_l_more⟩:=c.def_ 43 (d:=jba)
  have O_l_more:=jiA (P:=P) (w:=w) (base:=base) c D_l_more
  have B2_l_more:=jem D_l_more
  obtain ⟨fd_l_parts,D_l_parts⟩:=c.def_ 44 (d:=VM)
  have O_l_parts:=jhA (P:=P) (w:=w) (base:=base) c D_l_parts
  have B1_l_parts:=jdU D_l_parts
  exact WH D vu rfl rfl fun cdv A outer s H E hr hg=>
    jl (jmb (i:=1) (j:=2) rfl vu.nd rfl rfl (by decide) rfl rfl (ja (JV O_l_thing (hr.mono (by decide)) hg (takes_of rfl rfl rfl rfl) (by rfl) (c.glo 7) D_l_thing.kp (jdn D_l_thing) jaE (jgq (pv 0) (jJ))) (ja (JV O_l_thing (hr.mono (by decide)) hg (takes_of rfl rfl rfl rfl) (by rfl) (c.glo 7) D_l_thing.kp (jdn D_l_thing) jaE (jgq (pv 0) (jJ))) (ji))) rfl)
    (jl (jk9 (i:=3) (j:=4) rfl vu.nd rfl rfl (by decide) rfl rfl (JV O_l_ones (hr.mono (by decide)) hg (takes_of rfl rfl rfl rfl) (by rfl) (c.glo 132) D_l_ones.kp (jgm D_l_ones) jej (jB (jb (pv 1)) (jJ))) (jg1 (ji)) rfl)
    (jl (jj6 (passes_of rfl) rfl (jmQ (by rfl) (c.free 134) (ja (jb (pv 3)) (ja (JV O_l_ones_by_place (hr.mono (by decide)) hg (takes_of rfl rfl rfl rfl) (by rfl) (c.glo 133) D_l_ones_by_place.kp (jbw D_l_ones_by_place) V4 (jB (jb (pv 2)) (jJ))) (ji)))) (jfy rfl (Yk (jfy rfl (Yk (jb2 (pg_name (i:=6) vu.nd rfl (by first | exact .inl rfl | exact .inr rfl))) (Yk (jb2 (pg_name (i:=7) vu.nd rfl (by first | exact .inl rfl | exact .inr rfl))) (jfk)))) (Yk (jb2 (pg_name (i:=5) vu.nd rfl (by first | exact .inl rfl | exact .inr rfl))) (jfk)))) (jl (V3 (PW.pt (jji (jdl (jlr hr.units) (vc (jaL hg hr.units) (by rfl) (c.free 135) (by decide +kernel) (ja (JV O_l_told (hr.mono (by decide)) hg (takes_of rfl rfl rfl rfl) (by rfl) (c.glo 158) D_l_told.kp (jdT D_l_told) jbK (jB (jb (pv 6)) (jJ))) (ji))) (vc (jaL hg hr.units) (by rfl) (c.free 135) (by decide +kernel) (ja (jb (pv 1)) (ji))) (nomark _)) (jg4 (jdl (jlr hr.units) (vc (jaL hg hr.units) (by rfl) (c.free 135) (by decide +kernel) (ja (JV O_l_told (hr.mono (by decide)) hg (takes_of rfl rfl rfl rfl) (by rfl) (c.glo 158) D_l_told.kp (jdT D_l_told) jbK (jB (jb (pv 5)) (jJ))) (ji))) (vc (jaL hg hr.units) (by rfl) (c.free 135) (by decide +kernel) (ja (jb (pv 2)) (ji))) (nomark _))))) (va (vq (jhv))) (yx))
    (jl (V3 (PW.pt (jji (jiZ (yd (JV O_l_is_of (hr.mono (by decide)) hg (takes_of rfl rfl rfl rfl) (by rfl) (c.glo 171) D_l_is_of.kp (jaN D_l_is_of) YA (jB (jb (pv 6)) (jB (jb (pv 7)) (jJ)))))) (jg4 (jdl (jlr hr.units) (JV O_l_classes (hr.mono (by decide)) hg (takes_of rfl rfl rfl rfl) (by rfl) (c.glo 217) D_l_classes.kp (wf D_l_classes) vk (jB (jb (pv 6)) (jJ))) (JV O_l_classes (hr.mono (by decide)) hg (takes_of rfl rfl rfl rfl) (by rfl) (c.glo 217) D_l_classes.kp (wf D_l_classes) vk (jB (jb (pv 5)) (jJ))) (nomark _))))) (va (vq (jhv))) (yx))
    (va (WM (pv 4) (JV O_l_classes (hr.mono (by decide)) hg (takes_of rfl rfl rfl rfl) (by rfl) (c.glo 217) D_l_classes.kp (wf D_l_classes) vk (jB (jb (pv 6)) (jJ))))))))
    (jl (jj6 (passes_of rfl) rfl (jmS (JV O_l_more (hr.mono (by decide)) hg (takes_of rfl rfl rfl rfl) (by rfl) (c.glo 247) D_l_more.kp (jgn D_l_more) jei (jB (jb (pv 1)) (jB (jb (pv 2)) (jJ))))) (jfy rfl (Yk (jb2 (pg_name (i:=6) vu.nd rfl (by first | exact .inl rfl | exact .inr rfl))) (Yk (jb2 (pg_name (i:=5) vu.nd rfl (by first | exact .inl rfl | exact .inr rfl))) (Yk (jb2 (pg_name (i:=7) vu.nd rfl (by first | exact .inl rfl | exact .inr rfl))) (jfk))))) (jl (vf (i:=8) vu.nd rfl (by first | exact .inl rfl | exact .inr rfl) (jjt (Jb (ja (jb (pv 1)) (ja (jb (pv 2)) (ji)))) (jkQ) (jln (vc jkS (by rfl) (c.free 0) (by decide +kernel) (ja (JV O_l_parts (hr.mono (by decide)) hg (takes_of rfl rfl rfl rfl) (by rfl) (c.glo 256) D_l_parts.kp (jav D_l_parts) Yz (jB (jb (pv 6)) (jJ))) (ji))))))
    (jl (V3 (PW.pt (jji (jdl (jlr hr.units) (vc (jaL hg hr.units) (by rfl) (c.free 135) (by decide +kernel) (ja (JV O_l_parts (hr.mono (by decide)) hg (takes_of rfl rfl rfl rfl) (by rfl) (c.glo 256) D_l_parts.kp (jav D_l_parts) Yz (jB (jb (pv 6)) (jJ))) (ji))) (vc (jaL hg hr.units) (by rfl) (c.free 135) (by decide +kernel) (ja (jb (pv 8)) (ji))) (nomark _)) (jg4 (jdl (jlr hr.units) (vc (jaL hg hr.units) (by rfl) (c.free 135) (by decide +kernel) (ja (JV O_l_parts (hr.mono (by decide)) hg (takes_of rfl rfl rfl rfl) (by rfl) (c.glo 256) D_l_parts.kp (jav D_l_parts) Yz (jB (jb (pv 5)) (jJ))) (ji))) (vc (jaL hg hr.units) (by rfl) (c.free 135) (by decide +kernel) (ja (jb (pv 8)) (ji))) (nomark _))))) (va (vq (jhv))) (yx))
    (jl (V3 (PW.pt (jji (jiZ (yd (JV O_l_is_of (hr.mono (by decide)) hg (takes_of rfl rfl rfl rfl) (by rfl) (c.glo 171) D_l_is_of.kp (jaN D_l_is_of) YA (jB (jb (pv 6)) (jB (jb (pv 7)) (jJ)))))) (jji (jiZ (yd (JV O_l_is_of (hr.mono (by decide)) hg (takes_of rfl rfl rfl rfl) (by rfl) (c.glo 171) D_l_is_of.kp (jaN D_l_is_of) YA (jB (jb (pv 5)) (jB (jb (pv 7)) (jJ)))))) (jg4 (jdl (jlr hr.units) (JV O_l_classes (hr.mono (by decide)) hg (takes_of rfl rfl rfl rfl) (by rfl) (c.glo 217) D_l_classes.kp (wf D_l_classes) vk (jB (jb (pv 6)) (jJ))) (JV O_l_classes (hr.mono (by decide)) hg (takes_of rfl rfl rfl rfl) (by rfl) (c.glo 217) D_l_classes.kp (wf D_l_classes) vk (jB (jb (pv 5)) (jJ))) (nomark _)))))) (va (vq (jhv))) (yx))
    (va (WM (pv 4) (JV O_l_classes (hr.mono (by decide)) hg (takes_of rfl rfl rfl rfl) (by rfl) (c.glo 217) D_l_classes.kp (wf D_l_classes) vk (jB (jb (pv 6)) (jJ)))))))))
    (va (vq (jkm (jn7 hr.units) (vc (jli hr.units) (by rfl) (c.free 257) (by decide +kernel) (ja (jb (pv 4)) (ji))) (jjD (own:=[("_law_k",9)]) rfl vu.nd (jfU (by rfl) (c.free 3) (ja (JE) (ji))) (blkOk_by (by rfl)) (jie 9) (fun _ _ _ _ _=>pg_name (i:=9) vu.nd rfl (by first | exact .inl rfl | exact .inr rfl)) (fun _ _ _ _ _=>jkr rfl) (fun _ _ _ _ _=>Jb (ja (jb (pv 9)) (ji)))) (nomark _)))))))
theorem jfh:FnScope ["_law_script","_law_k","_law_cell"] ["_law_script","_law_k"] (defScope jjc):=⟨rfl,rfl,rfl,by decide +kernel,rfl,by decide +kernel,by decide +kernel⟩
def jiO:Sg→Rs (List Dat):=
    jhM (Vb (m2 Vu (m2 ji1 (mC (.int 7)) (jh 1)) (mC (.int 3))) (gNm 2))
    (jhM (V8 (jE (m2 ltD (jh 1) (JF jhk (je (jh 0) (jY))))) (Vb (m2 ixD (jh 0) (jh 1)) (gNm 2)) (we))
    (jkn (je (JF jl8 (je (mC (.int 0)) (je (m2 jn9 (JF jmf (je (jh 2) (jY))) (m2 jls (mC (.int 10)) (mC (.int 18)))) (jY)))) (je (m2 Vu (m2 jlt (m2 ji1 (JF jko (je (m2 Vu (m2 jlt (JF jko (je (JF jmf (je (jh 2) (jY))) (jY))) (mC (.int 2147483549))) (mC (.int 1))) (jY))) (m2 jls (m2 Vu (m2 ji1 (mC (.int 2)) (jh 1)) (mC (.int 5))) (mC (.int 3)))) (mC (.int 2147483543))) (mC (.int 1))) (jY)))))
def jea:List Dat→Option (List Dat):=jlz 2 3 jiO
theorem jjJ {P:Program} {w:World} {K:PySem.W.Frag} {mg:Str→Option Value} {base:Heap} (c:Kn fa fn K mg) {fd:FuncData} (D:jG K jef fd):FnG P w K mg base (L2.CX P w) 1 (jef.ad.a K) fd ["_law_script","_law_k"] (spL ⟨He.ga K,none,[]⟩ K jea):=by
  exact jmy D jfh rfl rfl fun cdv A outer s H E hr hg=>
    jgz (vf (i:=2) jfh.nd rfl (by first | exact .inl rfl | exact .inr rfl) (vn wZ (vn jip (JE) (jb (pv 1))) (JE)))
    (jgz (V3 (jdl joo (jb (pv 1)) (vc jkS (by rfl) (c.free 0) (by decide +kernel) (ja (jb (pv 0)) (ji))) (nomark _)) (va (vf (i:=2) jfh.nd rfl (by first | exact .inl rfl | exact .inr rfl) (jl3 jnI (jb (pv 0)) (jb (pv 1)) (fun _ _=>rfl)))) (yx))
    (jk6 (jkU (jg1 (ja (vc (jmP rfl) (by rfl) (c.free 2) (by decide +kernel) (ja (JE) (ja (vn jnA (vc jmG (by rfl) (c.free 258) (by decide +kernel) (ja (jb (pv 2)) (ji))) (vn jk0 (JE) (JE))) (ji)))) (ja (vn wZ (vn jir (vn jip (jaQ jiy (by rfl) (c.free 5) (by decide +kernel) (ja (vn wZ (vn jir (jaQ jiy (by rfl) (c.free 5) (by decide +kernel) (ja (vc jmG (by rfl) (c.free 258) (by decide +kernel) (ja (jb (pv 2)) (ji))) (ji))) (JE)) (JE)) (ji))) (vn jk0 (vn wZ (vn jip (JE) (jb (pv 1))) (JE)) (JE))) (JE)) (JE)) (ji)))))))
theorem jid:FnScope ["_law_script","_law_k"] ["_law_script"] (defScope jlV):=⟨rfl,rfl,rfl,by decide +kernel,rfl,by decide +kernel,by decide +kernel⟩
def jmd:MS:=
    YY (JF jnN (je (mLc (jh5 jfD (je (JF jl8 (je (mC (.int 1)) (je (JF jm9 (je (mC (.int 4)) (je (JF jhk (je (jh 0) (jY))) (jY)))) (jY)))) (jY))) (cgN 1) (jl7) (jh9 jd2 (jjU jea 2 (jQ (jh 0) (jQ (jh 1) (jn))))) [1]) (jY)))
def F_law:List FA→RF:=wj 1 2 jmd
theorem jms {P:Program} {w:World} {K:PySem.W.Frag} {mg:Str→Option Value} {base:Heap} (c:Kn fa fn K mg) {fd:FuncData} (D:jG K jjy fd):FnG P w K mg base (L2.CX P w) 5 (jjy.ad.a K) fd ["_law_script"] (spF ⟨He.ga K,none,[]⟩ K F_law):=by
  obtain ⟨fd_l_right,D_l_right⟩:=c.def_ 45 (d:=jag)
  have O_l_right:=jhQ (P:=P) (w:=w) (base:=base) c D_l_right
  have B1_l_right:=jeg D_l_right
  obtain ⟨fd_l_rng,D_l_rng⟩:=c.def_ 46 (d:=jef)
  have O_l_rng:=jjJ (P:=P) (w:=w) (base:=base) c D_l_rng
  have B2_l_rng:=jfj D_l_rng
  exact WH D jid rfl rfl fun cdv A outer s H E hr hg=>
    va (vq (vc (jnx rfl) (by rfl) (c.free 261) (by decide +kernel) (ja (jjD (own:=[("_law_k",1)]) rfl jid.nd (jfU (by rfl) (c.free 3) (ja (vc (jmP rfl) (by rfl) (c.free 2) (by decide +kernel) (ja (JE) (ja (vc (jny rfl) (by rfl) (c.free 1) (by decide +kernel) (ja (JE) (ja (vc jkS (by rfl) (c.free 0) (by decide +kernel) (ja (jb (pv 0)) (ji))) (ji)))) (ji)))) (ji))) (blkOk_by (by rfl)) (jie 1) (fun _ _ _ _ _=>pg_name (i:=1) jid.nd rfl (by first | exact .inl rfl | exact .inr rfl)) (fun _ _ _ _ _=>jkr rfl) (fun _ _ _ _ _=>jk1 O_l_right (hr.mono (by decide)) hg Mir.takes0 (by rfl) (c.glo 260) D_l_right.kp B1_l_right (jkv O_l_rng (hr.mono (by decide)) hg Mir.takes0 (by rfl) (c.glo 259) D_l_rng.kp B2_l_rng (jB (jb (pv 0)) (jB (jb (pv 1)) (jJ)))))) (ji))))
end
end K19
namespace K19
open PySem PySem.Spec PyProof.Rows L2 Mir
def nm0:List PySem.Str:=["__name__","DueError","InvalidCurve","InvalidPiece","InvalidLength","InvalidCount","InvalidRecord","InvalidVisit","InvalidVisits","InvalidSupply","InvalidWindow","InvalidStation","InvalidNetwork","InvalidName","InvalidPath","InvalidSplit","InvalidTime","InvalidTick","InvalidFault","InvalidFaults","InvalidHanded","InvalidBook","InvalidWeights","InvalidText","InvalidCommand","UnknownStation","UnknownStream","UnknownUnit","NoLink","NameTaken"]
def nm1:List PySem.Str:=["NotGood","TooSlow","Refused","Overfull","NotPlain","HasReserves","NoSplits","Exposed","NotLate","RunFailed","TooLong","TooMany","_law_rng","_law_draw","_law_choice","_law_thing","_law_ones","_law_ones_by_place","_law_told","_law_more","_law_parts","_law_classes","_law_base","_law_is_of","_law_right"]
def nms:List PySem.Str:=nm0 ++ nm1
abbrev R:PySem.W.OpenRow:=PySem.W.OpenLaw.row PySem.Challenge.rw_dueways_k19_errors
def adr:List Nat:=[2,3,6,4,24,44,63,82,101,120,139,158,177,196,215,234,253,272,291,310,329,348,367,379,391,403,422,441,460,480,500,520,540,560,580,600,620,633,646,666,686,706,726,746,766,776,783,790,797,804,811,818,825,832,837,842,849,854,859,0,23,43,62,81,100,119,138,157,176,195,214,233,252,271,290,309,328,347,366,378,390,402,421,440,459,479,499,519,539,559,579,599,619,632,645,665,685,705,725,745,765,775,782,789,796,803,810,817,824,831,836,841,848,853,858,22,25,41,42,60,61,79,80,98,99,117,118,136,137,155,156,174,175,193,194,212,213,231,232,250,251,269,270,288,289,307,308,326,327,345,346,364,365,377,389,401,419,420,438,439,457,458,461,477,478,481,497,498,501,517,518,521,537,538,541,557,558,561,577,578,581,597,598,601,617,618,621,631,634,644,647,663,664,667,683,684,687,703,704,707,723,724,727,743,744,747,763,764,767,770,771,772,773,774,777,778,779,780,781,784,785,786,787,788,791,792,793,794,795,798,799,800,801,802,805,806,807,808,809,812,813,814,815,816,819,820,821,822,823,826,827,828,829,830,833,834,835,838,839,840,843,844,845,846,847,850,851,852,855,856,857,40,59,78,97,116,135,154,173,192,211,230,249,268,287,306,325,344,363,418,437,456,476,496,516,536,556,576,596,616,662,682,702,722,742,762,35,36,37,38,39,54,55,56,57,58,73,74,75,76,77,92,93,94,95,96,111,112,113,114,115,130,131,132,133,134,149,150,151,152,153,168,169,170,171,172,187,188,189,190,191,206,207,208,209,210,225,226,227,228,229,244,245,246,247,248,263,264,265,266,267,282,283,284,285,286,301,302,303,304,305,320,321,322,323,324,339,340,341,342,343,358,359,360,361,362,413,414,415,416,417,432,433,434,435,436,451,452,453,454,455,471,472,473,474,475,491,492,493,494,495,511,512,513,514,515,531,532,533,534,535,551,552,553,554,555,571,572,573,574,575,591,592,593,594,595,611,612,613,614,615,657,658,659,660,661,677,678,679,680,681,697,698,699,700,701,717,718,719,720,721,737,738,739,740,741,757,758,759,760,761]
def jnF (as:List Addr) (fa:List Fc) (fn:List v7):PySem.W.Hook where
  α:=He.AlD
  obs:=fun s=>jlL fa fn (He.frG s.heap.get? as)
  val:=fun _=>(true,fn.map v7.val)
  says:=fun _ h=> ∃ K:PySem.W.Frag,K.In h∧jku fa fn K
  of:=fun _ _ e=>⟨_,He.frG_in,e⟩
  keeps:=fun _ _ _ ⟨K,a,c⟩ k=>⟨K,PySem.W.Frag.In.keeps a k,c⟩
abbrev hk:PySem.W.Hook:=jnF adr fa fn
def ob (s:PySem.W.SharedT):He.AlD:=jlL fa fn (He.frG (HandSHeadRun.getT s) adr)
theorem ob_eq (s:PySem.W.SharedT):ob s=hk.obs s.abs:=by
  have e:HandSHeadRun.getT s=s.abs.heap.get?:=funext (HandSHeadRun.getT_eq s)
  show jlL fa fn (He.frG (HandSHeadRun.getT s) adr)=jlL fa fn (He.frG s.abs.heap.get? adr)
  rw [e]
section
open PySem.Calls PySem.W
theorem jni (w:World) (os:OsState):(HandSHeadRun.endF (HandSHeadRun.stepQ (HandSHeadRun.denQ HandSHeadRun.tabQ) R.prog w) 20000 R.prog w os).map (fun s=>HandSHeadRun.looksF R.prog (boot_heap w.params) s.abs)=some (true):=by
  kernel_rfl
theorem jnu (w:World) (os:OsState):(HandSHeadRun.endF (HandSHeadRun.stepQ (HandSHeadRun.denQ HandSHeadRun.tabQ) R.prog w) 20000 R.prog w os).map (fun s=>HandSHeadRun.seenQ (PySem.W.view R.prog [56]) nms (importedModules R.prog.main.body) (fun s=>PySem.W.xlAt (PySem.W.view R.prog [56]) [] s && PySem.W.recOk R.toRowW.records s) s.abs)=some (PySem.W.openGood (PySem.W.view R.prog [56]) nms):=by
  kernel_rfl
theorem jnR (w:World) (os:OsState):(HandSHeadRun.endF (HandSHeadRun.stepQ (HandSHeadRun.denQ HandSHeadRun.tabQ) R.prog w) 20000 R.prog w os).map (fun s=>ob s)=some (hk.val w):=by
  kernel_rfl
theorem jov {α β γ δ:Type} {o:Option α} {f:α→β} {g:α→γ} {h:α→δ} {x:β} {y:γ} {z:δ} (a:o.map f=some x) (b:o.map g=some y) (c:o.map h=some z):o.map (fun s=>(f s,g s,h s))=some (x,y,z):=by
  cases o with
  | none=>cases a
  | some s=>
    cases a; cases b; cases c; rfl
theorem run (w:World):HandSHeadRun.RunEq R (PySem.W.view R.prog [56]) hk ob 20000 nms w:=fun os=>jov (jni w os) (jnu w os) (jnR w os)
end
theorem facts {P:Program} {w:World} {K:PySem.W.Frag} {h:Heap} {mg:Str→Option Value} {f:Addr} (X:K.In h) (G:h.Ns mainGlobals mg) (hf:mg ("law" :Str)=some (.ref f)) (z:jku fa fn K) :
    ∃ (fd:FuncData),(∀ (s:Shared) (v:Value),BindsTo s fd ⟨[v],[]⟩ [("_law_script",v)])∧∀ base:Heap,K.In base→base.Ns mainGlobals mg→FnG P w K mg base (L2.CX P w) 5 f fd ["_law_script"] (spF ⟨He.ga K,none,[]⟩ K F_law):=by
  have c:Kn fa fn K mg:=⟨⟨h,X,G⟩,z⟩
  obtain ⟨fd,D⟩:=c.def_ 47 (d:=jjy)
  cases hf.symm.trans (c.glo 262)
  have b:=FunD.bindsA (ps:=["_law_script"]) D fun _ _ _ _ _ _ us hl=>match us,hl with | [_],_=>rfl
  exact ⟨fd,fun s v=>b s [v] rfl,fun base _ _=>jms c D⟩
end K19
open PySem PySem.W PySem.Calls PyProof.Rows in
theorem K19.closed (good:∀ ns:List Int,ns.length≤63→K19.F_law [.dat (.ro (ns.map .int))]= .ok (.bl true) []):PySem.Challenge.rw_dueways_k19_errors.Holds:=by
  w_on; o_law
  refine HandSHeadRun.head_any (r:=OpenLaw.row PySem.Challenge.rw_dueways_k19_errors) (q:=view (OpenLaw.row PySem.Challenge.rw_dueways_k19_errors).prog [56]) (H:=K19.hk) (ob:=K19.ob) (M:=20000) (loose:=K19.nms) (d:=HandSHeadRun.topDef (OpenLaw.row PySem.Challenge.rw_dueways_k19_errors).prog 56) (kwd:=[]) K19.ob_eq
    (by kernel_rfl) (fun s=>by kernel_rfl) K19.run (by kernel_rfl) (by kernel_rfl) (by kernel_rfl) (by rfl) (by first | assumption | decide +kernel) (by decide +kernel) ⟨rfl,rfl,rfl,rfl,rfl,by decide +kernel⟩ ?hw ?hc
  case hw=>w_witness2
  case hc=>
    refine Mir.end_ofM (l:=PySem.Challenge.rw_dueways_k19_errors) (n:=63) (k:=5) (x:= "_law_script") (Fn:=K19.F_law) rfl (by decide) (by kernel_rfl) ⟨rfl,by decide,by decide⟩ ?F good
    intro w mg fa h Y G hm
    obtain ⟨K,KX,z⟩:=Y
    have hm2:mg ("law" :PySem.Str)=some (.ref fa):=by
      have e:(HandSHeadRun.topDef (OpenLaw.row PySem.Challenge.rw_dueways_k19_errors).prog 56).name=("law" :PySem.Str):=by kernel_rfl
      rw [← e]
      exact hm
    obtain ⟨fd,hb,hF⟩:=K19.facts (P:=(PySem.Challenge.rw_dueways_k19_errors).prog) (w:=w) KX G hm2 z
    exact ⟨K,fd,⟨He.ga K,none,[]⟩,KX,hb,hF⟩
namespace K19
open PySem Mir
noncomputable section
theorem joi {x0:Dat}:jbV [] [(.inr "a",x0)]=([(.inr "a",x0)]:List (L2.Key×Dat)):=by simp [jbV,jik]
theorem jat {x0 x1 x2 x3:Dat}:jbV [] [(.inr "due",x0),(.inr "lookup",x1),(.inr "run",x2),(.inr "sum",x3)]=([(.inr "due",x0),(.inr "lookup",x1),(.inr "run",x2),(.inr "sum",x3)]:List (L2.Key×Dat)):=by simp [jbV,jik,show (("due" :Str) == "lookup")=false by decide,show ¬ (("due" :Str)= "lookup") by decide,show (("due" :Str) == "run")=false by decide,show ¬ (("due" :Str)= "run") by decide,show (("due" :Str) == "sum")=false by decide,show ¬ (("due" :Str)= "sum") by decide,show (("lookup" :Str) == "due")=false by decide,show ¬ (("lookup" :Str)= "due") by decide,show (("lookup" :Str) == "run")=false by decide,show ¬ (("lookup" :Str)= "run") by decide,show (("lookup" :Str) == "sum")=false by decide,show ¬ (("lookup" :Str)= "sum") by decide,show (("run" :Str) == "due")=false by decide,show ¬ (("run" :Str)= "due") by decide,show (("run" :Str) == "lookup")=false by decide,show ¬ (("run" :Str)= "lookup") by decide,show (("run" :Str) == "sum")=false by decide,show ¬ (("run" :Str)= "sum") by decide,show (("sum" :Str) == "due")=false by decide,show ¬ (("sum" :Str)= "due") by decide,show (("sum" :Str) == "lookup")=false by decide,show ¬ (("sum" :Str)= "lookup") by decide,show (("sum" :Str) == "run")=false by decide,show ¬ (("sum" :Str)= "run") by decide]
theorem jju (s:Rg) {n:Int} (h:0 < n) (h2:n < 1073741824):ja6 [.own s.own,.dat (.int n)]= .ok (.int (s.val n)) [(s.next n).own]:=by
  have nb:=jjC s
  have sm:=jfv s.b0 s.b1
  by_cases hz:0 < s.a
  · simp [ja6,jfn,Rg.own,Rg.ds,jhx,jeM,jeU,jdf,je0,jcE,jhW,jeF,jhE,jhO,jlo,jc9,jeE,jcL,jh4,jhh,jha,jhf,jc8,jhi,jh1,jhX,jht,jhJ,r_C,r_2,r_1,jhu,jeA,jeV,jhL,jhR,jlq,jhI,jlA,jh0,jde,jeR,jhT,jeK,jcX,jhy,jho,jly,jcG,jcy,jeJ,je8,jc3,jew,jeL,jct,jcF,jcZ,jcJ,jbc,jbi,jbl,jcW,jbd,jbe,jcD,jbj,jcA,jbp,jeX,ja5,ja8,Yw,Yy,VA,jcC,jcx,jc7,jeC,VE,jdc,jcz,jc5,jhj,jeS,jeZ,jcV,jhg,jhz,je6,jeO,jdd,jhp,jeB,jeT,jdg,jcK,jey,jbb,jcM,jcH,ja9,je2,jcu,jbk,jc2,jbg,Vx,jbf,Vy,jfa,jcT,jc1,jcN,jcv,jeQ,je4,jbo,je3,jcY,jhe,jfc,je9,je1,jeW,jcS,jbq,Rs.of_some,Rs.of_none,Rs.bind_ok,Rs.bind_bad,Rs.bind_exc,Rs.calm_ok,jh,vG,wd,WP,Y4,wb,jh8,yr,jep,jd7,Ja,jh7,wj,endF,vI,yu,L2.ixN,L2.atI,jgM,ixD,List.getElem?_cons_zero,List.getElem?_cons_succ,List.set_cons_zero,List.set_cons_succ,List.length_cons,List.length_nil,List.replicate,List.cons_append,List.nil_append,List.append_nil,List.getD_cons_zero,List.getD_cons_succ,List.contains_cons,List.contains_nil,hz,h,h2,jfs,Rg.val,Rg.next]
  · have nb2:Wm ((s.b * 48311 + 20011) % 2147483563)=true:=nb
    simp [ja6,jfn,Rg.own,Rg.ds,jhx,jeM,jeU,jdf,je0,jcE,jhW,jeF,jhE,jhO,jlo,jc9,jeE,jcL,jh4,jhh,jha,jhf,jc8,jhi,jh1,jhX,jht,jhJ,r_C,r_2,r_1,jhu,jeA,jeV,jhL,jhR,jlq,jhI,jlA,jh0,jde,jeR,jhT,jeK,jcX,jhy,jho,jly,jcG,jcy,jeJ,je8,jc3,jew,jeL,jct,jcF,jcZ,jcJ,jbc,jbi,jbl,jcW,jbd,jbe,jcD,jbj,jcA,jbp,jeX,ja5,ja8,Yw,Yy,VA,jcC,jcx,jc7,jeC,VE,jdc,jcz,jc5,jhj,jeS,jeZ,jcV,jhg,jhz,je6,jeO,jdd,jhp,jeB,jeT,jdg,jcK,jey,jbb,jcM,jcH,ja9,je2,jcu,jbk,jc2,jbg,Vx,jbf,Vy,jfa,jcT,jc1,jcN,jcv,jeQ,je4,jbo,je3,jcY,jhe,jfc,je9,je1,jeW,jcS,jbq,Rs.of_some,Rs.of_none,Rs.bind_ok,Rs.bind_bad,Rs.bind_exc,Rs.calm_ok,jh,vG,wd,WP,Y4,wb,jh8,yr,jep,jd7,Ja,jh7,wj,endF,vI,yu,L2.ixN,L2.atI,jgM,ixD,List.getElem?_cons_zero,List.getElem?_cons_succ,List.set_cons_zero,List.set_cons_succ,List.length_cons,List.length_nil,List.replicate,List.cons_append,List.nil_append,List.append_nil,List.getD_cons_zero,List.getD_cons_succ,List.contains_cons,List.contains_nil,hz,h,h2,Rg.val,Rg.next,Rg.nb,Vu,ji1,jlu,jko,sm,nb2]
theorem jmC {s:Rg} {n:Int} {r:Int×Rg} (h:jiz s n=some r):ja6 [.own s.own,.dat (.int n)]= .ok (.int r.1) [r.2.own]:=by
  unfold jiz at h
  split at h
  · rename_i z; cases h; exact jju s z.1 z.2
  · cases h
theorem jjA (c:Int):jmf [.int c]=some (.int (c.natAbs:Int)):=by
  show some (Dat.int (if c < 0 then -c else c))=_
  congr 2
  split <;> omega
theorem jk2 (ns:List Int) (k:Nat) (hk:k≤60):jea [.ro (ns.map .int),.int (k:Int)]=some (jm0 ns k).ds:=by
  have s7:Wm 7=true:=by decide
  have s2:Wm 2=true:=by decide
  have na:(2 * (k:Int) + 5).natAbs < 18446744073709551616:=by omega
  have st:(V8 (jE (m2 ltD (jh 1) (JF jhk (je (jh 0) (jY))))) (Vb (m2 ixD (jh 0) (jh 1)) (gNm 2)) (we)) [.dat (.ro (ns.map .int)),.dat (.int k),.dat (.int (7 * k + 3))]= .ok .nx [.dat (.ro (ns.map .int)),.dat (.int k),.dat (.int (ns.getD k (7 * (k:Int) + 3)))]:=by
    by_cases hz:k < ns.length
    · have ix:ixD (.ro (ns.map .int)) (.int k)=some (.int (ns.getD k (7 * (k:Int) + 3))):=L2.atI_nat (j:=k) (by rw [List.getElem?_map,List.getElem?_eq_getElem hz,List.getD_eq_getElem?_getD,List.getElem?_eq_getElem hz]; rfl)
      have hz2:(k:Int) < (ns.length:Int):=by omega
      simp [jhx,jeM,jeU,jdf,je0,jcE,jhW,jeF,jhE,jhO,jlo,jc9,jeE,jcL,jh4,jhh,jha,jhf,jc8,jhi,jh1,jhX,jht,jhJ,r_C,r_2,r_1,jhu,jeA,jeV,jhL,jhR,jlq,jhI,jlA,jh0,jde,jeR,jhT,jeK,jcX,jhy,jho,jly,jcG,jcy,jeJ,je8,jc3,jew,jeL,jct,jcF,jcZ,jcJ,jbc,jbi,jbl,jcW,jbd,jbe,jcD,jbj,jcA,jbp,jeX,ja5,ja8,Yw,Yy,VA,jcC,jcx,jc7,jeC,VE,jdc,jcz,jc5,jhj,jeS,jeZ,jcV,jhg,jhz,je6,jeO,jdd,jhp,jeB,jeT,jdg,jcK,jey,jbb,jcM,jcH,ja9,je2,jcu,jbk,jc2,jbg,Vx,jbf,Vy,jfa,jcT,jc1,jcN,jcv,jeQ,je4,jbo,je3,jcY,jhe,jfc,je9,je1,jeW,jcS,jbq,Rs.of_some,Rs.of_none,Rs.bind_ok,Rs.bind_bad,Rs.bind_exc,Rs.calm_ok,jh,vG,wd,WP,Y4,wb,jh8,yr,jep,jd7,Ja,jh7,wj,endF,vI,yu,jgM,List.getElem?_cons_zero,List.getElem?_cons_succ,List.set_cons_zero,List.set_cons_succ,List.length_cons,List.length_nil,List.replicate,List.cons_append,List.nil_append,List.append_nil,List.getD_cons_zero,List.getD_cons_succ,List.contains_cons,List.contains_nil,jhk,ix,hz,hz2]
    · have hz2:¬ (k:Int) < (ns.length:Int):=by omega
      have e:ns.getD k (7 * (k:Int) + 3)=7 * (k:Int) + 3:=by rw [List.getD_eq_getElem?_getD,List.getElem?_eq_none (by omega)]; rfl
      rw [e]
      simp [jhx,jeM,jeU,jdf,je0,jcE,jhW,jeF,jhE,jhO,jlo,jc9,jeE,jcL,jh4,jhh,jha,jhf,jc8,jhi,jh1,jhX,jht,jhJ,r_C,r_2,r_1,jhu,jeA,jeV,jhL,jhR,jlq,jhI,jlA,jh0,jde,jeR,jhT,jeK,jcX,jhy,jho,jly,jcG,jcy,jeJ,je8,jc3,jew,jeL,jct,jcF,jcZ,jcJ,jbc,jbi,jbl,jcW,jbd,jbe,jcD,jbj,jcA,jbp,jeX,ja5,ja8,Yw,Yy,VA,jcC,jcx,jc7,jeC,VE,jdc,jcz,jc5,jhj,jeS,jeZ,jcV,jhg,jhz,je6,jeO,jdd,jhp,jeB,jeT,jdg,jcK,jey,jbb,jcM,jcH,ja9,je2,jcu,jbk,jc2,jbg,Vx,jbf,Vy,jfa,jcT,jc1,jcN,jcv,jeQ,je4,jbo,je3,jcY,jhe,jfc,je9,je1,jeW,jcS,jbq,Rs.of_some,Rs.of_none,Rs.bind_ok,Rs.bind_bad,Rs.bind_exc,Rs.calm_ok,jh,vG,wd,WP,Y4,wb,jh8,yr,jep,jd7,Ja,jh7,wj,endF,vI,yu,jgM,List.getElem?_cons_zero,List.getElem?_cons_succ,List.set_cons_zero,List.set_cons_succ,List.length_cons,List.length_nil,List.replicate,List.cons_append,List.nil_append,List.append_nil,List.getD_cons_zero,List.getD_cons_succ,List.contains_cons,List.contains_nil,jhk,hz,hz2]
  have f1:(Vb (m2 Vu (m2 ji1 (mC (.int 7)) (jh 1)) (mC (.int 3))) (gNm 2)) [.dat (.ro (ns.map .int)),.dat (.int k),.no]= .ok .nx [.dat (.ro (ns.map .int)),.dat (.int k),.dat (.int (7 * k + 3))]:=by
    simp [jhx,jeM,jeU,jdf,je0,jcE,jhW,jeF,jhE,jhO,jlo,jc9,jeE,jcL,jh4,jhh,jha,jhf,jc8,jhi,jh1,jhX,jht,jhJ,r_C,r_2,r_1,jhu,jeA,jeV,jhL,jhR,jlq,jhI,jlA,jh0,jde,jeR,jhT,jeK,jcX,jhy,jho,jly,jcG,jcy,jeJ,je8,jc3,jew,jeL,jct,jcF,jcZ,jcJ,jbc,jbi,jbl,jcW,jbd,jbe,jcD,jbj,jcA,jbp,jeX,ja5,ja8,Yw,Yy,VA,jcC,jcx,jc7,jeC,VE,jdc,jcz,jc5,jhj,jeS,jeZ,jcV,jhg,jhz,je6,jeO,jdd,jhp,jeB,jeT,jdg,jcK,jey,jbb,jcM,jcH,ja9,je2,jcu,jbk,jc2,jbg,Vx,jbf,Vy,jfa,jcT,jc1,jcN,jcv,jeQ,je4,jbo,je3,jcY,jhe,jfc,je9,je1,jeW,jcS,jbq,Rs.of_some,Rs.of_none,Rs.bind_ok,Rs.bind_bad,Rs.bind_exc,Rs.calm_ok,jh,vG,wd,WP,Y4,wb,jh8,yr,jep,jd7,Ja,jh7,wj,endF,vI,yu,jgM,List.getElem?_cons_zero,List.getElem?_cons_succ,List.set_cons_zero,List.set_cons_succ,List.length_cons,List.length_nil,List.replicate,List.cons_append,List.nil_append,List.append_nil,List.getD_cons_zero,List.getD_cons_succ,List.contains_cons,List.contains_nil,ji1,jlu,s7,Vu]
  have seqL:∀ (m:MS) (r:Sg→Rs (List Dat)) (S S1:Sg),m S= .ok .nx S1→jhM m r S=r S1:=fun m r S S1 h=>by unfold jhM; rw [h]
  unfold jea jlz jiO
  rw [if_pos (show [Dat.ro (ns.map .int),Dat.int (k:Int)].length=2 from rfl)]
  rw [show ([Dat.ro (ns.map .int),Dat.int (k:Int)].map vW.dat ++ List.replicate (3 - 2) vW.no)= [.dat (.ro (ns.map .int)),.dat (.int k),.no] from rfl]
  rw [seqL _ _ _ _ f1,seqL _ _ _ _ st]
  show _=some [Dat.int (max 0 (((ns.getD k (7 * (k:Int) + 3)).natAbs:Int) - 1000000000000000000)),Dat.int ((((ns.getD k (7 * (k:Int) + 3)).natAbs:Int) % 2147483549 + 1) * (2 * (k:Int) + 5) ^ 3 % 2147483543 + 1)]
  obtain ⟨w,hw⟩:∃ w:Int,((ns.getD k (7 * (k:Int) + 3)).natAbs:Int)=w:=⟨_,rfl⟩
  have ab:jmf [.int (ns.getD k (7 * (k:Int) + 3))]=some (.int w):=by rw [jjA,hw]
  rw [hw]
  generalize ns.getD k (7 * (k:Int) + 3)=c at ab ⊢
  have m0:0≤w % 2147483549:=Int.emod_nonneg _ (by decide)
  have m1:w % 2147483549 < 2147483549:=Int.emod_lt_of_pos _ (by decide)
  have sm:=jfv (i:=w % 2147483549 + 1) (by omega) (by omega)
  have mx:∀ x:Int,jl8 [.int 0,.int x]=some (.int (max 0 x)):=fun x=>jkp
  simp [jhx,jeM,jeU,jdf,je0,jcE,jhW,jeF,jhE,jhO,jlo,jc9,jeE,jcL,jh4,jhh,jha,jhf,jc8,jhi,jh1,jhX,jht,jhJ,r_C,r_2,r_1,jhu,jeA,jeV,jhL,jhR,jlq,jhI,jlA,jh0,jde,jeR,jhT,jeK,jcX,jhy,jho,jly,jcG,jcy,jeJ,je8,jc3,jew,jeL,jct,jcF,jcZ,jcJ,jbc,jbi,jbl,jcW,jbd,jbe,jcD,jbj,jcA,jbp,jeX,ja5,ja8,Yw,Yy,VA,jcC,jcx,jc7,jeC,VE,jdc,jcz,jc5,jhj,jeS,jeZ,jcV,jhg,jhz,je6,jeO,jdd,jhp,jeB,jeT,jdg,jcK,jey,jbb,jcM,jcH,ja9,je2,jcu,jbk,jc2,jbg,Vx,jbf,Vy,jfa,jcT,jc1,jcN,jcv,jeQ,je4,jbo,je3,jcY,jhe,jfc,je9,je1,jeW,jcS,jbq,Rs.of_some,Rs.of_none,Rs.bind_ok,Rs.bind_bad,Rs.bind_exc,Rs.calm_ok,jh,vG,wd,WP,Y4,wb,jh8,yr,jep,jd7,Ja,jh7,wj,endF,vI,yu,jgM,List.getElem?_cons_zero,List.getElem?_cons_succ,List.set_cons_zero,List.set_cons_succ,List.length_cons,List.length_nil,List.replicate,List.cons_append,List.nil_append,List.append_nil,List.getD_cons_zero,List.getD_cons_succ,List.contains_cons,List.contains_nil,ab,mx,jko,ji1,jlu,Vu,sm,s2,na,lim]
def jmn (ns:List Int) (k:Int):Option Rg:=if 0≤k∧k≤60 then some (jm0 ns k.toNat) else none
theorem jnw {ns:List Int} {k:Int} {s:Rg} (h:jmn ns k=some s):jea [.ro (ns.map .int),.int k]=some s.ds:=by
  unfold jmn at h
  split at h
  · rename_i z
    cases h
    have:=jk2 ns k.toNat (by omega)
    rw [Int.toNat_of_nonneg z.1] at this
    exact this
  · cases h
def jgg (a:Dat×Rg):RF:= .ok (eD a.1) [a.2.own]
def VY (p_rng:Rg):Option (Dat×Rg):=
  (some ([eI 0,eI 1,eI (-1),eI 100000000000000000,eB true,eB false,eU (),eS (("" :Str)),eS (("a" :Str)),eS (("2,2/2/1" :Str)),(eL eI) (([]:List Int)),(eL eI) ([1,2]),Dat.tup [],(e2 eI eI) ((0,3)),Dat.dic [],Dat.dic [(.inr "a",(e2 eI (eL eI)) ((1,[0])))]])).bind fun v1=>(jiz p_rng 16).bind fun d2=>(ixN? v1 d2.1).bind fun x3=>some ((x3,d2.2))
theorem jf5 {p_rng:Rg} {a:Dat×Rg} (hN:VY p_rng=some a):jcp [.own p_rng.own]=jgg a:=by
  unfold VY at hN
  refine jd6 (k:=1) (S:=[.own 0 p_rng.own,.no]) rfl rfl rfl ?_
  unfold jf8
  refine VD ?_
  refine jm ?_
  obtain ⟨v1,hv1,hN⟩:=bind_some hN
  refine ye (S2:=[.own 0 p_rng.own,.dat ((eL eD) v1)]) (zP (zP (vj (jc x_C (jc x_C (jc (x_1 x_C rfl) (jc (x_2 x_C x_C (jmo (n:=17) (r:=100000000000000000) rfl (by decide) (by decide) (by decide))) (jc x_C (jc x_C (jc x_C (jc x_C (jc x_C (jc x_C (jc (zP (vj jp (Nat.le_of_ble_eq_true rfl)) (by rfl)) (jc (zP (vj (jc x_C (jc x_C jp)) (Nat.le_of_ble_eq_true rfl)) (by rfl)) (jc (vF jp (Nat.le_of_ble_eq_true rfl)) (jc (vF (jc x_C (jc x_C jp)) (Nat.le_of_ble_eq_true rfl)) (jc x_C (jc (jj4 (jc (vF (jc x_C (jc (zP (vj (jc x_C jp) (Nat.le_of_ble_eq_true rfl)) (by rfl)) jp)) (Nat.le_of_ble_eq_true rfl)) jp) (by decide) joi) jp)))))))))))))))) (Nat.le_of_ble_eq_true rfl)) (by rfl)) (congrArg (eL eD) (Option.some.inj hv1))) rfl ?_
  obtain ⟨d2,hd2,hN⟩:=bind_some hN
  obtain ⟨x3,hx3,hN⟩:=bind_some hN
  refine yK (x_2 (jf rfl) (Jl (fs:=[.own p_rng.own,.dat (.int 16)]) (is:=[0]) (outs:=[d2.2.own]) (S3:=[.own 0 d2.2.own,.dat ((eL eD) v1)]) (jiV rfl (js x_C jg)) jg ⟨rfl,rfl⟩ rfl rfl (jmC hd2) rfl) (jow (f:=eD) hx3)) ?_
  obtain rfl:=Option.some.inj hN
  exact rfl
def jhU (a:(List (Dat×Str))):RF:= .ok ((eL (e2 eD eS)) a) []
def jcg (p_thing:Dat):Option ((List (Dat×Str))):=
  (JM [eD p_thing]).bind fun x1=>(Jw [eD p_thing]).bind fun x2=>(some ([(Dat.exn "InvalidPiece" x1,("due" :Str)),(Dat.exn "InvalidLength" x2,("due" :Str))])).bind fun v3=>(JK [eD p_thing]).bind fun x4=>(JB [eD p_thing]).bind fun x5=>(Wa v3 ([(Dat.exn "InvalidCount" x4,("due" :Str)),(Dat.exn "InvalidRecord" x5,("due" :Str))])).bind fun x6=>(JH [eD p_thing]).bind fun x7=>(JC [eD p_thing]).bind fun x8=>(Wa x6 ([(Dat.exn "InvalidVisit" x7,("due" :Str)),(Dat.exn "InvalidVisits" x8,("due" :Str))])).bind fun x9=>(Jx [eD p_thing]).bind fun x10=>(JA [eD p_thing]).bind fun x11=>(Wa x9 ([(Dat.exn "InvalidSupply" x10,("due" :Str)),(Dat.exn "InvalidWindow" x11,("due" :Str))])).bind fun x12=>(Jr [eD p_thing]).bind fun x13=>(JU [eD p_thing]).bind fun x14=>(Wa x12 ([(Dat.exn "InvalidStation" x13,("due" :Str)),(Dat.exn "InvalidName" x14,("due" :Str))])).bind fun x15=>(JQ [eD p_thing]).bind fun x16=>(JL [eD p_thing]).bind fun x17=>(Wa x15 ([(Dat.exn "InvalidPath" x16,("due" :Str)),(Dat.exn "InvalidSplit" x17,("due" :Str))])).bind fun x18=>(JT [eD p_thing]).bind fun x19=>(JR [eD p_thing]).bind fun x20=>(Wa x18 ([(Dat.exn "InvalidTime" x19,("due" :Str)),(Dat.exn "InvalidTick" x20,("due" :Str))])).bind fun x21=>(JJ [eD p_thing]).bind fun x22=>(JD [eD p_thing]).bind fun x23=>(Wa x21 ([(Dat.exn "InvalidFault" x22,("due" :Str)),(Dat.exn "InvalidFaults" x23,("due" :Str))])).bind fun x24=>(JP [eD p_thing]).bind fun x25=>(Jq [eD p_thing]).bind fun x26=>(Wa x24 ([(Dat.exn "InvalidText" x25,("due" :Str)),(Dat.exn "InvalidCommand" x26,("due" :Str))])).bind fun x27=>(Jp [eD p_thing]).bind fun x28=>(Jy [eD p_thing]).bind fun x29=>(Wa x27 ([(Dat.exn "UnknownStation" x28,("lookup" :Str)),(Dat.exn "UnknownStream" x29,("lookup" :Str))])).bind fun x30=>(JS [eD p_thing]).bind fun x31=>(vh [eD p_thing]).bind fun x32=>(Wa x30 ([(Dat.exn "UnknownUnit" x31,("lookup" :Str)),(Dat.exn "NameTaken" x32,("run" :Str))])).bind fun x33=>(vK [eD p_thing]).bind fun x34=>(vL [eD p_thing]).bind fun x35=>(vr [eD p_thing]).bind fun x36=>(Wa x33 ([(Dat.exn "TooSlow" x34,("run" :Str)),(Dat.exn "Refused" x35,("run" :Str)),(Dat.exn "NoSplits" x36,("run" :Str))])).bind fun x37=>(vT [eD p_thing]).bind fun x38=>(vJ [eD p_thing]).bind fun x39=>(Wa x37 ([(Dat.exn "Exposed" x38,("run" :Str)),(Dat.exn "NotLate" x39,("run" :Str))])).bind fun x40=>(vU [eD p_thing]).bind fun x41=>(vM [eD p_thing]).bind fun x42=>(Wa x40 ([(Dat.exn "TooLong" x41,("sum" :Str)),(Dat.exn "TooMany" x42,("sum" :Str))])).bind fun x43=>some x43
theorem jjx {p_thing:Dat} {a:(List (Dat×Str))} (hN:jcg p_thing=some a):jfA [.dat (eD p_thing)]=jhU a:=by
  unfold jcg at hN
  refine jd6 (k:=0) (S:=[.dat (eD p_thing),.no]) rfl rfl rfl ?_
  unfold jg3
  refine VD ?_
  refine jm ?_
  obtain ⟨x1,hx1,hN⟩:=bind_some hN
  obtain ⟨x2,hx2,hN⟩:=bind_some hN
  obtain ⟨v3,hv3,hN⟩:=bind_some hN
  refine ye (S2:=[.dat (eD p_thing),.dat ((eL (e2 eD eS)) v3)]) (zP (zP (vj (jc (vF (jc (Jj (ds:=[eD p_thing]) jg (js (jf rfl) jg) ⟨rfl,rfl⟩ rfl hx1) (jc x_C jp)) (Nat.le_of_ble_eq_true rfl)) (jc (vF (jc (Jj (ds:=[eD p_thing]) jg (js (jf rfl) jg) ⟨rfl,rfl⟩ rfl hx2) (jc x_C jp)) (Nat.le_of_ble_eq_true rfl)) jp)) (Nat.le_of_ble_eq_true rfl)) (by rfl)) (congrArg (eL (e2 eD eS)) (Option.some.inj hv3))) rfl ?_
  refine jm ?_
  obtain ⟨x4,hx4,hN⟩:=bind_some hN
  obtain ⟨x5,hx5,hN⟩:=bind_some hN
  obtain ⟨x6,hx6,hN⟩:=bind_some hN
  refine ye (S2:=[.dat (eD p_thing),.dat ((eL (e2 eD eS)) x6)]) (x_2 (jf rfl) (zP (vj (jc (vF (jc (Jj (ds:=[eD p_thing]) jg (js (jf rfl) jg) ⟨rfl,rfl⟩ rfl hx4) (jc x_C jp)) (Nat.le_of_ble_eq_true rfl)) (jc (vF (jc (Jj (ds:=[eD p_thing]) jg (js (jf rfl) jg) ⟨rfl,rfl⟩ rfl hx5) (jc x_C jp)) (Nat.le_of_ble_eq_true rfl)) jp)) (Nat.le_of_ble_eq_true rfl)) (by rfl)) (zw (f:=(e2 eD eS)) hx6)) rfl ?_
  refine jm ?_
  obtain ⟨x7,hx7,hN⟩:=bind_some hN
  obtain ⟨x8,hx8,hN⟩:=bind_some hN
  obtain ⟨x9,hx9,hN⟩:=bind_some hN
  refine ye (S2:=[.dat (eD p_thing),.dat ((eL (e2 eD eS)) x9)]) (x_2 (jf rfl) (zP (vj (jc (vF (jc (Jj (ds:=[eD p_thing]) jg (js (jf rfl) jg) ⟨rfl,rfl⟩ rfl hx7) (jc x_C jp)) (Nat.le_of_ble_eq_true rfl)) (jc (vF (jc (Jj (ds:=[eD p_thing]) jg (js (jf rfl) jg) ⟨rfl,rfl⟩ rfl hx8) (jc x_C jp)) (Nat.le_of_ble_eq_true rfl)) jp)) (Nat.le_of_ble_eq_true rfl)) (by rfl)) (zw (f:=(e2 eD eS)) hx9)) rfl ?_
  refine jm ?_
  obtain ⟨x10,hx10,hN⟩:=bind_some hN
  obtain ⟨x11,hx11,hN⟩:=bind_some hN
  obtain ⟨x12,hx12,hN⟩:=bind_some hN
  refine ye (S2:=[.dat (eD p_thing),.dat ((eL (e2 eD eS)) x12)]) (x_2 (jf rfl) (zP (vj (jc (vF (jc (Jj (ds:=[eD p_thing]) jg (js (jf rfl) jg) ⟨rfl,rfl⟩ rfl hx10) (jc x_C jp)) (Nat.le_of_ble_eq_true rfl)) (jc (vF (jc (Jj (ds:=[eD p_thing]) jg (js (jf rfl) jg) ⟨rfl,rfl⟩ rfl hx11) (jc x_C jp)) (Nat.le_of_ble_eq_true rfl)) jp)) (Nat.le_of_ble_eq_true rfl)) (by rfl)) (zw (f:=(e2 eD eS)) hx12)) rfl ?_
  refine jm ?_
  obtain ⟨x13,hx13,hN⟩:=bind_some hN
  obtain ⟨x14,hx14,hN⟩:=bind_some hN
  obtain ⟨x15,hx15,hN⟩:=bind_some hN
  refine ye (S2:=[.dat (eD p_thing),.dat ((eL (e2 eD eS)) x15)]) (x_2 (jf rfl) (zP (vj (jc (vF (jc (Jj (ds:=[eD p_thing]) jg (js (jf rfl) jg) ⟨rfl,rfl⟩ rfl hx13) (jc x_C jp)) (Nat.le_of_ble_eq_true rfl)) (jc (vF (jc (Jj (ds:=[eD p_thing]) jg (js (jf rfl) jg) ⟨rfl,rfl⟩ rfl hx14) (jc x_C jp)) (Nat.le_of_ble_eq_true rfl)) jp)) (Nat.le_of_ble_eq_true rfl)) (by rfl)) (zw (f:=(e2 eD eS)) hx15)) rfl ?_
  refine jm ?_
  obtain ⟨x16,hx16,hN⟩:=bind_some hN
  obtain ⟨x17,hx17,hN⟩:=bind_some hN
  obtain ⟨x18,hx18,hN⟩:=bind_some hN
  refine ye (S2:=[.dat (eD p_thing),.dat ((eL (e2 eD eS)) x18)]) (x_2 (jf rfl) (zP (vj (jc (vF (jc (Jj (ds:=[eD p_thing]) jg (js (jf rfl) jg) ⟨rfl,rfl⟩ rfl hx16) (jc x_C jp)) (Nat.le_of_ble_eq_true rfl)) (jc (vF (jc (Jj (ds:=[eD p_thing]) jg (js (jf rfl) jg) ⟨rfl,rfl⟩ rfl hx17) (jc x_C jp)) (Nat.le_of_ble_eq_true rfl)) jp)) (Nat.le_of_ble_eq_true rfl)) (by rfl)) (zw (f:=(e2 eD eS)) hx18)) rfl ?_
  refine jm ?_
  obtain ⟨x19,hx19,hN⟩:=bind_some hN
  obtain ⟨x20,hx20,hN⟩:=bind_some hN
  obtain ⟨x21,hx21,hN⟩:=bind_some hN
  refine ye (S2:=[.dat (eD p_thing),.dat ((eL (e2 eD eS)) x21)]) (x_2 (jf rfl) (zP (vj (jc (vF (jc (Jj (ds:=[eD p_thing]) jg (js (jf rfl) jg) ⟨rfl,rfl⟩ rfl hx19) (jc x_C jp)) (Nat.le_of_ble_eq_true rfl)) (jc (vF (jc (Jj (ds:=[eD p_thing]) jg (js (jf rfl) jg) ⟨rfl,rfl⟩ rfl hx20) (jc x_C jp)) (Nat.le_of_ble_eq_true rfl)) jp)) (Nat.le_of_ble_eq_true rfl)) (by rfl)) (zw (f:=(e2 eD eS)) hx21)) rfl ?_
  refine jm ?_
  obtain ⟨x22,hx22,hN⟩:=bind_some hN
  obtain ⟨x23,hx23,hN⟩:=bind_some hN
  obtain ⟨x24,hx24,hN⟩:=bind_some hN
  refine ye (S2:=[.dat (eD p_thing),.dat ((eL (e2 eD eS)) x24)]) (x_2 (jf rfl) (zP (vj (jc (vF (jc (Jj (ds:=[eD p_thing]) jg (js (jf rfl) jg) ⟨rfl,rfl⟩ rfl hx22) (jc x_C jp)) (Nat.le_of_ble_eq_true rfl)) (jc (vF (jc (Jj (ds:=[eD p_thing]) jg (js (jf rfl) jg) ⟨rfl,rfl⟩ rfl hx23) (jc x_C jp)) (Nat.le_of_ble_eq_true rfl)) jp)) (Nat.le_of_ble_eq_true rfl)) (by rfl)) (zw (f:=(e2 eD eS)) hx24)) rfl ?_
  refine jm ?_
  obtain ⟨x25,hx25,hN⟩:=bind_some hN
  obtain ⟨x26,hx26,hN⟩:=bind_some hN
  obtain ⟨x27,hx27,hN⟩:=bind_some hN
  refine ye (S2:=[.dat (eD p_thing),.dat ((eL (e2 eD eS)) x27)]) (x_2 (jf rfl) (zP (vj (jc (vF (jc (Jj (ds:=[eD p_thing]) jg (js (jf rfl) jg) ⟨rfl,rfl⟩ rfl hx25) (jc x_C jp)) (Nat.le_of_ble_eq_true rfl)) (jc (vF (jc (Jj (ds:=[eD p_thing]) jg (js (jf rfl) jg) ⟨rfl,rfl⟩ rfl hx26) (jc x_C jp)) (Nat.le_of_ble_eq_true rfl)) jp)) (Nat.le_of_ble_eq_true rfl)) (by rfl)) (zw (f:=(e2 eD eS)) hx27)) rfl ?_
  refine jm ?_
  obtain ⟨x28,hx28,hN⟩:=bind_some hN
  obtain ⟨x29,hx29,hN⟩:=bind_some hN
  obtain ⟨x30,hx30,hN⟩:=bind_some hN
  refine ye (S2:=[.dat (eD p_thing),.dat ((eL (e2 eD eS)) x30)]) (x_2 (jf rfl) (zP (vj (jc (vF (jc (Jj (ds:=[eD p_thing]) jg (js (jf rfl) jg) ⟨rfl,rfl⟩ rfl hx28) (jc x_C jp)) (Nat.le_of_ble_eq_true rfl)) (jc (vF (jc (Jj (ds:=[eD p_thing]) jg (js (jf rfl) jg) ⟨rfl,rfl⟩ rfl hx29) (jc x_C jp)) (Nat.le_of_ble_eq_true rfl)) jp)) (Nat.le_of_ble_eq_true rfl)) (by rfl)) (zw (f:=(e2 eD eS)) hx30)) rfl ?_
  refine jm ?_
  obtain ⟨x31,hx31,hN⟩:=bind_some hN
  obtain ⟨x32,hx32,hN⟩:=bind_some hN
  obtain ⟨x33,hx33,hN⟩:=bind_some hN
  refine ye (S2:=[.dat (eD p_thing),.dat ((eL (e2 eD eS)) x33)]) (x_2 (jf rfl) (zP (vj (jc (vF (jc (Jj (ds:=[eD p_thing]) jg (js (jf rfl) jg) ⟨rfl,rfl⟩ rfl hx31) (jc x_C jp)) (Nat.le_of_ble_eq_true rfl)) (jc (vF (jc (Jj (ds:=[eD p_thing]) jg (js (jf rfl) jg) ⟨rfl,rfl⟩ rfl hx32) (jc x_C jp)) (Nat.le_of_ble_eq_true rfl)) jp)) (Nat.le_of_ble_eq_true rfl)) (by rfl)) (zw (f:=(e2 eD eS)) hx33)) rfl ?_
  refine jm ?_
  obtain ⟨x34,hx34,hN⟩:=bind_some hN
  obtain ⟨x35,hx35,hN⟩:=bind_some hN
  obtain ⟨x36,hx36,hN⟩:=bind_some hN
  obtain ⟨x37,hx37,hN⟩:=bind_some hN
  refine ye (S2:=[.dat (eD p_thing),.dat ((eL (e2 eD eS)) x37)]) (x_2 (jf rfl) (zP (vj (jc (vF (jc (Jj (ds:=[eD p_thing]) jg (js (jf rfl) jg) ⟨rfl,rfl⟩ rfl hx34) (jc x_C jp)) (Nat.le_of_ble_eq_true rfl)) (jc (vF (jc (Jj (ds:=[eD p_thing]) jg (js (jf rfl) jg) ⟨rfl,rfl⟩ rfl hx35) (jc x_C jp)) (Nat.le_of_ble_eq_true rfl)) (jc (vF (jc (Jj (ds:=[eD p_thing]) jg (js (jf rfl) jg) ⟨rfl,rfl⟩ rfl hx36) (jc x_C jp)) (Nat.le_of_ble_eq_true rfl)) jp))) (Nat.le_of_ble_eq_true rfl)) (by rfl)) (zw (f:=(e2 eD eS)) hx37)) rfl ?_
  refine jm ?_
  obtain ⟨x38,hx38,hN⟩:=bind_some hN
  obtain ⟨x39,hx39,hN⟩:=bind_some hN
  obtain ⟨x40,hx40,hN⟩:=bind_some hN
  refine ye (S2:=[.dat (eD p_thing),.dat ((eL (e2 eD eS)) x40)]) (x_2 (jf rfl) (zP (vj (jc (vF (jc (Jj (ds:=[eD p_thing]) jg (js (jf rfl) jg) ⟨rfl,rfl⟩ rfl hx38) (jc x_C jp)) (Nat.le_of_ble_eq_true rfl)) (jc (vF (jc (Jj (ds:=[eD p_thing]) jg (js (jf rfl) jg) ⟨rfl,rfl⟩ rfl hx39) (jc x_C jp)) (Nat.le_of_ble_eq_true rfl)) jp)) (Nat.le_of_ble_eq_true rfl)) (by rfl)) (zw (f:=(e2 eD eS)) hx40)) rfl ?_
  obtain ⟨x41,hx41,hN⟩:=bind_some hN
  obtain ⟨x42,hx42,hN⟩:=bind_some hN
  obtain ⟨x43,hx43,hN⟩:=bind_some hN
  refine yK (x_2 (jf rfl) (zP (vj (jc (vF (jc (Jj (ds:=[eD p_thing]) jg (js (jf rfl) jg) ⟨rfl,rfl⟩ rfl hx41) (jc x_C jp)) (Nat.le_of_ble_eq_true rfl)) (jc (vF (jc (Jj (ds:=[eD p_thing]) jg (js (jf rfl) jg) ⟨rfl,rfl⟩ rfl hx42) (jc x_C jp)) (Nat.le_of_ble_eq_true rfl)) jp)) (Nat.le_of_ble_eq_true rfl)) (by rfl)) (zw (f:=(e2 eD eS)) hx43)) ?_
  obtain rfl:=Option.some.inj hN
  exact rfl
def jbW (a:(List Dat)):RF:= .ok ((eL eD) a) []
def vP (p_thing:Dat):Option ((List Dat)):=
  (JM [eD p_thing]).bind fun x1=>(Jw [eD p_thing]).bind fun x2=>(JK [eD p_thing]).bind fun x3=>(JB [eD p_thing]).bind fun x4=>(JH [eD p_thing]).bind fun x5=>(JC [eD p_thing]).bind fun x6=>(Jx [eD p_thing]).bind fun x7=>(JA [eD p_thing]).bind fun x8=>(Jr [eD p_thing]).bind fun x9=>(Wa ([Dat.exn "InvalidPiece" x1,Dat.exn "InvalidLength" x2,Dat.exn "InvalidCount" x3,Dat.exn "InvalidRecord" x4,Dat.exn "InvalidVisit" x5]) ([Dat.exn "InvalidVisits" x6,Dat.exn "InvalidSupply" x7,Dat.exn "InvalidWindow" x8,Dat.exn "InvalidStation" x9])).bind fun x10=>(JU [eD p_thing]).bind fun x11=>(JQ [eD p_thing]).bind fun x12=>(JL [eD p_thing]).bind fun x13=>(JT [eD p_thing]).bind fun x14=>(Wa x10 ([Dat.exn "InvalidName" x11,Dat.exn "InvalidPath" x12,Dat.exn "InvalidSplit" x13,Dat.exn "InvalidTime" x14])).bind fun x15=>(JR [eD p_thing]).bind fun x16=>(JJ [eD p_thing]).bind fun x17=>(JD [eD p_thing]).bind fun x18=>(JP [eD p_thing]).bind fun x19=>(Wa x15 ([Dat.exn "InvalidTick" x16,Dat.exn "InvalidFault" x17,Dat.exn "InvalidFaults" x18,Dat.exn "InvalidText" x19])).bind fun x20=>(Jq [eD p_thing]).bind fun x21=>(jf7 x20 (Dat.exn "InvalidCommand" x21)).bind fun v22=>(Jp [eD p_thing]).bind fun x23=>(Jy [eD p_thing]).bind fun x24=>(JS [eD p_thing]).bind fun x25=>(vh [eD p_thing]).bind fun x26=>(vK [eD p_thing]).bind fun x27=>(Wa v22 ([Dat.exn "UnknownStation" x23,Dat.exn "UnknownStream" x24,Dat.exn "UnknownUnit" x25,Dat.exn "NameTaken" x26,Dat.exn "TooSlow" x27])).bind fun x28=>(vL [eD p_thing]).bind fun x29=>(vr [eD p_thing]).bind fun x30=>(vT [eD p_thing]).bind fun x31=>(vJ [eD p_thing]).bind fun x32=>(vU [eD p_thing]).bind fun x33=>(Wa x28 ([Dat.exn "Refused" x29,Dat.exn "NoSplits" x30,Dat.exn "Exposed" x31,Dat.exn "NotLate" x32,Dat.exn "TooLong" x33])).bind fun x34=>(vM [eD p_thing]).bind fun x35=>(Wa x34 ([Dat.exn "TooMany" x35])).bind fun x36=>some x36
theorem VT {p_thing:Dat} {a:(List Dat)} (hN:vP p_thing=some a):zf [.dat (eD p_thing)]=jbW a:=by
  unfold vP at hN
  refine jd6 (k:=0) (S:=[.dat (eD p_thing),.no]) rfl rfl rfl ?_
  unfold Vw
  refine VD ?_
  refine jm ?_
  obtain ⟨x1,hx1,hN⟩:=bind_some hN
  obtain ⟨x2,hx2,hN⟩:=bind_some hN
  obtain ⟨x3,hx3,hN⟩:=bind_some hN
  obtain ⟨x4,hx4,hN⟩:=bind_some hN
  obtain ⟨x5,hx5,hN⟩:=bind_some hN
  refine jd4 (S2:=[.dat (eD p_thing),.loc (([Dat.exn "InvalidPiece" x1,Dat.exn "InvalidLength" x2,Dat.exn "InvalidCount" x3,Dat.exn "InvalidRecord" x4,Dat.exn "InvalidVisit" x5]).map eD)]) (jk7 (jc (Jj (ds:=[eD p_thing]) (js (jf rfl) jg) jg ⟨rfl,rfl⟩ rfl hx1) (jc (Jj (ds:=[eD p_thing]) (js (jf rfl) jg) jg ⟨rfl,rfl⟩ rfl hx2) (jc (Jj (ds:=[eD p_thing]) (js (jf rfl) jg) jg ⟨rfl,rfl⟩ rfl hx3) (jc (Jj (ds:=[eD p_thing]) (js (jf rfl) jg) jg ⟨rfl,rfl⟩ rfl hx4) (jc (Jj (ds:=[eD p_thing]) (js (jf rfl) jg) jg ⟨rfl,rfl⟩ rfl hx5) jp))))) (Nat.le_of_ble_eq_true rfl)) rfl ?_
  refine jm ?_
  obtain ⟨x6,hx6,hN⟩:=bind_some hN
  obtain ⟨x7,hx7,hN⟩:=bind_some hN
  obtain ⟨x8,hx8,hN⟩:=bind_some hN
  obtain ⟨x9,hx9,hN⟩:=bind_some hN
  obtain ⟨x10,hx10,hN⟩:=bind_some hN
  refine jd4 (S2:=[.dat (eD p_thing),.loc (x10.map eD)]) (ji7 (f:=eD) rfl (zP (vj (jc (Jj (ds:=[eD p_thing]) (js (jf rfl) jg) jg ⟨rfl,rfl⟩ rfl hx6) (jc (Jj (ds:=[eD p_thing]) (js (jf rfl) jg) jg ⟨rfl,rfl⟩ rfl hx7) (jc (Jj (ds:=[eD p_thing]) (js (jf rfl) jg) jg ⟨rfl,rfl⟩ rfl hx8) (jc (Jj (ds:=[eD p_thing]) (js (jf rfl) jg) jg ⟨rfl,rfl⟩ rfl hx9) jp)))) (Nat.le_of_ble_eq_true rfl)) (by rfl)) rfl hx10) rfl ?_
  refine jm ?_
  obtain ⟨x11,hx11,hN⟩:=bind_some hN
  obtain ⟨x12,hx12,hN⟩:=bind_some hN
  obtain ⟨x13,hx13,hN⟩:=bind_some hN
  obtain ⟨x14,hx14,hN⟩:=bind_some hN
  obtain ⟨x15,hx15,hN⟩:=bind_some hN
  refine jd4 (S2:=[.dat (eD p_thing),.loc (x15.map eD)]) (ji7 (f:=eD) rfl (zP (vj (jc (Jj (ds:=[eD p_thing]) (js (jf rfl) jg) jg ⟨rfl,rfl⟩ rfl hx11) (jc (Jj (ds:=[eD p_thing]) (js (jf rfl) jg) jg ⟨rfl,rfl⟩ rfl hx12) (jc (Jj (ds:=[eD p_thing]) (js (jf rfl) jg) jg ⟨rfl,rfl⟩ rfl hx13) (jc (Jj (ds:=[eD p_thing]) (js (jf rfl) jg) jg ⟨rfl,rfl⟩ rfl hx14) jp)))) (Nat.le_of_ble_eq_true rfl)) (by rfl)) rfl hx15) rfl ?_
  refine jm ?_
  obtain ⟨x16,hx16,hN⟩:=bind_some hN
  obtain ⟨x17,hx17,hN⟩:=bind_some hN
  obtain ⟨x18,hx18,hN⟩:=bind_some hN
  obtain ⟨x19,hx19,hN⟩:=bind_some hN
  obtain ⟨x20,hx20,hN⟩:=bind_some hN
  refine jd4 (S2:=[.dat (eD p_thing),.loc (x20.map eD)]) (ji7 (f:=eD) rfl (zP (vj (jc (Jj (ds:=[eD p_thing]) (js (jf rfl) jg) jg ⟨rfl,rfl⟩ rfl hx16) (jc (Jj (ds:=[eD p_thing]) (js (jf rfl) jg) jg ⟨rfl,rfl⟩ rfl hx17) (jc (Jj (ds:=[eD p_thing]) (js (jf rfl) jg) jg ⟨rfl,rfl⟩ rfl hx18) (jc (Jj (ds:=[eD p_thing]) (js (jf rfl) jg) jg ⟨rfl,rfl⟩ rfl hx19) jp)))) (Nat.le_of_ble_eq_true rfl)) (by rfl)) rfl hx20) rfl ?_
  refine jm ?_
  obtain ⟨x21,hx21,hN⟩:=bind_some hN
  obtain ⟨v22,hv22,hN⟩:=bind_some hN
  refine zU (S2:=[.dat (eD p_thing),.loc (v22.map eD)]) rfl (Jj (ds:=[eD p_thing]) (js (jf rfl) jg) jg ⟨rfl,rfl⟩ rfl hx21) rfl (jds (f:=eD) hv22) rfl ?_
  refine jm ?_
  obtain ⟨x23,hx23,hN⟩:=bind_some hN
  obtain ⟨x24,hx24,hN⟩:=bind_some hN
  obtain ⟨x25,hx25,hN⟩:=bind_some hN
  obtain ⟨x26,hx26,hN⟩:=bind_some hN
  obtain ⟨x27,hx27,hN⟩:=bind_some hN
  obtain ⟨x28,hx28,hN⟩:=bind_some hN
  refine jd4 (S2:=[.dat (eD p_thing),.loc (x28.map eD)]) (ji7 (f:=eD) rfl (zP (vj (jc (Jj (ds:=[eD p_thing]) (js (jf rfl) jg) jg ⟨rfl,rfl⟩ rfl hx23) (jc (Jj (ds:=[eD p_thing]) (js (jf rfl) jg) jg ⟨rfl,rfl⟩ rfl hx24) (jc (Jj (ds:=[eD p_thing]) (js (jf rfl) jg) jg ⟨rfl,rfl⟩ rfl hx25) (jc (Jj (ds:=[eD p_thing]) (js (jf rfl) jg) jg ⟨rfl,rfl⟩ rfl hx26) (jc (Jj (ds:=[eD p_thing]) (js (jf rfl) jg) jg ⟨rfl,rfl⟩ rfl hx27) jp))))) (Nat.le_of_ble_eq_true rfl)) (by rfl)) rfl hx28) rfl ?_
  refine jm ?_
  obtain ⟨x29,hx29,hN⟩:=bind_some hN
  obtain ⟨x30,hx30,hN⟩:=bind_some hN
  obtain ⟨x31,hx31,hN⟩:=bind_some hN
  obtain ⟨x32,hx32,hN⟩:=bind_some hN
  obtain ⟨x33,hx33,hN⟩:=bind_some hN
  obtain ⟨x34,hx34,hN⟩:=bind_some hN
  refine jd4 (S2:=[.dat (eD p_thing),.loc (x34.map eD)]) (ji7 (f:=eD) rfl (zP (vj (jc (Jj (ds:=[eD p_thing]) (js (jf rfl) jg) jg ⟨rfl,rfl⟩ rfl hx29) (jc (Jj (ds:=[eD p_thing]) (js (jf rfl) jg) jg ⟨rfl,rfl⟩ rfl hx30) (jc (Jj (ds:=[eD p_thing]) (js (jf rfl) jg) jg ⟨rfl,rfl⟩ rfl hx31) (jc (Jj (ds:=[eD p_thing]) (js (jf rfl) jg) jg ⟨rfl,rfl⟩ rfl hx32) (jc (Jj (ds:=[eD p_thing]) (js (jf rfl) jg) jg ⟨rfl,rfl⟩ rfl hx33) jp))))) (Nat.le_of_ble_eq_true rfl)) (by rfl)) rfl hx34) rfl ?_
  obtain ⟨x35,hx35,hN⟩:=bind_some hN
  obtain ⟨x36,hx36,hN⟩:=bind_some hN
  refine yK (jj9 (f:=eD) rfl (zP (vj (jc (Jj (ds:=[eD p_thing]) (js (jf rfl) jg) jg ⟨rfl,rfl⟩ rfl hx35) jp) (Nat.le_of_ble_eq_true rfl)) (by rfl)) rfl hx36) ?_
  obtain rfl:=Option.some.inj hN
  exact rfl
def jhV (a:Dat):RF:= .ok (eD a) []
def zl (p_e:Dat):Option (Dat):=
  (wL jH ["InvalidPiece","InvalidRecord","InvalidVisits","InvalidSupply","InvalidPath","InvalidSplit"] p_e).bind fun x1=>if x1=true then (zm ["InvalidCurve","InvalidPiece","InvalidRecord","InvalidVisits","InvalidSupply","InvalidNetwork","InvalidPath","InvalidSplit","InvalidFaults","RunFailed"] "position" p_e).bind fun x2=>some x2 else (wL jH ["InvalidFaults"] p_e).bind fun x3=>if x3=true then (zm ["InvalidCurve","InvalidPiece","InvalidRecord","InvalidVisits","InvalidSupply","InvalidNetwork","InvalidPath","InvalidSplit","InvalidFaults","RunFailed"] "position" p_e).bind fun x4=>some x4 else (wL jH ["InvalidVisit","InvalidStation","InvalidFault"] p_e).bind fun x5=>if x5=true then (zm ["InvalidCurve","InvalidVisit","InvalidStation","InvalidNetwork","InvalidFault"] "problem" p_e).bind fun x6=>some x6 else (wL jH ["InvalidText"] p_e).bind fun x7=>if x7=true then (zm ["InvalidText"] "line" p_e).bind fun x8=>some x8 else (wL jH ["NameTaken"] p_e).bind fun x9=>if x9=true then (zm ["NameTaken"] "taken" p_e).bind fun x10=>some x10 else (wL jH ["TooSlow"] p_e).bind fun x11=>if x11=true then (zm ["TooSlow"] "total" p_e).bind fun x12=>some x12 else (wL jH ["Refused"] p_e).bind fun x13=>if x13=true then (zm ["Refused"] "refusal" p_e).bind fun x14=>some x14 else (wL jH ["NoSplits"] p_e).bind fun x15=>if x15=true then (zm ["NoSplits"] "cases" p_e).bind fun x16=>some x16 else (wL jH ["Exposed"] p_e).bind fun x17=>if x17=true then (zm ["Exposed"] "danger" p_e).bind fun x18=>some x18 else (wL jH ["TooLong","TooMany"] p_e).bind fun x19=>(if x19=true then (zm ["TooLong","TooMany"] "limit" p_e).bind fun x20=>some x20 else (zm ["InvalidLength","InvalidCount","InvalidWindow","InvalidName","InvalidTime","InvalidTick","InvalidCommand","UnknownStation","UnknownStream","UnknownUnit","NotLate"] "value" p_e).bind fun x21=>some x21).bind fun x22=>some x22
theorem jdJ {p_e:Dat} {a:Dat} (hN:zl p_e=some a):zj [.dat (eD p_e)]=jhV a:=by
  unfold zl at hN
  refine jd6 (k:=0) (S:=[.dat (eD p_e)]) rfl rfl rfl ?_
  unfold jgQ
  refine VD ?_
  refine jm ?_
  obtain ⟨x1,hx1,hN⟩:=bind_some hN
  rcases vz hN with ⟨c31,hN⟩ | ⟨c31,hN⟩
  · refine jar (jC (x_1 (jf rfl) (ju hx1))) c31 ?_
    obtain ⟨x2,hx2,hN⟩:=bind_some hN
    refine yK (x_1 (jf rfl) hx2) ?_
    obtain rfl:=Option.some.inj hN
    exact rfl
  · refine jaT (jC (x_1 (jf rfl) (ju hx1))) c31 ?_
    refine zr ?_
    refine jm ?_
    obtain ⟨x3,hx3,hN⟩:=bind_some hN
    rcases vz hN with ⟨c30,hN⟩ | ⟨c30,hN⟩
    · refine jar (jC (x_1 (jf rfl) (ju hx3))) c30 ?_
      obtain ⟨x4,hx4,hN⟩:=bind_some hN
      refine yK (x_1 (jf rfl) hx4) ?_
      obtain rfl:=Option.some.inj hN
      exact rfl
    · refine jaT (jC (x_1 (jf rfl) (ju hx3))) c30 ?_
      refine zr ?_
      refine jm ?_
      obtain ⟨x5,hx5,hN⟩:=bind_some hN
      rcases vz hN with ⟨c29,hN⟩ | ⟨c29,hN⟩
      · refine jar (jC (x_1 (jf rfl) (ju hx5))) c29 ?_
        obtain ⟨x6,hx6,hN⟩:=bind_some hN
        refine yK (x_1 (jf rfl) hx6) ?_
        obtain rfl:=Option.some.inj hN
        exact rfl
      · refine jaT (jC (x_1 (jf rfl) (ju hx5))) c29 ?_
        refine zr ?_
        refine jm ?_
        obtain ⟨x7,hx7,hN⟩:=bind_some hN
        rcases vz hN with ⟨c28,hN⟩ | ⟨c28,hN⟩
        · refine jar (jC (x_1 (jf rfl) (ju hx7))) c28 ?_
          obtain ⟨x8,hx8,hN⟩:=bind_some hN
          refine yK (x_1 (jf rfl) hx8) ?_
          obtain rfl:=Option.some.inj hN
          exact rfl
        · refine jaT (jC (x_1 (jf rfl) (ju hx7))) c28 ?_
          refine zr ?_
          refine jm ?_
          obtain ⟨x9,hx9,hN⟩:=bind_some hN
          rcases vz hN with ⟨c27,hN⟩ | ⟨c27,hN⟩
          · refine jar (jC (x_1 (jf rfl) (ju hx9))) c27 ?_
            obtain ⟨x10,hx10,hN⟩:=bind_some hN
            refine yK (x_1 (jf rfl) hx10) ?_
            obtain rfl:=Option.some.inj hN
            exact rfl
          · refine jaT (jC (x_1 (jf rfl) (ju hx9))) c27 ?_
            refine zr ?_
            refine jm ?_
            obtain ⟨x11,hx11,hN⟩:=bind_some hN
            rcases vz hN with ⟨c26,hN⟩ | ⟨c26,hN⟩
            · refine jar (jC (x_1 (jf rfl) (ju hx11))) c26 ?_
              obtain ⟨x12,hx12,hN⟩:=bind_some hN
              refine yK (x_1 (jf rfl) hx12) ?_
              obtain rfl:=Option.some.inj hN
              exact rfl
            · refine jaT (jC (x_1 (jf rfl) (ju hx11))) c26 ?_
              refine zr ?_
              refine jm ?_
              obtain ⟨x13,hx13,hN⟩:=bind_some hN
              rcases vz hN with ⟨c25,hN⟩ | ⟨c25,hN⟩
              · refine jar (jC (x_1 (jf rfl) (ju hx13))) c25 ?_
                obtain ⟨x14,hx14,hN⟩:=bind_some hN
                refine yK (x_1 (jf rfl) hx14) ?_
                obtain rfl:=Option.some.inj hN
                exact rfl
              · refine jaT (jC (x_1 (jf rfl) (ju hx13))) c25 ?_
                refine zr ?_
                refine jm ?_
                obtain ⟨x15,hx15,hN⟩:=bind_some hN
                rcases vz hN with ⟨c24,hN⟩ | ⟨c24,hN⟩
                · refine jar (jC (x_1 (jf rfl) (ju hx15))) c24 ?_
                  obtain ⟨x16,hx16,hN⟩:=bind_some hN
                  refine yK (x_1 (jf rfl) hx16) ?_
                  obtain rfl:=Option.some.inj hN
                  exact rfl
                · refine jaT (jC (x_1 (jf rfl) (ju hx15))) c24 ?_
                  refine zr ?_
                  refine jm ?_
                  obtain ⟨x17,hx17,hN⟩:=bind_some hN
                  rcases vz hN with ⟨c23,hN⟩ | ⟨c23,hN⟩
                  · refine jar (jC (x_1 (jf rfl) (ju hx17))) c23 ?_
                    obtain ⟨x18,hx18,hN⟩:=bind_some hN
                    refine yK (x_1 (jf rfl) hx18) ?_
                    obtain rfl:=Option.some.inj hN
                    exact rfl
                  · refine jaT (jC (x_1 (jf rfl) (ju hx17))) c23 ?_
                    refine zr ?_
                    obtain ⟨x19,hx19,hN⟩:=bind_some hN
                    obtain ⟨x22,hx22,hN⟩:=bind_some hN
                    refine yK (jmR (f:=fun v=>eD v) (st:=fun v=>[.dat (eD p_e)]) (jC (x_1 (jf rfl) (ju hx19))) (fun v hv=>by (obtain ⟨x20,hx20,hv⟩:=bind_some hv; obtain rfl:=Option.some.inj hv; exact (x_1 (jf rfl) hx20))) (fun v hv=>by (obtain ⟨x21,hx21,hv⟩:=bind_some hv; obtain rfl:=Option.some.inj hv; exact (x_1 (jf rfl) hx21))) hx22) ?_
                    obtain rfl:=Option.some.inj hN
                    exact rfl
def jh2 (a:Str):RF:= .ok (eS a) []
def jcl (p_e:Dat):Option (Str):=
  (wL jH ["InvalidCurve","InvalidPiece","InvalidLength","InvalidCount","InvalidRecord","InvalidVisit","InvalidVisits","InvalidSupply","InvalidWindow","InvalidStation","InvalidNetwork","InvalidName","InvalidPath","InvalidSplit","InvalidTime","InvalidTick","InvalidFault","InvalidFaults","InvalidHanded","InvalidBook","InvalidWeights","InvalidText","InvalidCommand"] p_e).bind fun x1=>(wL jH ["InvalidCurve","InvalidPiece","InvalidLength","InvalidCount","InvalidRecord","InvalidVisit","InvalidVisits","InvalidSupply","InvalidWindow","InvalidStation","InvalidNetwork","InvalidName","InvalidPath","InvalidSplit","InvalidTime","InvalidTick","InvalidFault","InvalidFaults","InvalidHanded","InvalidBook","InvalidWeights","InvalidText","InvalidCommand"] p_e).bind fun x2=>(wL jH ["UnknownStation","UnknownStream","UnknownUnit","NoLink"] p_e).bind fun x3=>(some ([x1,x2,x3])).bind fun v4=>(wL jH ["NameTaken","NotGood","TooSlow","Refused","Overfull","NotPlain","HasReserves","NoSplits","Exposed","NotLate","RunFailed"] p_e).bind fun x5=>(wL jH ["TooLong","TooMany"] p_e).bind fun x6=>(Wa v4 ([x5,x6])).bind fun x7=>(wL jH [] p_e).bind fun x8=>(ji5 (((List.zip (jib (("dvlra" :Str))) x7).filter fun y9=>y9.2).map fun y9=>y9.1)).bind fun x10=>(jkP (("" :Str)) x10).bind fun x11=>(jll (("low" :Str)) (if x8=true then 1 else 0)).bind fun x12=>(jkG x11 x12).bind fun x13=>some x13
theorem jjv {p_e:Dat} {a:Str} (hN:jcl p_e=some a):jfu [.dat (eD p_e)]=jh2 a:=by
  unfold jcl at hN
  refine jd6 (k:=0) (S:=[.dat (eD p_e),.no,.no,.no,.no]) rfl rfl rfl ?_
  unfold jg0
  refine VD ?_
  refine jm ?_
  obtain ⟨x1,hx1,hN⟩:=bind_some hN
  obtain ⟨x2,hx2,hN⟩:=bind_some hN
  obtain ⟨x3,hx3,hN⟩:=bind_some hN
  obtain ⟨v4,hv4,hN⟩:=bind_some hN
  refine ye (S2:=[.dat (eD p_e),.dat ((eL eB) v4),.no,.no,.no]) (zP (zP (vj (jc (x_1 (jf rfl) (ju hx1)) (jc (x_1 (jf rfl) (ju hx2)) (jc (x_1 (jf rfl) (ju hx3)) jp))) (Nat.le_of_ble_eq_true rfl)) (by rfl)) (congrArg (eL eB) (Option.some.inj hv4))) rfl ?_
  refine jm ?_
  obtain ⟨x5,hx5,hN⟩:=bind_some hN
  obtain ⟨x6,hx6,hN⟩:=bind_some hN
  obtain ⟨x7,hx7,hN⟩:=bind_some hN
  refine ye (S2:=[.dat (eD p_e),.dat ((eL eB) x7),.no,.no,.no]) (x_2 (jf rfl) (zP (vj (jc (x_1 (jf rfl) (ju hx5)) (jc (x_1 (jf rfl) (ju hx6)) jp)) (Nat.le_of_ble_eq_true rfl)) (by rfl)) (zw (f:=eB) hx7)) rfl ?_
  refine jm ?_
  obtain ⟨x8,hx8,hN⟩:=bind_some hN
  refine ye (S2:=[.dat (eD p_e),.dat ((eL eB) x7),.dat (eB x8),.no,.no]) (x_1 (jf rfl) (ju hx8)) rfl ?_
  obtain ⟨x10,hx10,hN⟩:=bind_some hN
  obtain ⟨x11,hx11,hN⟩:=bind_some hN
  obtain ⟨x12,hx12,hN⟩:=bind_some hN
  obtain ⟨x13,hx13,hN⟩:=bind_some hN
  refine yK (x_2 (jok x_C (jm3 (jfY (f:=(e2 eS eB)) (fo:=eS) (C:=fun y9=>y9.2) (F:=fun y9=>y9.1) (S0:=[.dat (eD p_e),.dat ((eL eB) x7),.dat (eB x8),.no,.no]) (jh3 (jc x_C (jc (jf rfl) jp)) (jmH (f:=eB) (by decide +kernel))) rfl (fun y9=>⟨[.dat (eD p_e),.dat ((eL eB) x7),.dat (eB x8),.dat (eS y9.1),.dat (eB y9.2)],_,rfl,(jC (jf rfl)),(jf rfl),rfl,rfl⟩) hx10)) (jmD hx11)) (x_2 x_C (v9 (jc (jf rfl) jp) rfl) (jlD hx12)) (jlS hx13)) ?_
  obtain rfl:=Option.some.inj hN
  exact rfl
def jgt (a:Bool):RF:= .ok (eB a) []
def vR (p_e:Dat) (p_word:Str):Option (Bool):=
  (jcl p_e).bind fun x1=>(itP (Dat.dic [(.inr "due",eS (("dv" :Str))),(.inr "lookup",eS (("l" :Str))),(.inr "run",eS (("r" :Str))),(.inr "sum",eS (("a" :Str)))]) (eS p_word)).bind fun x2=>(eqB (eS x1) (eD x2)).bind fun x3=>some x3
theorem V1 {p_e:Dat} {p_word:Str} {a:Bool} (hN:vR p_e p_word=some a):vy [.dat (eD p_e),.dat (eS p_word)]=jgt a:=by
  unfold vR at hN
  refine jd6 (k:=0) (S:=[.dat (eD p_e),.dat (eS p_word)]) rfl rfl rfl ?_
  unfold jfF
  refine VD ?_
  obtain ⟨x1,hx1,hN⟩:=bind_some hN
  obtain ⟨x2,hx2,hN⟩:=bind_some hN
  obtain ⟨x3,hx3,hN⟩:=bind_some hN
  refine yK (x_2 (Jl (fs:=[.dat (eD p_e)]) (is:=[]) (outs:=[]) (S3:=[.dat (eD p_e),.dat (eS p_word)]) (js (jf rfl) jg) jg ⟨rfl,rfl⟩ rfl rfl (jjv hx1) rfl) (x_2 (jj4 (jc x_C (jc x_C (jc x_C (jc x_C jp)))) (by decide) jat) (jf rfl) hx2) (jn4 hx3)) ?_
  obtain rfl:=Option.some.inj hN
  exact rfl
def jfi (a:(List Int)):RF:= .ok ((eL eI) a) []
def Jn (p_e:Dat):Option ((List Int)):=
  (wL jH ["InvalidCurve"] p_e).bind fun x1=>(wL jH ["InvalidPiece"] p_e).bind fun x2=>(wL jH ["InvalidLength"] p_e).bind fun x3=>(some ([x1,x2,x3])).bind fun v4=>(wL jH ["InvalidCount"] p_e).bind fun x5=>(wL jH ["InvalidRecord"] p_e).bind fun x6=>(wL jH ["InvalidVisit"] p_e).bind fun x7=>(Wa v4 ([x5,x6,x7])).bind fun x8=>(wL jH ["InvalidVisits"] p_e).bind fun x9=>(wL jH ["InvalidSupply"] p_e).bind fun x10=>(wL jH ["InvalidWindow"] p_e).bind fun x11=>(Wa x8 ([x9,x10,x11])).bind fun x12=>(wL jH ["InvalidStation"] p_e).bind fun x13=>(wL jH ["InvalidNetwork"] p_e).bind fun x14=>(wL jH ["InvalidName"] p_e).bind fun x15=>(Wa x12 ([x13,x14,x15])).bind fun x16=>(wL jH ["InvalidPath"] p_e).bind fun x17=>(wL jH ["InvalidSplit"] p_e).bind fun x18=>(wL jH ["InvalidTime"] p_e).bind fun x19=>(Wa x16 ([x17,x18,x19])).bind fun x20=>(wL jH ["InvalidTick"] p_e).bind fun x21=>(wL jH ["InvalidFault"] p_e).bind fun x22=>(wL jH ["InvalidFaults"] p_e).bind fun x23=>(Wa x20 ([x21,x22,x23])).bind fun x24=>(wL jH ["InvalidHanded"] p_e).bind fun x25=>(wL jH ["InvalidBook"] p_e).bind fun x26=>(wL jH ["InvalidWeights"] p_e).bind fun x27=>(Wa x24 ([x25,x26,x27])).bind fun x28=>(wL jH ["InvalidText"] p_e).bind fun x29=>(wL jH ["InvalidCommand"] p_e).bind fun x30=>(wL jH ["UnknownStation"] p_e).bind fun x31=>(Wa x28 ([x29,x30,x31])).bind fun x32=>(wL jH ["UnknownStream"] p_e).bind fun x33=>(wL jH ["UnknownUnit"] p_e).bind fun x34=>(wL jH ["NoLink"] p_e).bind fun x35=>(Wa x32 ([x33,x34,x35])).bind fun x36=>(wL jH ["NameTaken"] p_e).bind fun x37=>(wL jH ["NotGood"] p_e).bind fun x38=>(wL jH ["TooSlow"] p_e).bind fun x39=>(wL jH ["Refused"] p_e).bind fun x40=>(Wa x36 ([x37,x38,x39,x40])).bind fun x41=>(wL jH ["Overfull"] p_e).bind fun x42=>(wL jH ["NotPlain"] p_e).bind fun x43=>(wL jH ["HasReserves"] p_e).bind fun x44=>(Wa x41 ([x42,x43,x44])).bind fun x45=>(wL jH ["NoSplits"] p_e).bind fun x46=>(wL jH ["Exposed"] p_e).bind fun x47=>(wL jH ["NotLate"] p_e).bind fun x48=>(wL jH ["RunFailed"] p_e).bind fun x49=>(Wa x45 ([x46,x47,x48,x49])).bind fun x50=>(wL jH ["TooLong"] p_e).bind fun x51=>(wL jH ["TooMany"] p_e).bind fun x52=>(Wa x50 ([x51,x52])).bind fun x53=>(ji5 (((ji8 0 x53).filter fun y54=>y54.2).map fun y54=>y54.1)).bind fun x55=>some x55
theorem vC {p_e:Dat} {a:(List Int)} (hN:Jn p_e=some a):jy [.dat (eD p_e)]=jfi a:=by
  unfold Jn at hN
  refine jd6 (k:=0) (S:=[.dat (eD p_e),.no,.no,.no]) rfl rfl rfl ?_
  unfold jeb
  refine VD ?_
  refine jm ?_
  obtain ⟨x1,hx1,hN⟩:=bind_some hN
  obtain ⟨x2,hx2,hN⟩:=bind_some hN
  obtain ⟨x3,hx3,hN⟩:=bind_some hN
  obtain ⟨v4,hv4,hN⟩:=bind_some hN
  refine ye (S2:=[.dat (eD p_e),.dat ((eL eB) v4),.no,.no]) (zP (zP (vj (jc (x_1 (jf rfl) (ju hx1)) (jc (x_1 (jf rfl) (ju hx2)) (jc (x_1 (jf rfl) (ju hx3)) jp))) (Nat.le_of_ble_eq_true rfl)) (by rfl)) (congrArg (eL eB) (Option.some.inj hv4))) rfl ?_
  refine jm ?_
  obtain ⟨x5,hx5,hN⟩:=bind_some hN
  obtain ⟨x6,hx6,hN⟩:=bind_some hN
  obtain ⟨x7,hx7,hN⟩:=bind_some hN
  obtain ⟨x8,hx8,hN⟩:=bind_some hN
  refine ye (S2:=[.dat (eD p_e),.dat ((eL eB) x8),.no,.no]) (x_2 (jf rfl) (zP (vj (jc (x_1 (jf rfl) (ju hx5)) (jc (x_1 (jf rfl) (ju hx6)) (jc (x_1 (jf rfl) (ju hx7)) jp))) (Nat.le_of_ble_eq_true rfl)) (by rfl)) (zw (f:=eB) hx8)) rfl ?_
  refine jm ?_
  obtain ⟨x9,hx9,hN⟩:=bind_some hN
  obtain ⟨x10,hx10,hN⟩:=bind_some hN
  obtain ⟨x11,hx11,hN⟩:=bind_some hN
  obtain ⟨x12,hx12,hN⟩:=bind_some hN
  refine ye (S2:=[.dat (eD p_e),.dat ((eL eB) x12),.no,.no]) (x_2 (jf rfl) (zP (vj (jc (x_1 (jf rfl) (ju hx9)) (jc (x_1 (jf rfl) (ju hx10)) (jc (x_1 (jf rfl) (ju hx11)) jp))) (Nat.le_of_ble_eq_true rfl)) (by rfl)) (zw (f:=eB) hx12)) rfl ?_
  refine jm ?_
  obtain ⟨x13,hx13,hN⟩:=bind_some hN
  obtain ⟨x14,hx14,hN⟩:=bind_some hN
  obtain ⟨x15,hx15,hN⟩:=bind_some hN
  obtain ⟨x16,hx16,hN⟩:=bind_some hN
  refine ye (S2:=[.dat (eD p_e),.dat ((eL eB) x16),.no,.no]) (x_2 (jf rfl) (zP (vj (jc (x_1 (jf rfl) (ju hx13)) (jc (x_1 (jf rfl) (ju hx14)) (jc (x_1 (jf rfl) (ju hx15)) jp))) (Nat.le_of_ble_eq_true rfl)) (by rfl)) (zw (f:=eB) hx16)) rfl ?_
  refine jm ?_
  obtain ⟨x17,hx17,hN⟩:=bind_some hN
  obtain ⟨x18,hx18,hN⟩:=bind_some hN
  obtain ⟨x19,hx19,hN⟩:=bind_some hN
  obtain ⟨x20,hx20,hN⟩:=bind_some hN
  refine ye (S2:=[.dat (eD p_e),.dat ((eL eB) x20),.no,.no]) (x_2 (jf rfl) (zP (vj (jc (x_1 (jf rfl) (ju hx17)) (jc (x_1 (jf rfl) (ju hx18)) (jc (x_1 (jf rfl) (ju hx19)) jp))) (Nat.le_of_ble_eq_true rfl)) (by rfl)) (zw (f:=eB) hx20)) rfl ?_
  refine jm ?_
  obtain ⟨x21,hx21,hN⟩:=bind_some hN
  obtain ⟨x22,hx22,hN⟩:=bind_some hN
  obtain ⟨x23,hx23,hN⟩:=bind_some hN
  obtain ⟨x24,hx24,hN⟩:=bind_some hN
  refine ye (S2:=[.dat (eD p_e),.dat ((eL eB) x24),.no,.no]) (x_2 (jf rfl) (zP (vj (jc (x_1 (jf rfl) (ju hx21)) (jc (x_1 (jf rfl) (ju hx22)) (jc (x_1 (jf rfl) (ju hx23)) jp))) (Nat.le_of_ble_eq_true rfl)) (by rfl)) (zw (f:=eB) hx24)) rfl ?_
  refine jm ?_
  obtain ⟨x25,hx25,hN⟩:=bind_some hN
  obtain ⟨x26,hx26,hN⟩:=bind_some hN
  obtain ⟨x27,hx27,hN⟩:=bind_some hN
  obtain ⟨x28,hx28,hN⟩:=bind_some hN
  refine ye (S2:=[.dat (eD p_e),.dat ((eL eB) x28),.no,.no]) (x_2 (jf rfl) (zP (vj (jc (x_1 (jf rfl) (ju hx25)) (jc (x_1 (jf rfl) (ju hx26)) (jc (x_1 (jf rfl) (ju hx27)) jp))) (Nat.le_of_ble_eq_true rfl)) (by rfl)) (zw (f:=eB) hx28)) rfl ?_
  refine jm ?_
  obtain ⟨x29,hx29,hN⟩:=bind_some hN
  obtain ⟨x30,hx30,hN⟩:=bind_some hN
  obtain ⟨x31,hx31,hN⟩:=bind_some hN
  obtain ⟨x32,hx32,hN⟩:=bind_some hN
  refine ye (S2:=[.dat (eD p_e),.dat ((eL eB) x32),.no,.no]) (x_2 (jf rfl) (zP (vj (jc (x_1 (jf rfl) (ju hx29)) (jc (x_1 (jf rfl) (ju hx30)) (jc (x_1 (jf rfl) (ju hx31)) jp))) (Nat.le_of_ble_eq_true rfl)) (by rfl)) (zw (f:=eB) hx32)) rfl ?_
  refine jm ?_
  obtain ⟨x33,hx33,hN⟩:=bind_some hN
  obtain ⟨x34,hx34,hN⟩:=bind_some hN
  obtain ⟨x35,hx35,hN⟩:=bind_some hN
  obtain ⟨x36,hx36,hN⟩:=bind_some hN
  refine ye (S2:=[.dat (eD p_e),.dat ((eL eB) x36),.no,.no]) (x_2 (jf rfl) (zP (vj (jc (x_1 (jf rfl) (ju hx33)) (jc (x_1 (jf rfl) (ju hx34)) (jc (x_1 (jf rfl) (ju hx35)) jp))) (Nat.le_of_ble_eq_true rfl)) (by rfl)) (zw (f:=eB) hx36)) rfl ?_
  refine jm ?_
  obtain ⟨x37,hx37,hN⟩:=bind_some hN
  obtain ⟨x38,hx38,hN⟩:=bind_some hN
  obtain ⟨x39,hx39,hN⟩:=bind_some hN
  obtain ⟨x40,hx40,hN⟩:=bind_some hN
  obtain ⟨x41,hx41,hN⟩:=bind_some hN
  refine ye (S2:=[.dat (eD p_e),.dat ((eL eB) x41),.no,.no]) (x_2 (jf rfl) (zP (vj (jc (x_1 (jf rfl) (ju hx37)) (jc (x_1 (jf rfl) (ju hx38)) (jc (x_1 (jf rfl) (ju hx39)) (jc (x_1 (jf rfl) (ju hx40)) jp)))) (Nat.le_of_ble_eq_true rfl)) (by rfl)) (zw (f:=eB) hx41)) rfl ?_
  refine jm ?_
  obtain ⟨x42,hx42,hN⟩:=bind_some hN
  obtain ⟨x43,hx43,hN⟩:=bind_some hN
  obtain ⟨x44,hx44,hN⟩:=bind_some hN
  obtain ⟨x45,hx45,hN⟩:=bind_some hN
  refine ye (S2:=[.dat (eD p_e),.dat ((eL eB) x45),.no,.no]) (x_2 (jf rfl) (zP (vj (jc (x_1 (jf rfl) (ju hx42)) (jc (x_1 (jf rfl) (ju hx43)) (jc (x_1 (jf rfl) (ju hx44)) jp))) (Nat.le_of_ble_eq_true rfl)) (by rfl)) (zw (f:=eB) hx45)) rfl ?_
  refine jm ?_
  obtain ⟨x46,hx46,hN⟩:=bind_some hN
  obtain ⟨x47,hx47,hN⟩:=bind_some hN
  obtain ⟨x48,hx48,hN⟩:=bind_some hN
  obtain ⟨x49,hx49,hN⟩:=bind_some hN
  obtain ⟨x50,hx50,hN⟩:=bind_some hN
  refine ye (S2:=[.dat (eD p_e),.dat ((eL eB) x50),.no,.no]) (x_2 (jf rfl) (zP (vj (jc (x_1 (jf rfl) (ju hx46)) (jc (x_1 (jf rfl) (ju hx47)) (jc (x_1 (jf rfl) (ju hx48)) (jc (x_1 (jf rfl) (ju hx49)) jp)))) (Nat.le_of_ble_eq_true rfl)) (by rfl)) (zw (f:=eB) hx50)) rfl ?_
  obtain ⟨x51,hx51,hN⟩:=bind_some hN
  obtain ⟨x52,hx52,hN⟩:=bind_some hN
  obtain ⟨x53,hx53,hN⟩:=bind_some hN
  obtain ⟨x55,hx55,hN⟩:=bind_some hN
  refine yK (jm3 (jfY (f:=(e2 eI eB)) (fo:=eI) (C:=fun y54=>y54.2) (F:=fun y54=>y54.1) (S0:=[.dat (eD p_e),.dat ((eL eB) x50),.no,.no]) (jh3 (jc (x_2 (jf rfl) (zP (vj (jc (x_1 (jf rfl) (ju hx51)) (jc (x_1 (jf rfl) (ju hx52)) jp)) (Nat.le_of_ble_eq_true rfl)) (by rfl)) (zw (f:=eB) hx53)) jp) (jmp (f:=eB))) rfl (fun y54=>⟨[.dat (eD p_e),.dat ((eL eB) x50),.dat (eI y54.1),.dat (eB y54.2)],_,rfl,(jC (jf rfl)),(jf rfl),rfl,rfl⟩) hx55)) ?_
  obtain rfl:=Option.some.inj hN
  exact rfl
def jhY (a:(List (Dat×Dat×Str))):RF:= .ok ((eL (e3 eD eD eS)) a) []
def jbn (p_one:Dat) (p_other:Dat):Option ((List (Dat×Dat×Str))):=
  (JI [eD p_one,eD p_other]).bind fun x1=>(JI [eD p_one,eD p_other]).bind fun x2=>(Js [eD p_one,eD p_other]).bind fun x3=>(Js [eD p_one,eD p_other]).bind fun x4=>(jf7 ([(Dat.exn "InvalidCurve" x1,Dat.exn "InvalidCurve" x2,("due" :Str))]) ((Dat.exn "InvalidNetwork" x3,Dat.exn "InvalidNetwork" x4,("due" :Str)))).bind fun v5=>(wg [eD p_one,eD p_other]).bind fun x6=>(wg [eD p_one,eD p_other]).bind fun x7=>(jf7 v5 ((Dat.exn "NoLink" x6,Dat.exn "NoLink" x7,("lookup" :Str)))).bind fun v8=>(vN [eD p_one,eD p_other]).bind fun x9=>(vN [eD p_one,eD p_other]).bind fun x10=>(jf7 v8 ((Dat.exn "NotGood" x9,Dat.exn "NotGood" x10,("run" :Str)))).bind fun v11=>(vm [eD p_one,eD p_other]).bind fun x12=>(vm [eD p_one,eD p_other]).bind fun x13=>(jf7 v11 ((Dat.exn "RunFailed" x12,Dat.exn "RunFailed" x13,("run" :Str)))).bind fun v14=>(vt [eD p_one,eD p_other]).bind fun x15=>(vt [eD p_one,eD p_other]).bind fun x16=>(jf7 v14 ((Dat.exn "Overfull" x15,Dat.exn "Overfull" x16,("run" :Str)))).bind fun v17=>(jf7 v17 ((Dat.exn "InvalidHanded" [],Dat.exn "InvalidHanded" [],("due" :Str)))).bind fun v18=>(jf7 v18 ((Dat.exn "InvalidBook" [],Dat.exn "InvalidBook" [],("due" :Str)))).bind fun v19=>(jf7 v19 ((Dat.exn "InvalidWeights" [],Dat.exn "InvalidWeights" [],("due" :Str)))).bind fun v20=>(jf7 v20 ((Dat.exn "NotPlain" [],Dat.exn "NotPlain" [],("run" :Str)))).bind fun v21=>(Wa v21 ([(Dat.exn "HasReserves" [],Dat.exn "HasReserves" [],("run" :Str))])).bind fun x22=>some x22
theorem jg9 {p_one:Dat} {p_other:Dat} {a:(List (Dat×Dat×Str))} (hN:jbn p_one p_other=some a):jfg [.dat (eD p_one),.dat (eD p_other)]=jhY a:=by
  unfold jbn at hN
  refine jd6 (k:=0) (S:=[.dat (eD p_one),.dat (eD p_other),.no]) rfl rfl rfl ?_
  unfold jgD
  refine VD ?_
  refine jm ?_
  obtain ⟨x1,hx1,hN⟩:=bind_some hN
  obtain ⟨x2,hx2,hN⟩:=bind_some hN
  refine jd4 (S2:=[.dat (eD p_one),.dat (eD p_other),.loc (([(Dat.exn "InvalidCurve" x1,Dat.exn "InvalidCurve" x2,("due" :Str))]).map (e3 eD eD eS))]) (jk7 (jc (vF (jc (Jj (ds:=[eD p_one,eD p_other]) jg (js (jf rfl) (js (jf rfl) jg)) ⟨rfl,rfl⟩ rfl hx1) (jc (Jj (ds:=[eD p_one,eD p_other]) (js (jf rfl) (js (jf rfl) jg)) jg ⟨rfl,rfl⟩ rfl hx2) (jc x_C jp))) (Nat.le_of_ble_eq_true rfl)) jp) (Nat.le_of_ble_eq_true rfl)) rfl ?_
  refine jm ?_
  obtain ⟨x3,hx3,hN⟩:=bind_some hN
  obtain ⟨x4,hx4,hN⟩:=bind_some hN
  obtain ⟨v5,hv5,hN⟩:=bind_some hN
  refine zU (S2:=[.dat (eD p_one),.dat (eD p_other),.loc (v5.map (e3 eD eD eS))]) rfl (vF (jc (Jj (ds:=[eD p_one,eD p_other]) jg (js (jf rfl) (js (jf rfl) jg)) ⟨rfl,rfl⟩ rfl hx3) (jc (Jj (ds:=[eD p_one,eD p_other]) (js (jf rfl) (js (jf rfl) jg)) jg ⟨rfl,rfl⟩ rfl hx4) (jc x_C jp))) (Nat.le_of_ble_eq_true rfl)) rfl (jds (f:=(e3 eD eD eS)) hv5) rfl ?_
  refine jm ?_
  obtain ⟨x6,hx6,hN⟩:=bind_some hN
  obtain ⟨x7,hx7,hN⟩:=bind_some hN
  obtain ⟨v8,hv8,hN⟩:=bind_some hN
  refine zU (S2:=[.dat (eD p_one),.dat (eD p_other),.loc (v8.map (e3 eD eD eS))]) rfl (vF (jc (Jj (ds:=[eD p_one,eD p_other]) jg (js (jf rfl) (js (jf rfl) jg)) ⟨rfl,rfl⟩ rfl hx6) (jc (Jj (ds:=[eD p_one,eD p_other]) (js (jf rfl) (js (jf rfl) jg)) jg ⟨rfl,rfl⟩ rfl hx7) (jc x_C jp))) (Nat.le_of_ble_eq_true rfl)) rfl (jds (f:=(e3 eD eD eS)) hv8) rfl ?_
  refine jm ?_
  obtain ⟨x9,hx9,hN⟩:=bind_some hN
  obtain ⟨x10,hx10,hN⟩:=bind_some hN
  obtain ⟨v11,hv11,hN⟩:=bind_some hN
  refine zU (S2:=[.dat (eD p_one),.dat (eD p_other),.loc (v11.map (e3 eD eD eS))]) rfl (vF (jc (Jj (ds:=[eD p_one,eD p_other]) jg (js (jf rfl) (js (jf rfl) jg)) ⟨rfl,rfl⟩ rfl hx9) (jc (Jj (ds:=[eD p_one,eD p_other]) (js (jf rfl) (js (jf rfl) jg)) jg ⟨rfl,rfl⟩ rfl hx10) (jc x_C jp))) (Nat.le_of_ble_eq_true rfl)) rfl (jds (f:=(e3 eD eD eS)) hv11) rfl ?_
  refine jm ?_
  obtain ⟨x12,hx12,hN⟩:=bind_some hN
  obtain ⟨x13,hx13,hN⟩:=bind_some hN
  obtain ⟨v14,hv14,hN⟩:=bind_some hN
  refine zU (S2:=[.dat (eD p_one),.dat (eD p_other),.loc (v14.map (e3 eD eD eS))]) rfl (vF (jc (Jj (ds:=[eD p_one,eD p_other]) jg (js (jf rfl) (js (jf rfl) jg)) ⟨rfl,rfl⟩ rfl hx12) (jc (Jj (ds:=[eD p_one,eD p_other]) (js (jf rfl) (js (jf rfl) jg)) jg ⟨rfl,rfl⟩ rfl hx13) (jc x_C jp))) (Nat.le_of_ble_eq_true rfl)) rfl (jds (f:=(e3 eD eD eS)) hv14) rfl ?_
  refine jm ?_
  obtain ⟨x15,hx15,hN⟩:=bind_some hN
  obtain ⟨x16,hx16,hN⟩:=bind_some hN
  obtain ⟨v17,hv17,hN⟩:=bind_some hN
  refine zU (S2:=[.dat (eD p_one),.dat (eD p_other),.loc (v17.map (e3 eD eD eS))]) rfl (vF (jc (Jj (ds:=[eD p_one,eD p_other]) jg (js (jf rfl) (js (jf rfl) jg)) ⟨rfl,rfl⟩ rfl hx15) (jc (Jj (ds:=[eD p_one,eD p_other]) (js (jf rfl) (js (jf rfl) jg)) jg ⟨rfl,rfl⟩ rfl hx16) (jc x_C jp))) (Nat.le_of_ble_eq_true rfl)) rfl (jds (f:=(e3 eD eD eS)) hv17) rfl ?_
  refine jm ?_
  obtain ⟨v18,hv18,hN⟩:=bind_some hN
  refine zU (S2:=[.dat (eD p_one),.dat (eD p_other),.loc (v18.map (e3 eD eD eS))]) rfl (vF (jc (jbL x_C) (jc (jbL x_C) (jc x_C jp))) (Nat.le_of_ble_eq_true rfl)) rfl (jds (f:=(e3 eD eD eS)) hv18) rfl ?_
  refine jm ?_
  obtain ⟨v19,hv19,hN⟩:=bind_some hN
  refine zU (S2:=[.dat (eD p_one),.dat (eD p_other),.loc (v19.map (e3 eD eD eS))]) rfl (vF (jc (jbL x_C) (jc (jbL x_C) (jc x_C jp))) (Nat.le_of_ble_eq_true rfl)) rfl (jds (f:=(e3 eD eD eS)) hv19) rfl ?_
  refine jm ?_
  obtain ⟨v20,hv20,hN⟩:=bind_some hN
  refine zU (S2:=[.dat (eD p_one),.dat (eD p_other),.loc (v20.map (e3 eD eD eS))]) rfl (vF (jc (jbL x_C) (jc (jbL x_C) (jc x_C jp))) (Nat.le_of_ble_eq_true rfl)) rfl (jds (f:=(e3 eD eD eS)) hv20) rfl ?_
  refine jm ?_
  obtain ⟨v21,hv21,hN⟩:=bind_some hN
  refine zU (S2:=[.dat (eD p_one),.dat (eD p_other),.loc (v21.map (e3 eD eD eS))]) rfl (vF (jc (jbL x_C) (jc (jbL x_C) (jc x_C jp))) (Nat.le_of_ble_eq_true rfl)) rfl (jds (f:=(e3 eD eD eS)) hv21) rfl ?_
  obtain ⟨x22,hx22,hN⟩:=bind_some hN
  refine yK (jj9 (f:=(e3 eD eD eS)) rfl (zP (vj (jc (vF (jc (jbL x_C) (jc (jbL x_C) (jc x_C jp))) (Nat.le_of_ble_eq_true rfl)) jp) (Nat.le_of_ble_eq_true rfl)) (by rfl)) rfl hx22) ?_
  obtain rfl:=Option.some.inj hN
  exact rfl
def jgv (a:(List Dat)):RF:= .ok ((eL eD) a) []
def wt (p_e:Dat):Option ((List Dat)):=
  (wL jH ["InvalidCurve","InvalidNetwork"] p_e).bind fun x1=>if x1=true then (zm ["InvalidCurve","InvalidVisit","InvalidStation","InvalidNetwork","InvalidFault"] "problem" p_e).bind fun x2=>(zm ["InvalidCurve","InvalidPiece","InvalidRecord","InvalidVisits","InvalidSupply","InvalidNetwork","InvalidPath","InvalidSplit","InvalidFaults","RunFailed"] "position" p_e).bind fun x3=>some ([x2,x3]) else (wL jH ["NoLink"] p_e).bind fun x4=>if x4=true then (zm ["NoLink"] "source" p_e).bind fun x5=>(zm ["NoLink"] "target" p_e).bind fun x6=>some ([x5,x6]) else (wL jH ["NotGood"] p_e).bind fun x7=>if x7=true then (zm ["NotGood"] "first" p_e).bind fun x8=>(zm ["NotGood"] "second" p_e).bind fun x9=>some ([x8,x9]) else (wL jH ["RunFailed"] p_e).bind fun x10=>if x10=true then (zm ["InvalidCurve","InvalidPiece","InvalidRecord","InvalidVisits","InvalidSupply","InvalidNetwork","InvalidPath","InvalidSplit","InvalidFaults","RunFailed"] "position" p_e).bind fun x11=>(zm ["RunFailed"] "results" p_e).bind fun x12=>some ([x11,x12]) else (wL jH ["Overfull"] p_e).bind fun x13=>(if x13=true then (zm ["Overfull"] "at_station" p_e).bind fun x14=>(zm ["Overfull"] "window" p_e).bind fun x15=>some ([x14,x15]) else some (([]:List Dat))).bind fun x16=>some x16
theorem ja0 {p_e:Dat} {a:(List Dat)} (hN:wt p_e=some a):vw [.dat (eD p_e)]=jgv a:=by
  unfold wt at hN
  refine jd6 (k:=0) (S:=[.dat (eD p_e)]) rfl rfl rfl ?_
  unfold jf9
  refine VD ?_
  refine jm ?_
  obtain ⟨x1,hx1,hN⟩:=bind_some hN
  rcases vz hN with ⟨c20,hN⟩ | ⟨c20,hN⟩
  · refine jar (jC (x_1 (jf rfl) (ju hx1))) c20 ?_
    obtain ⟨x2,hx2,hN⟩:=bind_some hN
    obtain ⟨x3,hx3,hN⟩:=bind_some hN
    refine yK (zP (vj (jc (x_1 (jf rfl) hx2) (jc (x_1 (jf rfl) hx3) jp)) (Nat.le_of_ble_eq_true rfl)) (by rfl)) ?_
    obtain rfl:=Option.some.inj hN
    exact rfl
  · refine jaT (jC (x_1 (jf rfl) (ju hx1))) c20 ?_
    refine zr ?_
    refine jm ?_
    obtain ⟨x4,hx4,hN⟩:=bind_some hN
    rcases vz hN with ⟨c19,hN⟩ | ⟨c19,hN⟩
    · refine jar (jC (x_1 (jf rfl) (ju hx4))) c19 ?_
      obtain ⟨x5,hx5,hN⟩:=bind_some hN
      obtain ⟨x6,hx6,hN⟩:=bind_some hN
      refine yK (zP (vj (jc (x_1 (jf rfl) hx5) (jc (x_1 (jf rfl) hx6) jp)) (Nat.le_of_ble_eq_true rfl)) (by rfl)) ?_
      obtain rfl:=Option.some.inj hN
      exact rfl
    · refine jaT (jC (x_1 (jf rfl) (ju hx4))) c19 ?_
      refine zr ?_
      refine jm ?_
      obtain ⟨x7,hx7,hN⟩:=bind_some hN
      rcases vz hN with ⟨c18,hN⟩ | ⟨c18,hN⟩
      · refine jar (jC (x_1 (jf rfl) (ju hx7))) c18 ?_
        obtain ⟨x8,hx8,hN⟩:=bind_some hN
        obtain ⟨x9,hx9,hN⟩:=bind_some hN
        refine yK (zP (vj (jc (x_1 (jf rfl) hx8) (jc (x_1 (jf rfl) hx9) jp)) (Nat.le_of_ble_eq_true rfl)) (by rfl)) ?_
        obtain rfl:=Option.some.inj hN
        exact rfl
      · refine jaT (jC (x_1 (jf rfl) (ju hx7))) c18 ?_
        refine zr ?_
        refine jm ?_
        obtain ⟨x10,hx10,hN⟩:=bind_some hN
        rcases vz hN with ⟨c17,hN⟩ | ⟨c17,hN⟩
        · refine jar (jC (x_1 (jf rfl) (ju hx10))) c17 ?_
          obtain ⟨x11,hx11,hN⟩:=bind_some hN
          obtain ⟨x12,hx12,hN⟩:=bind_some hN
          refine yK (zP (vj (jc (x_1 (jf rfl) hx11) (jc (x_1 (jf rfl) hx12) jp)) (Nat.le_of_ble_eq_true rfl)) (by rfl)) ?_
          obtain rfl:=Option.some.inj hN
          exact rfl
        · refine jaT (jC (x_1 (jf rfl) (ju hx10))) c17 ?_
          refine zr ?_
          obtain ⟨x13,hx13,hN⟩:=bind_some hN
          obtain ⟨x16,hx16,hN⟩:=bind_some hN
          refine yK (jmR (f:=fun v=>(eL eD) v) (st:=fun v=>[.dat (eD p_e)]) (jC (x_1 (jf rfl) (ju hx13))) (fun v hv=>by (obtain ⟨x14,hx14,hv⟩:=bind_some hv; obtain ⟨x15,hx15,hv⟩:=bind_some hv; obtain rfl:=Option.some.inj hv; exact (zP (vj (jc (x_1 (jf rfl) hx14) (jc (x_1 (jf rfl) hx15) jp)) (Nat.le_of_ble_eq_true rfl)) (by rfl)))) (fun v hv=>by (obtain rfl:=Option.some.inj hv; exact (zP (vj jp (Nat.le_of_ble_eq_true rfl)) (by rfl)))) hx16) ?_
          obtain rfl:=Option.some.inj hN
          exact rfl
def vY (a:Bool×Rg):RF:= .ok (eB a.1) [a.2.own]
def zQ (x1:Dat×Rg) (x2:Dat×Rg) (i5:Dat) (i6:Str) (i7:Dat) (c8:(List (List Int))):Option (Stp (Bool×Rg) ((List (List Int)))):=
  (zl i5).bind fun x9=>(zO (eD x9)).bind fun x10=>(zO (eD x1.1)).bind fun x11=>(if (!decide (x10=x11))=true then some true else (zl i7).bind fun x12=>(zO (eD x12)).bind fun x13=>(zO (eD x2.1)).bind fun x14=>some (!decide (x13=x14))).bind fun x15=>if x15=true then some (.rt ((false,x2.2))) else (vR i5 i6).bind fun x16=>(if (!x16)=true then some true else (Jn i5).bind fun x17=>(Jn i7).bind fun x18=>(eqB ((eL eI) x17) ((eL eI) x18)).bind fun x19=>some (!x19)).bind fun x20=>if x20=true then some (.rt ((false,x2.2))) else (Jn i5).bind fun x21=>(jf7 c8 x21).bind fun v22=>some (.nx v22)
theorem jdk (x1:Dat×Rg) (x2:Dat×Rg) (x3:(List (Dat×Str))) (i5:Dat) (i6:Str) (i7:Dat) (c8:(List (List Int))) {a:Stp (Bool×Rg) ((List (List Int)))} (hN:zQ x1 x2 i5 i6 i7 c8=some a) (j:Nat→vW):∃ S1,(jgi 2 (gCs (jgi 2 (gCs (gNm 6) (gCs (gNm 7) (gNl)))) (gCs (gNm 5) (gNl)))) ((e2 (e2 eD eS) eD) ((i5,i6),i7)) [.own 0 x2.2.own,.dat (eD x1.1),.dat (eD x2.1),.dat ((eL (e2 eD eS)) x3),.loc (c8.map (eL eI)),(j 5),(j 6),(j 7),.no,.no]= .ok () S1∧LB (fun (s:(List (List Int))) (jt:Nat→vW)=>[.own 0 x2.2.own,.dat (eD x1.1),.dat (eD x2.1),.dat ((eL (e2 eD eS)) x3),.loc (s.map (eL eI)),(jt 5),(jt 6),(jt 7),.no,.no]) (RTo 1 (vY)) a ((Jo (V8 (cOr (jE (m2 neD (JF J8 (je (jA zj 1 0 (fun as bs=>[as.getD 0 (.dat .non)]) (jQ (jh 6) (jn)) jn) (jY))) (JF J8 (je (jh 1) (jY))))) (jE (m2 neD (JF J8 (je (jA zj 1 0 (fun as bs=>[as.getD 0 (.dat .non)]) (jQ (jh 5) (jn)) jn) (jY))) (JF J8 (je (jh 2) (jY)))))) (YY (mC (.bl false))) (we))
    (Jo (V8 (cOr (jgb (jE (jA vy 2 0 (fun as bs=>[as.getD 0 (.dat .non),as.getD 1 (.dat .non)]) (jQ (jh 6) (jQ (jh 7) (jn))) jn))) (jE (m2 neD (jA jy 1 0 (fun as bs=>[as.getD 0 (.dat .non)]) (jQ (jh 6) (jn)) jn) (jA jy 1 0 (fun as bs=>[as.getD 0 (.dat .non)]) (jQ (jh 5) (jn)) jn)))) (YY (mC (.bl false))) (we))
    (jdF 4 (jA jy 1 0 (fun as bs=>[as.getD 0 (.dat .non)]) (jQ (jh 6) (jn)) jn)))) S1):=by
  unfold zQ at hN
  refine ⟨[.own 0 x2.2.own,.dat (eD x1.1),.dat (eD x2.1),.dat ((eL (e2 eD eS)) x3),.loc (c8.map (eL eI)),.dat (eD i7),.dat (eD i5),.dat (eS i6),.no,.no],rfl,?_⟩
  refine VD ?_
  refine jm ?_
  obtain ⟨x9,hx9,hN⟩:=bind_some hN
  obtain ⟨x10,hx10,hN⟩:=bind_some hN
  obtain ⟨x11,hx11,hN⟩:=bind_some hN
  obtain ⟨x15,hx15,hN⟩:=bind_some hN
  rcases vz hN with ⟨c24,hN⟩ | ⟨c24,hN⟩
  · refine jar (jes (val:=fun (v:Bool)=>v) (st:=fun (v:Bool)=>[.own 0 x2.2.own,.dat (eD x1.1),.dat (eD x2.1),.dat ((eL (e2 eD eS)) x3),.loc (c8.map (eL eI)),.dat (eD i7),.dat (eD i5),.dat (eS i6),.no,.no]) (v:=x15) (v0:=true) (jC (x_2 (v9 (jc (Jl (fs:=[.dat (eD i5)]) (is:=[]) (outs:=[]) (S3:=[.own 0 x2.2.own,.dat (eD x1.1),.dat (eD x2.1),.dat ((eL (e2 eD eS)) x3),.loc (c8.map (eL eI)),.dat (eD i7),.dat (eD i5),.dat (eS i6),.no,.no]) (js (jf rfl) jg) jg ⟨rfl,rfl⟩ rfl rfl (jdJ hx9) rfl) jp) (wI hx10)) (v9 (jc (jf rfl) jp) (wI hx11)) rfl)) (fun v hv=>by (obtain ⟨x12,hx12,hv⟩:=bind_some hv; obtain ⟨x13,hx13,hv⟩:=bind_some hv; obtain ⟨x14,hx14,hv⟩:=bind_some hv; obtain rfl:=Option.some.inj hv; exact (jC (x_2 (v9 (jc (Jl (fs:=[.dat (eD i7)]) (is:=[]) (outs:=[]) (S3:=[.own 0 x2.2.own,.dat (eD x1.1),.dat (eD x2.1),.dat ((eL (e2 eD eS)) x3),.loc (c8.map (eL eI)),.dat (eD i7),.dat (eD i5),.dat (eS i6),.no,.no]) (js (jf rfl) jg) jg ⟨rfl,rfl⟩ rfl rfl (jdJ hx12) rfl) jp) (wI hx13)) (v9 (jc (jf rfl) jp) (wI hx14)) rfl)))) rfl rfl hx15) c24 ?_
    refine yK x_C ?_
    obtain rfl:=Option.some.inj hN
    exact jg6 rfl
  · refine jaT (jes (val:=fun (v:Bool)=>v) (st:=fun (v:Bool)=>[.own 0 x2.2.own,.dat (eD x1.1),.dat (eD x2.1),.dat ((eL (e2 eD eS)) x3),.loc (c8.map (eL eI)),.dat (eD i7),.dat (eD i5),.dat (eS i6),.no,.no]) (v:=x15) (v0:=true) (jC (x_2 (v9 (jc (Jl (fs:=[.dat (eD i5)]) (is:=[]) (outs:=[]) (S3:=[.own 0 x2.2.own,.dat (eD x1.1),.dat (eD x2.1),.dat ((eL (e2 eD eS)) x3),.loc (c8.map (eL eI)),.dat (eD i7),.dat (eD i5),.dat (eS i6),.no,.no]) (js (jf rfl) jg) jg ⟨rfl,rfl⟩ rfl rfl (jdJ hx9) rfl) jp) (wI hx10)) (v9 (jc (jf rfl) jp) (wI hx11)) rfl)) (fun v hv=>by (obtain ⟨x12,hx12,hv⟩:=bind_some hv; obtain ⟨x13,hx13,hv⟩:=bind_some hv; obtain ⟨x14,hx14,hv⟩:=bind_some hv; obtain rfl:=Option.some.inj hv; exact (jC (x_2 (v9 (jc (Jl (fs:=[.dat (eD i7)]) (is:=[]) (outs:=[]) (S3:=[.own 0 x2.2.own,.dat (eD x1.1),.dat (eD x2.1),.dat ((eL (e2 eD eS)) x3),.loc (c8.map (eL eI)),.dat (eD i7),.dat (eD i5),.dat (eS i6),.no,.no]) (js (jf rfl) jg) jg ⟨rfl,rfl⟩ rfl rfl (jdJ hx12) rfl) jp) (wI hx13)) (v9 (jc (jf rfl) jp) (wI hx14)) rfl)))) rfl rfl hx15) c24 ?_
    refine zr ?_
    refine jm ?_
    obtain ⟨x16,hx16,hN⟩:=bind_some hN
    obtain ⟨x20,hx20,hN⟩:=bind_some hN
    rcases vz hN with ⟨c23,hN⟩ | ⟨c23,hN⟩
    · refine jar (jes (val:=fun (v:Bool)=>v) (st:=fun (v:Bool)=>[.own 0 x2.2.own,.dat (eD x1.1),.dat (eD x2.1),.dat ((eL (e2 eD eS)) x3),.loc (c8.map (eL eI)),.dat (eD i7),.dat (eD i5),.dat (eS i6),.no,.no]) (v:=x20) (v0:=true) (jhB (jC (Jl (fs:=[.dat (eD i5),.dat (eS i6)]) (is:=[]) (outs:=[]) (S3:=[.own 0 x2.2.own,.dat (eD x1.1),.dat (eD x2.1),.dat ((eL (e2 eD eS)) x3),.loc (c8.map (eL eI)),.dat (eD i7),.dat (eD i5),.dat (eS i6),.no,.no]) (js (jf rfl) (js (jf rfl) jg)) jg ⟨rfl,rfl⟩ rfl rfl (V1 hx16) rfl))) (fun v hv=>by (obtain ⟨x17,hx17,hv⟩:=bind_some hv; obtain ⟨x18,hx18,hv⟩:=bind_some hv; obtain ⟨x19,hx19,hv⟩:=bind_some hv; obtain rfl:=Option.some.inj hv; exact (jC (x_2 (Jl (fs:=[.dat (eD i5)]) (is:=[]) (outs:=[]) (S3:=[.own 0 x2.2.own,.dat (eD x1.1),.dat (eD x2.1),.dat ((eL (e2 eD eS)) x3),.loc (c8.map (eL eI)),.dat (eD i7),.dat (eD i5),.dat (eS i6),.no,.no]) (js (jf rfl) jg) jg ⟨rfl,rfl⟩ rfl rfl (vC hx17) rfl) (Jl (fs:=[.dat (eD i7)]) (is:=[]) (outs:=[]) (S3:=[.own 0 x2.2.own,.dat (eD x1.1),.dat (eD x2.1),.dat ((eL (e2 eD eS)) x3),.loc (c8.map (eL eI)),.dat (eD i7),.dat (eD i5),.dat (eS i6),.no,.no]) (js (jf rfl) jg) jg ⟨rfl,rfl⟩ rfl rfl (vC hx18) rfl) (jm1 hx19))))) rfl rfl hx20) c23 ?_
      refine yK x_C ?_
      obtain rfl:=Option.some.inj hN
      exact jg6 rfl
    · refine jaT (jes (val:=fun (v:Bool)=>v) (st:=fun (v:Bool)=>[.own 0 x2.2.own,.dat (eD x1.1),.dat (eD x2.1),.dat ((eL (e2 eD eS)) x3),.loc (c8.map (eL eI)),.dat (eD i7),.dat (eD i5),.dat (eS i6),.no,.no]) (v:=x20) (v0:=true) (jhB (jC (Jl (fs:=[.dat (eD i5),.dat (eS i6)]) (is:=[]) (outs:=[]) (S3:=[.own 0 x2.2.own,.dat (eD x1.1),.dat (eD x2.1),.dat ((eL (e2 eD eS)) x3),.loc (c8.map (eL eI)),.dat (eD i7),.dat (eD i5),.dat (eS i6),.no,.no]) (js (jf rfl) (js (jf rfl) jg)) jg ⟨rfl,rfl⟩ rfl rfl (V1 hx16) rfl))) (fun v hv=>by (obtain ⟨x17,hx17,hv⟩:=bind_some hv; obtain ⟨x18,hx18,hv⟩:=bind_some hv; obtain ⟨x19,hx19,hv⟩:=bind_some hv; obtain rfl:=Option.some.inj hv; exact (jC (x_2 (Jl (fs:=[.dat (eD i5)]) (is:=[]) (outs:=[]) (S3:=[.own 0 x2.2.own,.dat (eD x1.1),.dat (eD x2.1),.dat ((eL (e2 eD eS)) x3),.loc (c8.map (eL eI)),.dat (eD i7),.dat (eD i5),.dat (eS i6),.no,.no]) (js (jf rfl) jg) jg ⟨rfl,rfl⟩ rfl rfl (vC hx17) rfl) (Jl (fs:=[.dat (eD i7)]) (is:=[]) (outs:=[]) (S3:=[.own 0 x2.2.own,.dat (eD x1.1),.dat (eD x2.1),.dat ((eL (e2 eD eS)) x3),.loc (c8.map (eL eI)),.dat (eD i7),.dat (eD i5),.dat (eS i6),.no,.no]) (js (jf rfl) jg) jg ⟨rfl,rfl⟩ rfl rfl (vC hx18) rfl) (jm1 hx19))))) rfl rfl hx20) c23 ?_
      refine zr ?_
      obtain ⟨x21,hx21,hN⟩:=bind_some hN
      obtain ⟨v22,hv22,hN⟩:=bind_some hN
      refine zU (S2:=[.own 0 x2.2.own,.dat (eD x1.1),.dat (eD x2.1),.dat ((eL (e2 eD eS)) x3),.loc (v22.map (eL eI)),.dat (eD i7),.dat (eD i5),.dat (eS i6),.no,.no]) rfl (Jl (fs:=[.dat (eD i5)]) (is:=[]) (outs:=[]) (S3:=[.own 0 x2.2.own,.dat (eD x1.1),.dat (eD x2.1),.dat ((eL (e2 eD eS)) x3),.loc (c8.map (eL eI)),.dat (eD i7),.dat (eD i5),.dat (eS i6),.no,.no]) (js (jf rfl) jg) jg ⟨rfl,rfl⟩ rfl rfl (vC hx21) rfl) rfl (jds (f:=(eL eI)) hv22) rfl ?_
      obtain rfl:=Option.some.inj hN
      exact jmi rfl
def wA (x1:Dat×Rg) (x2:Dat×Rg) (i30:Dat) (i31:Dat) (i32:Str) (c33:(List (List Int))):Option (Stp (Bool×Rg) ((List (List Int)))):=
  (wt i30).bind fun x34=>(some (jiu ([x1.1,x2.1]) none (some ((x34.length:Int))))).bind fun v35=>(wt i30).bind fun x36=>(zO ((eL eD) x36)).bind fun x37=>(zO ((eL eD) v35)).bind fun x38=>(if (!decide (x37=x38))=true then some true else (wt i31).bind fun x39=>(zO ((eL eD) x39)).bind fun x40=>(zO ((eL eD) v35)).bind fun x41=>some (!decide (x40=x41))).bind fun x42=>if x42=true then some (.rt ((false,x2.2))) else (vR i30 i32).bind fun x43=>(if (!x43)=true then some true else (vR i31 i32).bind fun x44=>(if (!x44)=true then some true else (Jn i30).bind fun x45=>(Jn i31).bind fun x46=>(eqB ((eL eI) x45) ((eL eI) x46)).bind fun x47=>some (!x47)).bind fun x48=>some x48).bind fun x49=>if x49=true then some (.rt ((false,x2.2))) else (Jn i30).bind fun x50=>(jf7 c33 x50).bind fun v51=>some (.nx v51)
theorem jdh (x1:Dat×Rg) (x2:Dat×Rg) (x3:(List (Dat×Str))) (i30:Dat) (i31:Dat) (i32:Str) (c33:(List (List Int))) {a:Stp (Bool×Rg) ((List (List Int)))} (hN:wA x1 x2 i30 i31 i32 c33=some a) (j:Nat→vW):∃ S1,(jgi 3 (gCs (gNm 6) (gCs (gNm 5) (gCs (gNm 7) (gNl))))) ((e3 eD eD eS) (i30,i31,i32)) [.own 0 x2.2.own,.dat (eD x1.1),.dat (eD x2.1),.dat ((eL (e2 eD eS)) x3),.loc (c33.map (eL eI)),(j 5),(j 6),(j 7),(j 8),.no]= .ok () S1∧LB (fun (s:(List (List Int))) (jt:Nat→vW)=>[.own 0 x2.2.own,.dat (eD x1.1),.dat (eD x2.1),.dat ((eL (e2 eD eS)) x3),.loc (s.map (eL eI)),(jt 5),(jt 6),(jt 7),(jt 8),.no]) (RTo 1 (vY)) a ((Jo (Vb (mSl (zk (je (jh 1) (je (jh 2) (jY)))) (oN) (oS (JF jhk (je (jA vw 1 0 (fun as bs=>[as.getD 0 (.dat .non)]) (jQ (jh 6) (jn)) jn) (jY))))) (gNm 8))
    (Jo (V8 (cOr (jE (m2 neD (JF J8 (je (jA vw 1 0 (fun as bs=>[as.getD 0 (.dat .non)]) (jQ (jh 6) (jn)) jn) (jY))) (JF J8 (je (jh 8) (jY))))) (jE (m2 neD (JF J8 (je (jA vw 1 0 (fun as bs=>[as.getD 0 (.dat .non)]) (jQ (jh 5) (jn)) jn) (jY))) (JF J8 (je (jh 8) (jY)))))) (YY (mC (.bl false))) (we))
    (Jo (V8 (cOr (jgb (jE (jA vy 2 0 (fun as bs=>[as.getD 0 (.dat .non),as.getD 1 (.dat .non)]) (jQ (jh 6) (jQ (jh 7) (jn))) jn))) (cOr (jgb (jE (jA vy 2 0 (fun as bs=>[as.getD 0 (.dat .non),as.getD 1 (.dat .non)]) (jQ (jh 5) (jQ (jh 7) (jn))) jn))) (jE (m2 neD (jA jy 1 0 (fun as bs=>[as.getD 0 (.dat .non)]) (jQ (jh 6) (jn)) jn) (jA jy 1 0 (fun as bs=>[as.getD 0 (.dat .non)]) (jQ (jh 5) (jn)) jn))))) (YY (mC (.bl false))) (we))
    (jdF 4 (jA jy 1 0 (fun as bs=>[as.getD 0 (.dat .non)]) (jQ (jh 6) (jn)) jn))))) S1):=by
  unfold wA at hN
  refine ⟨[.own 0 x2.2.own,.dat (eD x1.1),.dat (eD x2.1),.dat ((eL (e2 eD eS)) x3),.loc (c33.map (eL eI)),.dat (eD i31),.dat (eD i30),.dat (eS i32),(j 8),.no],rfl,?_⟩
  refine VD ?_
  refine jm ?_
  obtain ⟨x34,hx34,hN⟩:=bind_some hN
  obtain ⟨v35,hv35,hN⟩:=bind_some hN
  refine ye (S2:=[.own 0 x2.2.own,.dat (eD x1.1),.dat (eD x2.1),.dat ((eL (e2 eD eS)) x3),.loc (c33.map (eL eI)),.dat (eD i31),.dat (eD i30),.dat (eS i32),.dat ((eL eD) v35),.no]) (zP (joe (zP (vj (jc (jf rfl) (jc (jf rfl) jp)) (Nat.le_of_ble_eq_true rfl)) (by rfl)) o_n (o_s (v9 (jc (Jl (fs:=[.dat (eD i30)]) (is:=[]) (outs:=[]) (S3:=[.own 0 x2.2.own,.dat (eD x1.1),.dat (eD x2.1),.dat ((eL (e2 eD eS)) x3),.loc (c33.map (eL eI)),.dat (eD i31),.dat (eD i30),.dat (eS i32),(j 8),.no]) (js (jf rfl) jg) jg ⟨rfl,rfl⟩ rfl rfl (ja0 hx34) rfl) jp) (jnH (f:=eD)))) (jkW (f:=eD))) (congrArg (eL eD) (Option.some.inj hv35))) rfl ?_
  refine jm ?_
  obtain ⟨x36,hx36,hN⟩:=bind_some hN
  obtain ⟨x37,hx37,hN⟩:=bind_some hN
  obtain ⟨x38,hx38,hN⟩:=bind_some hN
  obtain ⟨x42,hx42,hN⟩:=bind_some hN
  rcases vz hN with ⟨c53,hN⟩ | ⟨c53,hN⟩
  · refine jar (jes (val:=fun (v:Bool)=>v) (st:=fun (v:Bool)=>[.own 0 x2.2.own,.dat (eD x1.1),.dat (eD x2.1),.dat ((eL (e2 eD eS)) x3),.loc (c33.map (eL eI)),.dat (eD i31),.dat (eD i30),.dat (eS i32),.dat ((eL eD) v35),.no]) (v:=x42) (v0:=true) (jC (x_2 (v9 (jc (Jl (fs:=[.dat (eD i30)]) (is:=[]) (outs:=[]) (S3:=[.own 0 x2.2.own,.dat (eD x1.1),.dat (eD x2.1),.dat ((eL (e2 eD eS)) x3),.loc (c33.map (eL eI)),.dat (eD i31),.dat (eD i30),.dat (eS i32),.dat ((eL eD) v35),.no]) (js (jf rfl) jg) jg ⟨rfl,rfl⟩ rfl rfl (ja0 hx36) rfl) jp) (wI hx37)) (v9 (jc (jf rfl) jp) (wI hx38)) rfl)) (fun v hv=>by (obtain ⟨x39,hx39,hv⟩:=bind_some hv; obtain ⟨x40,hx40,hv⟩:=bind_some hv; obtain ⟨x41,hx41,hv⟩:=bind_some hv; obtain rfl:=Option.some.inj hv; exact (jC (x_2 (v9 (jc (Jl (fs:=[.dat (eD i31)]) (is:=[]) (outs:=[]) (S3:=[.own 0 x2.2.own,.dat (eD x1.1),.dat (eD x2.1),.dat ((eL (e2 eD eS)) x3),.loc (c33.map (eL eI)),.dat (eD i31),.dat (eD i30),.dat (eS i32),.dat ((eL eD) v35),.no]) (js (jf rfl) jg) jg ⟨rfl,rfl⟩ rfl rfl (ja0 hx39) rfl) jp) (wI hx40)) (v9 (jc (jf rfl) jp) (wI hx41)) rfl)))) rfl rfl hx42) c53 ?_
    refine yK x_C ?_
    obtain rfl:=Option.some.inj hN
    exact jg6 rfl
  · refine jaT (jes (val:=fun (v:Bool)=>v) (st:=fun (v:Bool)=>[.own 0 x2.2.own,.dat (eD x1.1),.dat (eD x2.1),.dat ((eL (e2 eD eS)) x3),.loc (c33.map (eL eI)),.dat (eD i31),.dat (eD i30),.dat (eS i32),.dat ((eL eD) v35),.no]) (v:=x42) (v0:=true) (jC (x_2 (v9 (jc (Jl (fs:=[.dat (eD i30)]) (is:=[]) (outs:=[]) (S3:=[.own 0 x2.2.own,.dat (eD x1.1),.dat (eD x2.1),.dat ((eL (e2 eD eS)) x3),.loc (c33.map (eL eI)),.dat (eD i31),.dat (eD i30),.dat (eS i32),.dat ((eL eD) v35),.no]) (js (jf rfl) jg) jg ⟨rfl,rfl⟩ rfl rfl (ja0 hx36) rfl) jp) (wI hx37)) (v9 (jc (jf rfl) jp) (wI hx38)) rfl)) (fun v hv=>by (obtain ⟨x39,hx39,hv⟩:=bind_some hv; obtain ⟨x40,hx40,hv⟩:=bind_some hv; obtain ⟨x41,hx41,hv⟩:=bind_some hv; obtain rfl:=Option.some.inj hv; exact (jC (x_2 (v9 (jc (Jl (fs:=[.dat (eD i31)]) (is:=[]) (outs:=[]) (S3:=[.own 0 x2.2.own,.dat (eD x1.1),.dat (eD x2.1),.dat ((eL (e2 eD eS)) x3),.loc (c33.map (eL eI)),.dat (eD i31),.dat (eD i30),.dat (eS i32),.dat ((eL eD) v35),.no]) (js (jf rfl) jg) jg ⟨rfl,rfl⟩ rfl rfl (ja0 hx39) rfl) jp) (wI hx40)) (v9 (jc (jf rfl) jp) (wI hx41)) rfl)))) rfl rfl hx42) c53 ?_
    refine zr ?_
    refine jm ?_
    obtain ⟨x43,hx43,hN⟩:=bind_some hN
    obtain ⟨x49,hx49,hN⟩:=bind_some hN
    rcases vz hN with ⟨c52,hN⟩ | ⟨c52,hN⟩
    · refine jar (jes (val:=fun (v:Bool)=>v) (st:=fun (v:Bool)=>[.own 0 x2.2.own,.dat (eD x1.1),.dat (eD x2.1),.dat ((eL (e2 eD eS)) x3),.loc (c33.map (eL eI)),.dat (eD i31),.dat (eD i30),.dat (eS i32),.dat ((eL eD) v35),.no]) (v:=x49) (v0:=true) (jhB (jC (Jl (fs:=[.dat (eD i30),.dat (eS i32)]) (is:=[]) (outs:=[]) (S3:=[.own 0 x2.2.own,.dat (eD x1.1),.dat (eD x2.1),.dat ((eL (e2 eD eS)) x3),.loc (c33.map (eL eI)),.dat (eD i31),.dat (eD i30),.dat (eS i32),.dat ((eL eD) v35),.no]) (js (jf rfl) (js (jf rfl) jg)) jg ⟨rfl,rfl⟩ rfl rfl (V1 hx43) rfl))) (fun v hv=>by (obtain ⟨x44,hx44,hv⟩:=bind_some hv; obtain ⟨x48,hx48,hv⟩:=bind_some hv; obtain rfl:=Option.some.inj hv; exact (jes (val:=fun (v:Bool)=>v) (st:=fun (v:Bool)=>[.own 0 x2.2.own,.dat (eD x1.1),.dat (eD x2.1),.dat ((eL (e2 eD eS)) x3),.loc (c33.map (eL eI)),.dat (eD i31),.dat (eD i30),.dat (eS i32),.dat ((eL eD) v35),.no]) (v:=x48) (v0:=true) (jhB (jC (Jl (fs:=[.dat (eD i31),.dat (eS i32)]) (is:=[]) (outs:=[]) (S3:=[.own 0 x2.2.own,.dat (eD x1.1),.dat (eD x2.1),.dat ((eL (e2 eD eS)) x3),.loc (c33.map (eL eI)),.dat (eD i31),.dat (eD i30),.dat (eS i32),.dat ((eL eD) v35),.no]) (js (jf rfl) (js (jf rfl) jg)) jg ⟨rfl,rfl⟩ rfl rfl (V1 hx44) rfl))) (fun v hv=>by (obtain ⟨x45,hx45,hv⟩:=bind_some hv; obtain ⟨x46,hx46,hv⟩:=bind_some hv; obtain ⟨x47,hx47,hv⟩:=bind_some hv; obtain rfl:=Option.some.inj hv; exact (jC (x_2 (Jl (fs:=[.dat (eD i30)]) (is:=[]) (outs:=[]) (S3:=[.own 0 x2.2.own,.dat (eD x1.1),.dat (eD x2.1),.dat ((eL (e2 eD eS)) x3),.loc (c33.map (eL eI)),.dat (eD i31),.dat (eD i30),.dat (eS i32),.dat ((eL eD) v35),.no]) (js (jf rfl) jg) jg ⟨rfl,rfl⟩ rfl rfl (vC hx45) rfl) (Jl (fs:=[.dat (eD i31)]) (is:=[]) (outs:=[]) (S3:=[.own 0 x2.2.own,.dat (eD x1.1),.dat (eD x2.1),.dat ((eL (e2 eD eS)) x3),.loc (c33.map (eL eI)),.dat (eD i31),.dat (eD i30),.dat (eS i32),.dat ((eL eD) v35),.no]) (js (jf rfl) jg) jg ⟨rfl,rfl⟩ rfl rfl (vC hx46) rfl) (jm1 hx47))))) rfl rfl hx48))) rfl rfl hx49) c52 ?_
      refine yK x_C ?_
      obtain rfl:=Option.some.inj hN
      exact jg6 rfl
    · refine jaT (jes (val:=fun (v:Bool)=>v) (st:=fun (v:Bool)=>[.own 0 x2.2.own,.dat (eD x1.1),.dat (eD x2.1),.dat ((eL (e2 eD eS)) x3),.loc (c33.map (eL eI)),.dat (eD i31),.dat (eD i30),.dat (eS i32),.dat ((eL eD) v35),.no]) (v:=x49) (v0:=true) (jhB (jC (Jl (fs:=[.dat (eD i30),.dat (eS i32)]) (is:=[]) (outs:=[]) (S3:=[.own 0 x2.2.own,.dat (eD x1.1),.dat (eD x2.1),.dat ((eL (e2 eD eS)) x3),.loc (c33.map (eL eI)),.dat (eD i31),.dat (eD i30),.dat (eS i32),.dat ((eL eD) v35),.no]) (js (jf rfl) (js (jf rfl) jg)) jg ⟨rfl,rfl⟩ rfl rfl (V1 hx43) rfl))) (fun v hv=>by (obtain ⟨x44,hx44,hv⟩:=bind_some hv; obtain ⟨x48,hx48,hv⟩:=bind_some hv; obtain rfl:=Option.some.inj hv; exact (jes (val:=fun (v:Bool)=>v) (st:=fun (v:Bool)=>[.own 0 x2.2.own,.dat (eD x1.1),.dat (eD x2.1),.dat ((eL (e2 eD eS)) x3),.loc (c33.map (eL eI)),.dat (eD i31),.dat (eD i30),.dat (eS i32),.dat ((eL eD) v35),.no]) (v:=x48) (v0:=true) (jhB (jC (Jl (fs:=[.dat (eD i31),.dat (eS i32)]) (is:=[]) (outs:=[]) (S3:=[.own 0 x2.2.own,.dat (eD x1.1),.dat (eD x2.1),.dat ((eL (e2 eD eS)) x3),.loc (c33.map (eL eI)),.dat (eD i31),.dat (eD i30),.dat (eS i32),.dat ((eL eD) v35),.no]) (js (jf rfl) (js (jf rfl) jg)) jg ⟨rfl,rfl⟩ rfl rfl (V1 hx44) rfl))) (fun v hv=>by (obtain ⟨x45,hx45,hv⟩:=bind_some hv; obtain ⟨x46,hx46,hv⟩:=bind_some hv; obtain ⟨x47,hx47,hv⟩:=bind_some hv; obtain rfl:=Option.some.inj hv; exact (jC (x_2 (Jl (fs:=[.dat (eD i30)]) (is:=[]) (outs:=[]) (S3:=[.own 0 x2.2.own,.dat (eD x1.1),.dat (eD x2.1),.dat ((eL (e2 eD eS)) x3),.loc (c33.map (eL eI)),.dat (eD i31),.dat (eD i30),.dat (eS i32),.dat ((eL eD) v35),.no]) (js (jf rfl) jg) jg ⟨rfl,rfl⟩ rfl rfl (vC hx45) rfl) (Jl (fs:=[.dat (eD i31)]) (is:=[]) (outs:=[]) (S3:=[.own 0 x2.2.own,.dat (eD x1.1),.dat (eD x2.1),.dat ((eL (e2 eD eS)) x3),.loc (c33.map (eL eI)),.dat (eD i31),.dat (eD i30),.dat (eS i32),.dat ((eL eD) v35),.no]) (js (jf rfl) jg) jg ⟨rfl,rfl⟩ rfl rfl (vC hx46) rfl) (jm1 hx47))))) rfl rfl hx48))) rfl rfl hx49) c52 ?_
      refine zr ?_
      obtain ⟨x50,hx50,hN⟩:=bind_some hN
      obtain ⟨v51,hv51,hN⟩:=bind_some hN
      refine zU (S2:=[.own 0 x2.2.own,.dat (eD x1.1),.dat (eD x2.1),.dat ((eL (e2 eD eS)) x3),.loc (v51.map (eL eI)),.dat (eD i31),.dat (eD i30),.dat (eS i32),.dat ((eL eD) v35),.no]) rfl (Jl (fs:=[.dat (eD i30)]) (is:=[]) (outs:=[]) (S3:=[.own 0 x2.2.own,.dat (eD x1.1),.dat (eD x2.1),.dat ((eL (e2 eD eS)) x3),.loc (c33.map (eL eI)),.dat (eD i31),.dat (eD i30),.dat (eS i32),.dat ((eL eD) v35),.no]) (js (jf rfl) jg) jg ⟨rfl,rfl⟩ rfl rfl (vC hx50) rfl) rfl (jds (f:=(eL eI)) hv51) rfl ?_
      obtain rfl:=Option.some.inj hN
      exact jmi rfl
def VB (p_rng:Rg):Option (Bool×Rg):=
  (VY p_rng).bind fun x1=>(VY x1.2).bind fun x2=>(jcg x1.1).bind fun x3=>(vP x2.1).bind fun x4=>jj1 (ρ:=Bool×Rg) id (jjG (fun (x25:((Dat×Str)×Dat)) (s26:(List (List Int)))=>zQ x1 x2 x25.1.1 x25.1.2 x25.2 s26) (List.zip x3 x4) ([])) fun s27=>(jbn x1.1 x2.1).bind fun x29=>jj1 (ρ:=Bool×Rg) id (jjG (fun (x54:(Dat×Dat×Str)) (s55:(List (List Int)))=>wA x1 x2 x54.1 x54.2.1 x54.2.2 s55) x29 s27) fun s56=>(jgx s56).bind fun x58=>(jbZ 40).bind fun x59=>(ji5 (x59.map fun y60=>[y60])).bind fun x61=>(eqB ((eL (eL eI)) x58) ((eL (eL eI)) x61)).bind fun x62=>some ((x62,x2.2))
theorem jiT {p_rng:Rg} {a:Bool×Rg} (hN:VB p_rng=some a):jd2 [.own p_rng.own]=vY a:=by
  unfold VB at hN
  refine jd6 (k:=1) (S:=[.own 0 p_rng.own,.no,.no,.no,.no,.no,.no,.no,.no,.no]) rfl rfl rfl ?_
  unfold jf6
  refine VD ?_
  refine jm ?_
  obtain ⟨x1,hx1,hN⟩:=bind_some hN
  obtain ⟨x2,hx2,hN⟩:=bind_some hN
  refine jnc (S2:=[.own 0 x2.2.own,.dat (eD x1.1),.dat (eD x2.1),.no,.no,.no,.no,.no,.no,.no]) (jmL (jc (Jl (fs:=[.own p_rng.own]) (is:=[0]) (outs:=[x1.2.own]) (S3:=[.own 0 x1.2.own,.no,.no,.no,.no,.no,.no,.no,.no,.no]) (jiV rfl jg) jg ⟨rfl,rfl⟩ rfl rfl (jf5 hx1) rfl) (jc (Jl (fs:=[.own x1.2.own]) (is:=[0]) (outs:=[x2.2.own]) (S3:=[.own 0 x2.2.own,.no,.no,.no,.no,.no,.no,.no,.no,.no]) (jiV rfl jg) jg ⟨rfl,rfl⟩ rfl rfl (jf5 hx2) rfl) jp)) rfl rfl) rfl ?_
  refine jm ?_
  obtain ⟨x3,hx3,hN⟩:=bind_some hN
  refine jlF (S3:=[.own 0 x2.2.own,.dat (eD x1.1),.dat (eD x2.1),.dat ((eL (e2 eD eS)) x3),.loc (([]).map (eL eI)),.no,.no,.no,.no,.no]) (Jl (fs:=[.dat (eD x1.1)]) (is:=[]) (outs:=[]) (S3:=[.own 0 x2.2.own,.dat (eD x1.1),.dat (eD x2.1),.no,.no,.no,.no,.no,.no,.no]) (js (jf rfl) jg) jg ⟨rfl,rfl⟩ rfl rfl (jjx hx3) rfl) (jk7 jp (Nat.le_of_ble_eq_true rfl)) rfl ?_
  refine jm ?_
  obtain ⟨x4,hx4,hN⟩:=bind_some hN
  rcases jeu hN with ⟨s27,hs27,hN⟩ | ⟨v64,hs27,hN⟩
  · obtain ⟨j28,es27⟩:∃ jx,jaZ (jgi 2 (gCs (jgi 2 (gCs (gNm 6) (gCs (gNm 7) (gNl)))) (gCs (gNm 5) (gNl)))) (Jo (V8 (cOr (jE (m2 neD (JF J8 (je (jA zj 1 0 (fun as bs=>[as.getD 0 (.dat .non)]) (jQ (jh 6) (jn)) jn) (jY))) (JF J8 (je (jh 1) (jY))))) (jE (m2 neD (JF J8 (je (jA zj 1 0 (fun as bs=>[as.getD 0 (.dat .non)]) (jQ (jh 5) (jn)) jn) (jY))) (JF J8 (je (jh 2) (jY)))))) (YY (mC (.bl false))) (we))
    (Jo (V8 (cOr (jgb (jE (jA vy 2 0 (fun as bs=>[as.getD 0 (.dat .non),as.getD 1 (.dat .non)]) (jQ (jh 6) (jQ (jh 7) (jn))) jn))) (jE (m2 neD (jA jy 1 0 (fun as bs=>[as.getD 0 (.dat .non)]) (jQ (jh 6) (jn)) jn) (jA jy 1 0 (fun as bs=>[as.getD 0 (.dat .non)]) (jQ (jh 5) (jn)) jn)))) (YY (mC (.bl false))) (we))
    (jdF 4 (jA jy 1 0 (fun as bs=>[as.getD 0 (.dat .non)]) (jQ (jh 6) (jn)) jn)))) ((List.zip x3 x4).map (e2 (e2 eD eS) eD)) [.own 0 x2.2.own,.dat (eD x1.1),.dat (eD x2.1),.dat ((eL (e2 eD eS)) x3),.loc (([]).map (eL eI)),.no,.no,.no,.no,.no]= .ok .nx (((fun (s:(List (List Int))) (jt:Nat→vW)=>[.own 0 x2.2.own,.dat (eD x1.1),.dat (eD x2.1),.dat ((eL (e2 eD eS)) x3),.loc (s.map (eL eI)),(jt 5),(jt 6),(jt 7),.no,.no])) s27 jx):=jmA (jdQ (T:=(fun (s:(List (List Int))) (jt:Nat→vW)=>[.own 0 x2.2.own,.dat (eD x1.1),.dat (eD x2.1),.dat ((eL (e2 eD eS)) x3),.loc (s.map (eL eI)),(jt 5),(jt 6),(jt 7),.no,.no])) (RT:=(RTo 1 (vY))) (f:=(e2 (e2 eD eS) eD)) rto (fun x25 s26 jw z h=>jdk x1 x2 x3 x25.1.1 x25.1.2 x25.2 s26 h jw) (List.zip x3 x4) ([]) (fun i=>List.getD [.own 0 x2.2.own,.dat (eD x1.1),.dat (eD x2.1),.dat ((eL (e2 eD eS)) x3),.loc (([]).map (eL eI)),.no,.no,.no,.no,.no] i .no) _ hs27)
    refine jj0 (ds:=(List.zip x3 x4).map (e2 (e2 eD eS) eD)) (jh3 (jc (jf rfl) (jc (Jl (fs:=[.dat (eD x2.1)]) (is:=[]) (outs:=[]) (S3:=[.own 0 x2.2.own,.dat (eD x1.1),.dat (eD x2.1),.dat ((eL (e2 eD eS)) x3),.loc (([]).map (eL eI)),.no,.no,.no,.no,.no]) (js (jf rfl) jg) jg ⟨rfl,rfl⟩ rfl rfl (VT hx4) rfl) jp)) (jmh (f:=(e2 eD eS)) (h:=eD))) (jfR (S1:=[.own 0 x2.2.own,.dat (eD x1.1),.dat (eD x2.1),.dat ((eL (e2 eD eS)) x3),.loc (s27.map (eL eI)),(j28 5),(j28 6),(j28 7),.no,.no]) es27 ?_)
    refine jm ?_
    obtain ⟨x29,hx29,hN⟩:=bind_some hN
    rcases jeu hN with ⟨s56,hs56,hN⟩ | ⟨v63,hs56,hN⟩
    · obtain ⟨j57,es56⟩:∃ jx,jaZ (jgi 3 (gCs (gNm 6) (gCs (gNm 5) (gCs (gNm 7) (gNl))))) (Jo (Vb (mSl (zk (je (jh 1) (je (jh 2) (jY)))) (oN) (oS (JF jhk (je (jA vw 1 0 (fun as bs=>[as.getD 0 (.dat .non)]) (jQ (jh 6) (jn)) jn) (jY))))) (gNm 8))
    (Jo (V8 (cOr (jE (m2 neD (JF J8 (je (jA vw 1 0 (fun as bs=>[as.getD 0 (.dat .non)]) (jQ (jh 6) (jn)) jn) (jY))) (JF J8 (je (jh 8) (jY))))) (jE (m2 neD (JF J8 (je (jA vw 1 0 (fun as bs=>[as.getD 0 (.dat .non)]) (jQ (jh 5) (jn)) jn) (jY))) (JF J8 (je (jh 8) (jY)))))) (YY (mC (.bl false))) (we))
    (Jo (V8 (cOr (jgb (jE (jA vy 2 0 (fun as bs=>[as.getD 0 (.dat .non),as.getD 1 (.dat .non)]) (jQ (jh 6) (jQ (jh 7) (jn))) jn))) (cOr (jgb (jE (jA vy 2 0 (fun as bs=>[as.getD 0 (.dat .non),as.getD 1 (.dat .non)]) (jQ (jh 5) (jQ (jh 7) (jn))) jn))) (jE (m2 neD (jA jy 1 0 (fun as bs=>[as.getD 0 (.dat .non)]) (jQ (jh 6) (jn)) jn) (jA jy 1 0 (fun as bs=>[as.getD 0 (.dat .non)]) (jQ (jh 5) (jn)) jn))))) (YY (mC (.bl false))) (we))
    (jdF 4 (jA jy 1 0 (fun as bs=>[as.getD 0 (.dat .non)]) (jQ (jh 6) (jn)) jn))))) (x29.map (e3 eD eD eS)) [.own 0 x2.2.own,.dat (eD x1.1),.dat (eD x2.1),.dat ((eL (e2 eD eS)) x3),.loc (s27.map (eL eI)),(j28 5),(j28 6),(j28 7),.no,.no]= .ok .nx (((fun (s:(List (List Int))) (jt:Nat→vW)=>[.own 0 x2.2.own,.dat (eD x1.1),.dat (eD x2.1),.dat ((eL (e2 eD eS)) x3),.loc (s.map (eL eI)),(jt 5),(jt 6),(jt 7),(jt 8),.no])) s56 jx):=jmA (jdQ (T:=(fun (s:(List (List Int))) (jt:Nat→vW)=>[.own 0 x2.2.own,.dat (eD x1.1),.dat (eD x2.1),.dat ((eL (e2 eD eS)) x3),.loc (s.map (eL eI)),(jt 5),(jt 6),(jt 7),(jt 8),.no])) (RT:=(RTo 1 (vY))) (f:=(e3 eD eD eS)) rto (fun x54 s55 jw z h=>jdh x1 x2 x3 x54.1 x54.2.1 x54.2.2 s55 h jw) x29 s27 (fun i=>List.getD [.own 0 x2.2.own,.dat (eD x1.1),.dat (eD x2.1),.dat ((eL (e2 eD eS)) x3),.loc (s27.map (eL eI)),(j28 5),(j28 6),(j28 7),.no,.no] i .no) _ hs56)
      refine jj0 (ds:=x29.map (e3 eD eD eS)) (jit (Jl (fs:=[.dat (eD x1.1),.dat (eD x2.1)]) (is:=[]) (outs:=[]) (S3:=[.own 0 x2.2.own,.dat (eD x1.1),.dat (eD x2.1),.dat ((eL (e2 eD eS)) x3),.loc (s27.map (eL eI)),(j28 5),(j28 6),(j28 7),.no,.no]) (js (jf rfl) (js (jf rfl) jg)) jg ⟨rfl,rfl⟩ rfl rfl (jg9 hx29) rfl) rfl) (jfR (S1:=[.own 0 x2.2.own,.dat (eD x1.1),.dat (eD x2.1),.dat ((eL (e2 eD eS)) x3),.loc (s56.map (eL eI)),(j57 5),(j57 6),(j57 7),(j57 8),.no]) es56 ?_)
      obtain ⟨x58,hx58,hN⟩:=bind_some hN
      obtain ⟨x59,hx59,hN⟩:=bind_some hN
      obtain ⟨x61,hx61,hN⟩:=bind_some hN
      obtain ⟨x62,hx62,hN⟩:=bind_some hN
      refine yK (x_2 (v9 (jc (jlE (S1:=[.own 0 x2.2.own,.dat (eD x1.1),.dat (eD x2.1),.dat ((eL (e2 eD eS)) x3),.dat ((eL (eL eI)) s56),(j57 5),(j57 6),(j57 7),(j57 8),.no]) rfl rfl) jp) (jkV hx58)) (jm3 (jlT (f:=eI) (fo:=(eL eI)) (F:=fun y60=>[y60]) (S0:=[.own 0 x2.2.own,.dat (eD x1.1),.dat (eD x2.1),.dat ((eL (e2 eD eS)) x3),.dat ((eL (eL eI)) s56),(j57 5),(j57 6),(j57 7),(j57 8),.no]) (jh3 (jc x_C jp) (jgF hx59)) rfl (fun y60=>⟨[.own 0 x2.2.own,.dat (eD x1.1),.dat (eD x2.1),.dat ((eL (e2 eD eS)) x3),.dat ((eL (eL eI)) s56),(j57 5),(j57 6),(j57 7),(j57 8),.dat (eI y60)],_,rfl,(zP (vj (jc (jf rfl) jp) (Nat.le_of_ble_eq_true rfl)) (by rfl)),rfl⟩) hx61)) (jn4 hx62)) ?_
      obtain rfl:=Option.some.inj hN
      exact rfl
    · have es56:RTo 1 (vY) v63 (jaZ (jgi 3 (gCs (gNm 6) (gCs (gNm 5) (gCs (gNm 7) (gNl))))) (Jo (Vb (mSl (zk (je (jh 1) (je (jh 2) (jY)))) (oN) (oS (JF jhk (je (jA vw 1 0 (fun as bs=>[as.getD 0 (.dat .non)]) (jQ (jh 6) (jn)) jn) (jY))))) (gNm 8))
    (Jo (V8 (cOr (jE (m2 neD (JF J8 (je (jA vw 1 0 (fun as bs=>[as.getD 0 (.dat .non)]) (jQ (jh 6) (jn)) jn) (jY))) (JF J8 (je (jh 8) (jY))))) (jE (m2 neD (JF J8 (je (jA vw 1 0 (fun as bs=>[as.getD 0 (.dat .non)]) (jQ (jh 5) (jn)) jn) (jY))) (JF J8 (je (jh 8) (jY)))))) (YY (mC (.bl false))) (we))
    (Jo (V8 (cOr (jgb (jE (jA vy 2 0 (fun as bs=>[as.getD 0 (.dat .non),as.getD 1 (.dat .non)]) (jQ (jh 6) (jQ (jh 7) (jn))) jn))) (cOr (jgb (jE (jA vy 2 0 (fun as bs=>[as.getD 0 (.dat .non),as.getD 1 (.dat .non)]) (jQ (jh 5) (jQ (jh 7) (jn))) jn))) (jE (m2 neD (jA jy 1 0 (fun as bs=>[as.getD 0 (.dat .non)]) (jQ (jh 6) (jn)) jn) (jA jy 1 0 (fun as bs=>[as.getD 0 (.dat .non)]) (jQ (jh 5) (jn)) jn))))) (YY (mC (.bl false))) (we))
    (jdF 4 (jA jy 1 0 (fun as bs=>[as.getD 0 (.dat .non)]) (jQ (jh 6) (jn)) jn))))) (x29.map (e3 eD eD eS)) [.own 0 x2.2.own,.dat (eD x1.1),.dat (eD x2.1),.dat ((eL (e2 eD eS)) x3),.loc (s27.map (eL eI)),(j28 5),(j28 6),(j28 7),.no,.no]):=jmI (jdQ (T:=(fun (s:(List (List Int))) (jt:Nat→vW)=>[.own 0 x2.2.own,.dat (eD x1.1),.dat (eD x2.1),.dat ((eL (e2 eD eS)) x3),.loc (s.map (eL eI)),(jt 5),(jt 6),(jt 7),(jt 8),.no])) (RT:=(RTo 1 (vY))) (f:=(e3 eD eD eS)) rto (fun x54 s55 jw z h=>jdh x1 x2 x3 x54.1 x54.2.1 x54.2.2 s55 h jw) x29 s27 (fun i=>List.getD [.own 0 x2.2.own,.dat (eD x1.1),.dat (eD x2.1),.dat ((eL (e2 eD eS)) x3),.loc (s27.map (eL eI)),(j28 5),(j28 6),(j28 7),.no,.no] i .no) _ hs56)
      subst hN
      exact jj0 (ds:=x29.map (e3 eD eD eS)) (jit (Jl (fs:=[.dat (eD x1.1),.dat (eD x2.1)]) (is:=[]) (outs:=[]) (S3:=[.own 0 x2.2.own,.dat (eD x1.1),.dat (eD x2.1),.dat ((eL (e2 eD eS)) x3),.loc (s27.map (eL eI)),(j28 5),(j28 6),(j28 7),.no,.no]) (js (jf rfl) (js (jf rfl) jg)) jg ⟨rfl,rfl⟩ rfl rfl (jg9 hx29) rfl) rfl) (jml es56 es56.2)
  · have es27:RTo 1 (vY) v64 (jaZ (jgi 2 (gCs (jgi 2 (gCs (gNm 6) (gCs (gNm 7) (gNl)))) (gCs (gNm 5) (gNl)))) (Jo (V8 (cOr (jE (m2 neD (JF J8 (je (jA zj 1 0 (fun as bs=>[as.getD 0 (.dat .non)]) (jQ (jh 6) (jn)) jn) (jY))) (JF J8 (je (jh 1) (jY))))) (jE (m2 neD (JF J8 (je (jA zj 1 0 (fun as bs=>[as.getD 0 (.dat .non)]) (jQ (jh 5) (jn)) jn) (jY))) (JF J8 (je (jh 2) (jY)))))) (YY (mC (.bl false))) (we))
    (Jo (V8 (cOr (jgb (jE (jA vy 2 0 (fun as bs=>[as.getD 0 (.dat .non),as.getD 1 (.dat .non)]) (jQ (jh 6) (jQ (jh 7) (jn))) jn))) (jE (m2 neD (jA jy 1 0 (fun as bs=>[as.getD 0 (.dat .non)]) (jQ (jh 6) (jn)) jn) (jA jy 1 0 (fun as bs=>[as.getD 0 (.dat .non)]) (jQ (jh 5) (jn)) jn)))) (YY (mC (.bl false))) (we))
    (jdF 4 (jA jy 1 0 (fun as bs=>[as.getD 0 (.dat .non)]) (jQ (jh 6) (jn)) jn)))) ((List.zip x3 x4).map (e2 (e2 eD eS) eD)) [.own 0 x2.2.own,.dat (eD x1.1),.dat (eD x2.1),.dat ((eL (e2 eD eS)) x3),.loc (([]).map (eL eI)),.no,.no,.no,.no,.no]):=jmI (jdQ (T:=(fun (s:(List (List Int))) (jt:Nat→vW)=>[.own 0 x2.2.own,.dat (eD x1.1),.dat (eD x2.1),.dat ((eL (e2 eD eS)) x3),.loc (s.map (eL eI)),(jt 5),(jt 6),(jt 7),.no,.no])) (RT:=(RTo 1 (vY))) (f:=(e2 (e2 eD eS) eD)) rto (fun x25 s26 jw z h=>jdk x1 x2 x3 x25.1.1 x25.1.2 x25.2 s26 h jw) (List.zip x3 x4) ([]) (fun i=>List.getD [.own 0 x2.2.own,.dat (eD x1.1),.dat (eD x2.1),.dat ((eL (e2 eD eS)) x3),.loc (([]).map (eL eI)),.no,.no,.no,.no,.no] i .no) _ hs27)
    subst hN
    exact jj0 (ds:=(List.zip x3 x4).map (e2 (e2 eD eS) eD)) (jh3 (jc (jf rfl) (jc (Jl (fs:=[.dat (eD x2.1)]) (is:=[]) (outs:=[]) (S3:=[.own 0 x2.2.own,.dat (eD x1.1),.dat (eD x2.1),.dat ((eL (e2 eD eS)) x3),.loc (([]).map (eL eI)),.no,.no,.no,.no,.no]) (js (jf rfl) jg) jg ⟨rfl,rfl⟩ rfl rfl (VT hx4) rfl) jp)) (jmh (f:=(e2 eD eS)) (h:=eD))) (jml es27 es27.2)
def jiI (a:Bool):RF:= .ok (eB a) []
def jjT (p_script:(List Int)):Option (Bool):=
  (jbZ (max 1 (min 4 ((p_script.length:Int))))).bind fun x1=>(jkF (jjo (fun y2=>(jmn p_script y2).bind fun g3=>(VB g3).bind fun x4=>some x4.1) x1)).bind fun x5=>some (x5.all id)
theorem jne {p_script:(List Int)} {a:Bool} (hN:jjT p_script=some a):F_law [.dat ((eR eI) p_script)]=jiI a:=by
  unfold jjT at hN
  refine jd6 (k:=0) (S:=[.dat ((eR eI) p_script),.no]) rfl rfl rfl ?_
  unfold jmd
  refine VD ?_
  obtain ⟨x1,hx1,hN⟩:=bind_some hN
  obtain ⟨x5,hx5,hN⟩:=bind_some hN
  refine yK (v9 (jc (jm3 (ji2 (f:=eI) (fo:=eB) (nb:=fun y2=>(jmn p_script y2).bind fun g3=>(VB g3).bind fun x4=>some x4.1) (S0:=[.dat ((eR eI) p_script),.no]) (jh3 (jc (v9 (jc x_C (jc (v9 (jc x_C (jc (v9 (jc (jf rfl) jp) (jlH (f:=eI))) jp)) jlG) jp)) jkp) jp) (jgF hx1)) rfl (fun y2 p hp=>by (obtain ⟨g3,hg3,hp⟩:=bind_some hp; obtain ⟨x4,hx4,hp⟩:=bind_some hp; obtain rfl:=Option.some.inj hp; exact ⟨[.dat ((eR eI) p_script),.dat (eI y2)],_,rfl,(jmJ (jl2 (js (jf rfl) (js (jf rfl) jg)) rfl rfl (jnw hg3)) (jiT hx4)),rfl⟩)) hx5)) jp) jnM) ?_
  obtain rfl:=Option.some.inj hN
  exact rfl
end
end K19
namespace K19
open PySem Mir
theorem y7 (a b:Str):(a ++ b).length=a.length + b.length:=Array.size_append
def Th (d:Dat):Prop:= ∃ z,zO d=some z∧z.length≤1000
theorem x1 {t n:Str} {d:Dat} (ht:t.length≤100) (h:Th d):Y9 1 (vH [mC (.str t),m1 Ju (jh 1)]) [(n,1)] [d]=some [(n,d)]:=by
  obtain ⟨z,hz,hl⟩:=h
  have e0:Str.empty.length=0:=rfl
  have l1:(Str.empty ++ t).length≤sizeLine:=by rw [y7,e0,sizeLine_eq]; omega
  have l2:(Str.empty ++ t ++ z).length≤sizeLine:=by rw [y7,y7,e0,sizeLine_eq]; omega
  have e:vH [mC (.str t),m1 Ju (jh 1)] [.no,.dat d]= .ok (.str (Str.empty ++ t ++ z)) [.no,.dat d]:=by
    have f:m1 Ju (jh 1) [.no,.dat d]= .ok (.str z) [.no,.dat d]:=by
      show Rs.of (Ju d) [.no,.dat d]=_
      unfold Ju
      rw [hz]; rfl
    show (if (Str.empty ++ t).length≤sizeLine then jd1 [m1 Ju (jh 1)] (Str.empty ++ t) [.no,.dat d] else .bad).bind _=_
    rw [if_pos l1]
    unfold jd1
    rw [f,Rs.bind_ok]
    dsimp only
    rw [if_pos l2]
    rfl
  show (match vH [mC (.str t),m1 Ju (jh 1)] [.no,.dat d] with | .ok _ _=>some _ | _=>none)=_
  rw [e]
  rfl
theorem x2 {t t2 n m:Str} {d e:Dat} (ht:t.length≤100) (ht2:t2.length≤100) (h:Th d) (h2:Th e):Y9 2 (vH [mC (.str t),m1 Ju (jh 1),mC (.str t2),m1 Ju (jh 2)]) [(n,1),(m,2)] [d,e]=some [(m,e),(n,d)]:=by
  obtain ⟨z,hz,hl⟩:=h
  obtain ⟨y,hy,hl2⟩:=h2
  have e0:Str.empty.length=0:=rfl
  have l1:(Str.empty ++ t).length≤sizeLine:=by rw [y7,e0,sizeLine_eq]; omega
  have l2:(Str.empty ++ t ++ z).length≤sizeLine:=by rw [y7,y7,e0,sizeLine_eq]; omega
  have l3:(Str.empty ++ t ++ z ++ t2).length≤sizeLine:=by rw [y7,y7,y7,e0,sizeLine_eq]; omega
  have l4:(Str.empty ++ t ++ z ++ t2 ++ y).length≤sizeLine:=by rw [y7,y7,y7,y7,e0,sizeLine_eq]; omega
  have ee:vH [mC (.str t),m1 Ju (jh 1),mC (.str t2),m1 Ju (jh 2)] [.no,.dat d,.dat e]= .ok (.str (Str.empty ++ t ++ z ++ t2 ++ y)) [.no,.dat d,.dat e]:=by
    have f:m1 Ju (jh 1) [.no,.dat d,.dat e]= .ok (.str z) [.no,.dat d,.dat e]:=by
      show Rs.of (Ju d) [.no,.dat d,.dat e]=_
      unfold Ju
      rw [hz]; rfl
    have f2:m1 Ju (jh 2) [.no,.dat d,.dat e]= .ok (.str y) [.no,.dat d,.dat e]:=by
      show Rs.of (Ju e) [.no,.dat d,.dat e]=_
      unfold Ju
      rw [hy]; rfl
    show (if (Str.empty ++ t).length≤sizeLine then jd1 [m1 Ju (jh 1),mC (.str t2),m1 Ju (jh 2)] (Str.empty ++ t) [.no,.dat d,.dat e] else .bad).bind _=_
    rw [if_pos l1]
    unfold jd1
    rw [f,Rs.bind_ok]
    dsimp only
    rw [if_pos l2]
    show ((if (Str.empty ++ t ++ z ++ t2).length≤sizeLine then jd1 [m1 Ju (jh 2)] (Str.empty ++ t ++ z ++ t2) [.no,.dat d,.dat e] else .bad).bind _)=_
    rw [if_pos l3]
    unfold jd1
    rw [f2,Rs.bind_ok]
    dsimp only
    rw [if_pos l4]
    rfl
  show (match vH [mC (.str t),m1 Ju (jh 1),mC (.str t2),m1 Ju (jh 2)] [.no,.dat d,.dat e] with | .ok _ _=>some _ | _=>none)=_
  rw [ee]
  rfl
theorem jaz {d:Dat} (h:Th d):JM [d]=some [(("position" :Str),d)]:=x1 (by decide +kernel) h
theorem WN {d:Dat} (h:Th d):Jw [d]=some [(("value" :Str),d)]:=x1 (by decide +kernel) h
theorem jaX {d:Dat} (h:Th d):JK [d]=some [(("value" :Str),d)]:=x1 (by decide +kernel) h
theorem WB {d:Dat} (h:Th d):JB [d]=some [(("position" :Str),d)]:=x1 (by decide +kernel) h
theorem jaA {d:Dat} (h:Th d):JH [d]=some [(("problem" :Str),d)]:=x1 (by decide +kernel) h
theorem Wy {d:Dat} (h:Th d):JC [d]=some [(("position" :Str),d)]:=x1 (by decide +kernel) h
theorem WF {d:Dat} (h:Th d):Jx [d]=some [(("position" :Str),d)]:=x1 (by decide +kernel) h
theorem WD {d:Dat} (h:Th d):JA [d]=some [(("value" :Str),d)]:=x1 (by decide +kernel) h
theorem VQ {d:Dat} (h:Th d):Jr [d]=some [(("problem" :Str),d)]:=x1 (by decide +kernel) h
theorem jbO {d:Dat} (h:Th d):JU [d]=some [(("value" :Str),d)]:=x1 (by decide +kernel) h
theorem jbM {d:Dat} (h:Th d):JQ [d]=some [(("position" :Str),d)]:=x1 (by decide +kernel) h
theorem jaq {d:Dat} (h:Th d):JL [d]=some [(("position" :Str),d)]:=x1 (by decide +kernel) h
theorem jbS {d:Dat} (h:Th d):JT [d]=some [(("value" :Str),d)]:=x1 (by decide +kernel) h
theorem jbR {d:Dat} (h:Th d):JR [d]=some [(("value" :Str),d)]:=x1 (by decide +kernel) h
theorem jaO {d:Dat} (h:Th d):JJ [d]=some [(("problem" :Str),d)]:=x1 (by decide +kernel) h
theorem WC {d:Dat} (h:Th d):JD [d]=some [(("position" :Str),d)]:=x1 (by decide +kernel) h
theorem jbN {d:Dat} (h:Th d):JP [d]=some [(("line" :Str),d)]:=x1 (by decide +kernel) h
theorem VN {d:Dat} (h:Th d):Jq [d]=some [(("value" :Str),d)]:=x1 (by decide +kernel) h
theorem VI {d:Dat} (h:Th d):Jp [d]=some [(("value" :Str),d)]:=x1 (by decide +kernel) h
theorem Wx {d:Dat} (h:Th d):Jy [d]=some [(("value" :Str),d)]:=x1 (by decide +kernel) h
theorem jbJ {d:Dat} (h:Th d):JS [d]=some [(("value" :Str),d)]:=x1 (by decide +kernel) h
theorem jdi {d:Dat} (h:Th d):vh [d]=some [(("taken" :Str),d)]:=x1 (by decide +kernel) h
theorem jeN {d:Dat} (h:Th d):vK [d]=some [(("total" :Str),d)]:=x1 (by decide +kernel) h
theorem je7 {d:Dat} (h:Th d):vL [d]=some [(("refusal" :Str),d)]:=x1 (by decide +kernel) h
theorem jec {d:Dat} (h:Th d):vr [d]=some [(("cases" :Str),d)]:=x1 (by decide +kernel) h
theorem jev {d:Dat} (h:Th d):vT [d]=some [(("danger" :Str),d)]:=x1 (by decide +kernel) h
theorem jeH {d:Dat} (h:Th d):vJ [d]=some [(("value" :Str),d)]:=x1 (by decide +kernel) h
theorem jeG {d:Dat} (h:Th d):vU [d]=some [(("limit" :Str),d)]:=x1 (by decide +kernel) h
theorem jeP {d:Dat} (h:Th d):vM [d]=some [(("limit" :Str),d)]:=x1 (by decide +kernel) h
theorem jee {d e:Dat} (h:Th d) (h2:Th e):JI [d,e]=some [(("position" :Str),e),(("problem" :Str),d)]:=x2 (by decide +kernel) (by decide +kernel) h h2
theorem jc6 {d e:Dat} (h:Th d) (h2:Th e):Js [d,e]=some [(("position" :Str),e),(("problem" :Str),d)]:=x2 (by decide +kernel) (by decide +kernel) h h2
theorem jil {d e:Dat} (h:Th d) (h2:Th e):wg [d,e]=some [(("target" :Str),e),(("source" :Str),d)]:=x2 (by decide +kernel) (by decide +kernel) h h2
theorem jhC {d e:Dat} (h:Th d) (h2:Th e):vN [d,e]=some [(("second" :Str),e),(("first" :Str),d)]:=x2 (by decide +kernel) (by decide +kernel) h h2
theorem jfC {d e:Dat} (h:Th d) (h2:Th e):vm [d,e]=some [(("results" :Str),e),(("position" :Str),d)]:=x2 (by decide +kernel) (by decide +kernel) h h2
theorem jge {d e:Dat} (h:Th d) (h2:Th e):vt [d,e]=some [(("window" :Str),e),(("at_station" :Str),d)]:=x2 (by decide +kernel) (by decide +kernel) h h2
def jnr:List (Str×Str×Str×Int):=[("InvalidPiece","position","due",1),("InvalidLength","value","due",2),("InvalidCount","value","due",3),("InvalidRecord","position","due",4),("InvalidVisit","problem","due",5),("InvalidVisits","position","due",6),("InvalidSupply","position","due",7),("InvalidWindow","value","due",8),("InvalidStation","problem","due",9),("InvalidName","value","due",11),("InvalidPath","position","due",12),("InvalidSplit","position","due",13),("InvalidTime","value","due",14),("InvalidTick","value","due",15),("InvalidFault","problem","due",16)]
def jnS:List (Str×Str×Str×Int):=[("InvalidFaults","position","due",17),("InvalidText","line","due",21),("InvalidCommand","value","due",22),("UnknownStation","value","lookup",23),("UnknownStream","value","lookup",24),("UnknownUnit","value","lookup",25),("NameTaken","taken","run",27),("TooSlow","total","run",29),("Refused","refusal","run",30),("NoSplits","cases","run",34),("Exposed","danger","run",35),("NotLate","value","run",36),("TooLong","limit","sum",38),("TooMany","limit","sum",39)]
def jjp:List (Str×Str×Str×Int):=jnr ++ jnS
def jim:List (Str×Str×Str×Str×Int):=[("InvalidCurve","problem","position","due",0),("InvalidNetwork","problem","position","due",10),("NoLink","source","target","lookup",26),("NotGood","first","second","run",28),("RunFailed","position","results","run",37),("Overfull","at_station","window","run",31)]
def jiP:List (Str×Str×Int):=[("InvalidHanded","due",18),("InvalidBook","due",19),("InvalidWeights","due",20),("NotPlain","run",32),("HasReserves","run",33)]
theorem jjZ {d:Dat} (h:Th d):jcg d=some (jjp.map fun r=>(Dat.exn r.1 [(r.2.1,d)],r.2.2.1)):=by
  unfold jcg
  simp only [eD,jaz h,WN h,jaX h,WB h,jaA h,Wy h,WF h,WD h,VQ h,jbO h,jbM h,jaq h,jbS h,jbR h,jaO h,WC h,jbN h,VN h,VI h,Wx h,jbJ h,jdi h,jeN h,je7 h,jec h,jev h,jeH h,jeG h,jeP h,bnd]
  rfl
theorem jhP {d:Dat} (h:Th d):vP d=some (jjp.map fun r=>Dat.exn r.1 [(r.2.1,d)]):=by
  unfold vP
  simp only [eD,jaz h,WN h,jaX h,WB h,jaA h,Wy h,WF h,WD h,VQ h,jbO h,jbM h,jaq h,jbS h,jbR h,jaO h,WC h,jbN h,VN h,VI h,Wx h,jbJ h,jdi h,jeN h,je7 h,jec h,jev h,jeH h,jeG h,jeP h,bnd]
  rfl
def more (d e:Dat):List (Dat×Dat×Str):=(jim.map fun r=>(Dat.exn r.1 [(r.2.2.1,e),(r.2.1,d)],Dat.exn r.1 [(r.2.2.1,e),(r.2.1,d)],r.2.2.2.1)) ++ jiP.map fun r=>(Dat.exn r.1 [],Dat.exn r.1 [],r.2.1)
theorem jjN {d e:Dat} (h:Th d) (h2:Th e):jbn d e=some (more d e):=by
  unfold jbn
  simp only [eD,jee h h2,jc6 h h2,jil h h2,jhC h h2,jfC h h2,jge h h2,bnd]
  rfl
theorem jdb (c:Str) (fs:List (Str×Dat)):Jn (.exn c fs)=Jn (.exn c []):=rfl
theorem jkI (c:Str) (fs:List (Str×Dat)):jcl (.exn c fs)=jcl (.exn c []):=rfl
theorem jjb (c:Str) (fs:List (Str×Dat)) (w:Str):vR (.exn c fs) w=vR (.exn c []) w:=by
  unfold vR
  rw [jkI c fs]
theorem ji0 (c:Str) (fs gs:List (Str×Dat)) (L M:List Str):wL L M (.exn c fs)=wL L M (.exn c gs):=rfl
theorem jnd (cs:List Str) (c n nm:Str) (d:Dat):zm cs nm (.exn c [(n,d)])=(zm cs nm (.exn c [(n,.int 7)])).map fun _=>d:=by
  show (if cs.contains c then List.lookup nm [(n,d)] else none)=(if cs.contains c then List.lookup nm [(n,Dat.int 7)] else none).map fun _=>d
  by_cases h:cs.contains c=true
  · rw [if_pos h,if_pos h]
    simp only [List.lookup]
    cases nm == n <;> rfl
  · rw [if_neg h,if_neg h]; rfl
theorem st1 {o:Option Bool} {f r r':Option Dat} {g:Dat→Dat} (h:r'=r.map g):(o.bind fun x=>if x=true then (f.map g).bind (fun y=>some y) else r')=(o.bind fun x=>if x=true then f.bind (fun y=>some y) else r).map g:=by
  subst h
  cases o with
  | none=>rfl
  | some x=>cases x <;> cases f <;> rfl
theorem jic (c n:Str) (d:Dat):zl (.exn c [(n,d)])=(zl (.exn c [(n,.int 7)])).map fun _=>d:=by
  unfold zl
  simp only [ji0 c [(n,d)] [(n,Dat.int 7)],jnd _ c n _ d]
  refine st1 (st1 (st1 (st1 (st1 (st1 (st1 (st1 (st1 ?_))))))))
  generalize wL jH ["TooLong","TooMany"] (Dat.exn c [(n,.int 7)])=o
  generalize zm ["TooLong","TooMany"] "limit" (Dat.exn c [(n,.int 7)])=f
  generalize zm _ "value" (Dat.exn c [(n,.int 7)])=r
  cases o with
  | none=>rfl
  | some x=>cases x <;> cases f <;> cases r <;> rfl
def is7:Option Dat→Bool
  | some (.int 7)=>true
  | _=>false
theorem jkf {o:Option Dat} (h:is7 o=true):o=some (.int 7):=by
  unfold is7 at h
  split at h
  · rfl
  · cases h
def g2 (d e:Dat):Dat→Dat
  | .int 7=>d
  | _=>e
theorem jnn (cs:List Str) (c n m nm:Str) (d e:Dat):zm cs nm (.exn c [(m,e),(n,d)])=(zm cs nm (.exn c [(m,.int 8),(n,.int 7)])).map (g2 d e):=by
  show (if cs.contains c then List.lookup nm [(m,e),(n,d)] else none)=(if cs.contains c then List.lookup nm [(m,Dat.int 8),(n,Dat.int 7)] else none).map (g2 d e)
  by_cases h:cs.contains c=true
  · rw [if_pos h,if_pos h]
    simp only [List.lookup]
    cases nm == m
    · cases nm == n <;> rfl
    · rfl
  · rw [if_neg h,if_neg h]; rfl
theorem st2 {o:Option Bool} {f1 f2:Option Dat} {r r':Option (List Dat)} {g:Dat→Dat} (h:r'=r.map (·.map g)):(o.bind fun x=>if x=true then (f1.map g).bind fun a=>(f2.map g).bind fun b=>some [a,b] else r')=(o.bind fun x=>if x=true then f1.bind fun a=>f2.bind fun b=>some [a,b] else r).map (·.map g):=by
  subst h
  cases o with
  | none=>rfl
  | some x=>cases x <;> cases f1 <;> cases f2 <;> rfl
theorem jjr (c n m:Str) (d e:Dat):wt (.exn c [(m,e),(n,d)])=(wt (.exn c [(m,.int 8),(n,.int 7)])).map (·.map (g2 d e)):=by
  unfold wt
  simp only [ji0 c [(m,e),(n,d)] [(m,Dat.int 8),(n,Dat.int 7)],jnn _ c n m _ d e]
  refine st2 (st2 (st2 (st2 ?_)))
  generalize wL jH ["Overfull"] (Dat.exn c [(m,.int 8),(n,.int 7)])=o
  generalize zm ["Overfull"] "at_station" (Dat.exn c [(m,.int 8),(n,.int 7)])=f
  generalize zm ["Overfull"] "window" (Dat.exn c [(m,.int 8),(n,.int 7)])=r
  cases o with
  | none=>rfl
  | some x=>cases x <;> cases f <;> cases r <;> rfl
def jnm:Option (List Dat)→Bool
  | some [.int 7,.int 8]=>true
  | _=>false
theorem jlj {o:Option (List Dat)} (h:jnm o=true):o=some [.int 7,.int 8]:=by
  unfold jnm at h
  split at h
  · rfl
  · cases h
def is0:Option (List Dat)→Bool
  | some []=>true
  | _=>false
theorem jmO {o:Option (List Dat)} (h:is0 o=true):o=some []:=by
  unfold is0 at h
  split at h
  · rfl
  · cases h
def ok1 (r:Str×Str×Str×Int):Bool:=is7 (zl (.exn r.1 [(r.2.1,.int 7)])) && decide (vR (.exn r.1 []) r.2.2.1=some true) && decide (Jn (.exn r.1 [])=some [r.2.2.2])
def ok2 (r:Str×Str×Str×Str×Int):Bool:=jnm (wt (.exn r.1 [(r.2.2.1,.int 8),(r.2.1,.int 7)])) && decide (vR (.exn r.1 []) r.2.2.2.1=some true) && decide (Jn (.exn r.1 [])=some [r.2.2.2.2])
def ok3 (r:Str×Str×Int):Bool:=is0 (wt (.exn r.1 [])) && decide (vR (.exn r.1 []) r.2.1=some true) && decide (Jn (.exn r.1 [])=some [r.2.2])
theorem jor:jjp.all ok1=true:=by decide +kernel
theorem jos:jim.all ok2=true:=by decide +kernel
theorem joz:jiP.all ok3=true:=by decide +kernel
end K19
namespace K19
open PySem Mir
def ja1:List Dat:=[eI 0,eI 1,eI (-1),eI 100000000000000000,eB true,eB false,eU (),eS (("" :Str)),eS (("a" :Str)),eS (("2,2/2/1" :Str)),(eL eI) (([]:List Int)),(eL eI) ([1,2]),Dat.tup [],(e2 eI eI) ((0,3)),Dat.dic [],Dat.dic [(.inr "a",(e2 eI (eL eI)) ((1,[0])))]]
theorem jfT (s:Rg):∃ d s',VY s=some (d,s')∧d ∈ ja1:=by
  obtain ⟨v,s',e,h0,h1⟩:=jlg s (n:=16) (by decide) (by decide)
  refine ⟨ja1.getD v.toNat .non,s',?_,?_⟩
  · unfold VY
    rw [bnd,e,bnd]
    show (ixN? ja1 v).bind _=_
    rw [jnP (xs:=ja1) .non h0 (by show v < 16; omega)]
    rfl
  · have l:v.toNat < ja1.length:=by show v.toNat < 16; omega
    rw [List.getD_eq_getElem?_getD,List.getElem?_eq_getElem l]
    exact List.getElem_mem l
def okT (d:Dat):Bool:=match zO d with
  | some z=>decide (z.length≤1000)
  | none=>false
theorem jot:ja1.all okT=true:=by decide +kernel
theorem jlJ {d:Dat} (h:d ∈ ja1):Th d:=by
  have k:=List.all_eq_true.mp jot d h
  unfold okT at k
  cases e:zO d with
  | none=>rw [e] at k; cases k
  | some z=>rw [e] at k; exact ⟨z,e,of_decide_eq_true k⟩
theorem jnE:(ja1.all fun d=>ja1.all fun e=>(zO (.lst [d,e])).isSome)=true:=by decide +kernel
theorem jl6 {d e:Dat} (h:d ∈ ja1) (h2:e ∈ ja1):∃ z,zO ((eL eD) [d,e])=some z:=Option.isSome_iff_exists.mp (List.all_eq_true.mp (List.all_eq_true.mp jnE d h) e h2)
theorem eqs:((List.range 40).all fun k=>decide (eqB ((eL eI) [(k:Int)]) ((eL eI) [(k:Int)])=some true))=true:=by decide +kernel
theorem jkA {k:Int} (h:0≤k∧k < 40):eqB ((eL eI) [k]) ((eL eI) [k])=some true:=by
  have:=of_decide_eq_true (List.all_eq_true.mp eqs k.toNat (List.mem_range.mpr (by omega)))
  rw [Int.toNat_of_nonneg h.1] at this
  exact this
theorem jmu {x1 x2:Dat×Rg} {r:Str×Str×Str×Int} (h:ok1 r=true) (hk:0≤r.2.2.2∧r.2.2.2 < 40) (t1:Th x1.1) (t2:Th x2.1) {s:List (List Int)} (hl:s.length < lim) :
    zQ x1 x2 (.exn r.1 [(r.2.1,x1.1)]) r.2.2.1 (.exn r.1 [(r.2.1,x2.1)]) s=some (.nx (s ++ [[r.2.2.2]])):=by
  unfold ok1 at h
  rw [Bool.and_eq_true,Bool.and_eq_true] at h
  obtain ⟨⟨a,b⟩,c⟩:=h
  have b:=of_decide_eq_true b
  have c:=of_decide_eq_true c
  have a1:zl (.exn r.1 [(r.2.1,x1.1)])=some x1.1:=by rw [jic,jkf a]; rfl
  have a2:zl (.exn r.1 [(r.2.1,x2.1)])=some x2.1:=by rw [jic,jkf a]; rfl
  have b1:vR (.exn r.1 [(r.2.1,x1.1)]) r.2.2.1=some true:=by rw [jjb]; exact b
  have c1:Jn (.exn r.1 [(r.2.1,x1.1)])=some [r.2.2.2]:=by rw [jdb]; exact c
  have c2:Jn (.exn r.1 [(r.2.1,x2.1)])=some [r.2.2.2]:=by rw [jdb]; exact c
  obtain ⟨z1,e1,_⟩:=t1
  obtain ⟨z2,e2,_⟩:=t2
  have ap:jf7 s [r.2.2.2]=some (s ++ [[r.2.2.2]]):=if_pos hl
  unfold zQ
  simp only [a1,a2,b1,c1,c2,e1,e2,ap,jkA hk,eD,bnd,decide_true,Bool.not_true,Bool.false_eq_true,if_false]
theorem jmc {x1 x2:Dat×Rg} {r:Str×Str×Str×Str×Int} (h:ok2 r=true) (hk:0≤r.2.2.2.2∧r.2.2.2.2 < 40) (t:∃ z,zO ((eL eD) [x1.1,x2.1])=some z) {s:List (List Int)} (hl:s.length < lim) :
    wA x1 x2 (.exn r.1 [(r.2.2.1,x2.1),(r.2.1,x1.1)]) (.exn r.1 [(r.2.2.1,x2.1),(r.2.1,x1.1)]) r.2.2.2.1 s=some (.nx (s ++ [[r.2.2.2.2]])):=by
  unfold ok2 at h
  rw [Bool.and_eq_true,Bool.and_eq_true] at h
  obtain ⟨⟨a,b⟩,c⟩:=h
  have b:=of_decide_eq_true b
  have c:=of_decide_eq_true c
  have a1:wt (.exn r.1 [(r.2.2.1,x2.1),(r.2.1,x1.1)])=some [x1.1,x2.1]:=by rw [jjr,jlj a]; rfl
  have b1:vR (.exn r.1 [(r.2.2.1,x2.1),(r.2.1,x1.1)]) r.2.2.2.1=some true:=by rw [jjb]; exact b
  have c1:Jn (.exn r.1 [(r.2.2.1,x2.1),(r.2.1,x1.1)])=some [r.2.2.2.2]:=by rw [jdb]; exact c
  obtain ⟨z,ez⟩:=t
  have ap:jf7 s [r.2.2.2.2]=some (s ++ [[r.2.2.2.2]]):=if_pos hl
  have cu:jiu [x1.1,x2.1] none (some ((([x1.1,x2.1]:List Dat).length:Nat):Int))= [x1.1,x2.1]:=rfl
  unfold wA
  simp only [a1,b1,c1,bnd,cu,ez,ap,jkA hk,decide_true,Bool.not_true,Bool.false_eq_true,if_false]
theorem jmr {x1 x2:Dat×Rg} {r:Str×Str×Int} (h:ok3 r=true) (hk:0≤r.2.2∧r.2.2 < 40) {s:List (List Int)} (hl:s.length < lim) :
    wA x1 x2 (.exn r.1 []) (.exn r.1 []) r.2.1 s=some (.nx (s ++ [[r.2.2]])):=by
  unfold ok3 at h
  rw [Bool.and_eq_true,Bool.and_eq_true] at h
  obtain ⟨⟨a,b⟩,c⟩:=h
  have b:=of_decide_eq_true b
  have c:=of_decide_eq_true c
  have a1:=jmO a
  have ap:jf7 s [r.2.2]=some (s ++ [[r.2.2]]):=if_pos hl
  have cu:jiu [x1.1,x2.1] none (some ((([]:List Dat).length:Nat):Int))= []:=rfl
  obtain ⟨z,ez⟩:∃ z,zO ((eL eD) [])=some z:=Option.isSome_iff_exists.mp (by decide +kernel)
  unfold wA
  simp only [a1,b,c,bnd,cu,ez,ap,jkA hk,decide_true,Bool.not_true,Bool.false_eq_true,if_false]
theorem jgf {ι:Type} {f:ι→List (List Int)→Option (Stp (Bool×Rg) (List (List Int)))} {k:ι→Int}:∀ (xs:List ι) (s:List (List Int)),(∀ x,x ∈ xs→∀ s:List (List Int),s.length < lim→f x s=some (.nx (s ++ [[k x]])))→s.length + xs.length≤lim→
    jjG f xs s=some (.nx (s ++ xs.map fun x=>[k x]))
  | [],s,_,_=>by rw [List.map_nil,List.append_nil]; rfl
  | x :: xs,s,h,hl=>by
    rw [List.length_cons] at hl
    unfold jjG
    rw [h x (List.mem_cons_self ..) s (by omega),bnd]
    dsimp only
    rw [jgf xs _ (fun y hy=>h y (List.mem_cons_of_mem _ hy)) (by rw [List.length_append,List.length_singleton]; omega),List.append_assoc]
    rfl
theorem in1:(jjp.all fun r=>decide (0≤r.2.2.2∧r.2.2.2 < 40))=true:=by decide +kernel
theorem in2:(jim.all fun r=>decide (0≤r.2.2.2.2∧r.2.2.2.2 < 40))=true:=by decide +kernel
theorem in3:(jiP.all fun r=>decide (0≤r.2.2∧r.2.2 < 40))=true:=by decide +kernel
def ks:List (List Int):=(jjp.map fun r=>[r.2.2.2]) ++ ((jim.map fun r=>[r.2.2.2.2]) ++ jiP.map fun r=>[r.2.2])
theorem jhH:jgx ks=some ((WG 0 40).map fun k=>[k]):=by decide +kernel
theorem jfw {ι κ:Type} {g:κ→ι} {f:ι→List (List Int)→Option (Stp (Bool×Rg) (List (List Int)))}:∀ (xs:List κ) (s:List (List Int)),jjG f (xs.map g) s=jjG (fun x=>f (g x)) xs s
  | [],s=>rfl
  | x :: xs,s=>by
    rw [List.map_cons]
    unfold jjG
    congr 1
    funext st
    cases st with
    | nx s'=>exact jfw xs s'
    | _=>rfl
abbrev It:Type:=(Str×Str×Str×Str×Int) ⊕ (Str×Str×Int)
def jij:List It:=jim.map .inl ++ jiP.map .inr
def itD (d e:Dat):It→Dat×Dat×Str
  | .inl r=>(Dat.exn r.1 [(r.2.2.1,e),(r.2.1,d)],Dat.exn r.1 [(r.2.2.1,e),(r.2.1,d)],r.2.2.2.1)
  | .inr r=>(Dat.exn r.1 [],Dat.exn r.1 [],r.2.1)
def itK:It→Int
  | .inl r=>r.2.2.2.2
  | .inr r=>r.2.2
theorem jhm (d e:Dat):more d e=jij.map (itD d e):=by
  unfold more jij
  rw [List.map_append,List.map_map,List.map_map]
  rfl
theorem jjP:(jjp.map fun r=>[r.2.2.2]) ++ jij.map (fun x=>[itK x])=ks:=by
  unfold ks jij
  rw [List.map_append,List.map_map,List.map_map]
  rfl
theorem jiC (s:Rg):∃ s',VB s=some (true,s'):=by
  obtain ⟨d,s1,e1,m1⟩:=jfT s
  obtain ⟨e,s2,e2,m2⟩:=jfT s1
  refine ⟨s2,?_⟩
  have t1:=jlJ m1
  have t2:=jlJ m2
  have zp:List.zip (jjp.map fun r=>((Dat.exn r.1 [(r.2.1,d)],r.2.2.1):Dat×Str)) (jjp.map fun r=>Dat.exn r.1 [(r.2.1,e)])=jjp.map fun r=>((Dat.exn r.1 [(r.2.1,d)],r.2.2.1),Dat.exn r.1 [(r.2.1,e)]):=List.zip_map' ..
  unfold VB
  rw [e1,bnd,e2,bnd,jjZ t1,bnd,jhP t2,bnd,zp,jfw]
  rw [jgf (k:=fun r=>r.2.2.2) jjp [] (fun r hr s hs=>jmu (x1:=(d,s1)) (x2:=(e,s2)) (List.all_eq_true.mp jor r hr) (of_decide_eq_true (List.all_eq_true.mp in1 r hr)) t1 t2 hs) (by decide +kernel)]
  show (jbn d e).bind _=_
  rw [jjN t1 t2,bnd]
  rw [jhm,jfw,List.nil_append]
  unfold jj1
  rw [jgf (k:=itK) jij _ (fun x hx s hs=>by
    rcases List.mem_append.mp hx with h | h
    · obtain ⟨r,hr,rfl⟩:=List.mem_map.mp h
      exact jmc (x1:=(d,s1)) (x2:=(e,s2)) (List.all_eq_true.mp jos r hr) (of_decide_eq_true (List.all_eq_true.mp in2 r hr)) (jl6 m1 m2) hs
    · obtain ⟨r,hr,rfl⟩:=List.mem_map.mp h
      exact jmr (x1:=(d,s1)) (x2:=(e,s2)) (List.all_eq_true.mp joz r hr) (of_decide_eq_true (List.all_eq_true.mp in3 r hr)) hs) (by decide +kernel),bnd]
  dsimp only
  rw [jjP,jhH,bnd,show jbZ 40=some (WG 0 40) from by decide +kernel,bnd,jkB (by decide +kernel),bnd]
  rw [show eqB ((eL (eL eI)) ((WG 0 40).map fun k=>[k])) ((eL (eL eI)) ((WG 0 40).map fun k=>[k]))=some true from by decide +kernel,bnd]
theorem jkY (ns:List Int):jjT ns=some true:=by
  unfold jjT
  rw [show jbZ (max 1 (min 4 (ns.length:Int)))=some (WG 0 (max 1 (min 4 (ns.length:Int)))) from jnO (by omega) (by omega),bnd]
  rw [jlh (F:=fun _=>true) _ (by rw [jhl]; omega) (fun k hk=>by
    rw [jhs] at hk
    rw [show jmn ns k=some (jm0 ns k.toNat) from if_pos ⟨by omega,by omega⟩,bnd]
    obtain ⟨s',e⟩:=jiC (jm0 ns k.toNat)
    rw [e]
    rfl),bnd]
  congr 1
  rw [List.all_map]
  exact List.all_eq_true.mpr fun _ _=>rfl
theorem law_good (ns:List Int):F_law [.dat (.ro (ns.map .int))]= .ok (.bl true) []:=(jne (jkY ns):F_law [.dat ((eR eI) ns)]=jiI true)
end K19
theorem PySem.Challenge.cw_dueways_k19_errors_holds : PySem.Challenge.rw_dueways_k19_errors.Holds :=
  K19.closed fun ns _=>K19.law_good ns
