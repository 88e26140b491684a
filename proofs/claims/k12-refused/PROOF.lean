import PyProof.Rows.All
import Wide.All
import OpenK.AllK
import Wide.FinOn
import HandS.ForMost
import HandS.Exc
import HandS.IsInst
import HandS.RaiseMore
import HandS.FStr
import HandS.Deep
import HandS.SortInts
import HandS.Defaults
import HandS.MakeKw
import HandS.MakeKwOnly
import HandS.Property
import HandS.ExcOwn
import HandS.WordsExc
import HandS.OwnEq
import HandS.Ends
import KE.KStateDown
import HandS.Head0
import HandS.Head1
import HandS.Head2
import HandS.HeadEnd
import HandS.HeadHook1
import HandS.HeadHook2
import HandS.ExcInit
import HandS.ExcField
import KE.KExcIs
import KE.KExcInit
import HandS.ClsMeth
import HandS.Conv
import HandS.Style
import HandS.ExcIs
import HandS.TryOnly
import HandS.Rev
import KE.GoesEnumKw
import HandS.Star
import KE.KCallOwn
import KE.GoesMore
import KE.GoesEnum
import HandS.Flow
import PyProof.DictWalks
import HandS.SetFor
import HandS.Strs
import HandS.DictComp
import HandS.Sort
import HandS.DictTup
import HandS.Spec
import KE.KDictDisplayH
import PySem.Challenge.RW_dueways_k12_invalid_curves_in_sequence
set_option Elab.async false
set_option linter.all false
set_option maxRecDepth 100000
set_option maxHeartbeats 0
/-! MirA: trees of data, the frame of a running def, and how both stand for slots and heap -/
namespace Mir
open PySem L2
inductive Dat where
  | non
  | bl (b : Bool)
  | int (i : Int)
  | str (x : Str)
  | lst (ds : List Dat)
  | tup (ds : List Dat)
  /-- a list of the caller's that is only read: the script -/
  | ro (ds : List Dat)
  | ins (c : Str) (fs : List (Str × Dat))
  | dic (ks : List (Key × Dat))
  /-- a thing that may change, by its number -/
  | ptr (k : Nat)
/-- where the classes stand; within an except suite: the caught exception, its class, its dict -/
structure CM where
  at_ : Str → Addr
  ex : Option (Addr × Str × Addr) := none
  /-- dicts that loops go through: where, and as what they stand -/
  lk : List (Addr × HO) := []
instance : CoeFun CM fun _ => Str → Addr := ⟨CM.at_⟩
abbrev CM.sx (cm : CM) (e : Option (Addr × Str × Addr)) : CM := { cm with ex := e }
abbrev CM.lkx (cm : CM) (l : Addr) (o : HO) : CM := { cm with lk := cm.lk ++ [(l, o)] }
/-- there, and no tuple -/
def Lv : Option HO → Prop
  | none => False
  | some (.tup _) => False
  | some _ => True
theorem Lv.ne {o : Option HO} (h : Lv o) : o ≠ none := fun z => by rw [z] at h; exact h
theorem Lv.nt {o : Option HO} (h : Lv o) (vs : List V) : o ≠ some (.tup vs) := fun z => by rw [z] at h; exact h
theorem Lv.is {o : Option HO} {x : HO} (e : o = some x) (h : Lv (some x)) : Lv o := by rw [e]; exact h
theorem Lv.same {H H' : Hp} (e : ∀ a o, H a = some o → H' a = some o) {a : Addr} (h : Lv (H a)) : Lv (H' a) := by
  cases q : H a with
  | none => rw [q] at h; exact h.elim
  | some o => rw [q] at h; rw [e a o q]; exact h
theorem Lv.upd {H : Hp} {a l : Addr} {o : HO} (h : Lv (H a)) (ho : Lv (some o) := by trivial) : Lv (L2.upd H l o a) := by
  by_cases e : a = l
  · rw [e, upd_same]; exact ho
  · rw [upd_ne e]; exact h
theorem Lv.set {H : Hp} {a l : Addr} {o : HO} (h : Lv (H a)) (ho : Lv (L2.upd H l o l)) : Lv (L2.upd H l o a) := h.upd (by rw [upd_same] at ho; exact ho)
/-- what is hidden, and where the things stand that may change -/
structure Hd where
  as : List Addr
  ρ : List Addr
instance : Membership Addr Hd := ⟨fun M a => a ∈ M.as⟩
instance : HAppend Hd (List Addr) Hd := ⟨fun M l => ⟨M.as ++ l, M.ρ⟩⟩
def Hd.cons (a : Addr) (M : Hd) : Hd := ⟨a :: M.as, M.ρ⟩
instance {M : Hd} {a : Addr} : Decidable (a ∈ M) := inferInstanceAs (Decidable (a ∈ M.as))
theorem Hd.mem_app {M : Hd} {l : List Addr} {a : Addr} : a ∈ M ++ l ↔ a ∈ M ∨ a ∈ l := List.mem_append
theorem Hd.mem_left {M : Hd} {a : Addr} (l : List Addr) (h : a ∈ M) : a ∈ M ++ l := Hd.mem_app.mpr (.inl h)
theorem Hd.mem_right {l : List Addr} {a : Addr} (M : Hd) (h : a ∈ l) : a ∈ M ++ l := Hd.mem_app.mpr (.inr h)
theorem Hd.mem_cons {M : Hd} {a b : Addr} : a ∈ M.cons b ↔ a = b ∨ a ∈ M := List.mem_cons
theorem Hd.app_nil {M : Hd} : M ++ ([] : List Addr) = M := congrArg (fun x => (⟨x, M.ρ⟩ : Hd)) (List.append_nil M.as)
/-- a heap as a def sees it, and where the things stand -/
structure VH where
  h : Hp
  ρ : List Addr
instance : CoeFun VH fun _ => Addr → Option HO := ⟨fun G => G.h⟩
instance : Coe VH Hp := ⟨VH.h⟩
structure Same (G G' : VH) : Prop where
  h : L2.Same G.h G'.h
  r : ∀ (k : Nat) (a : Addr), G.ρ[k]? = some a → G'.ρ[k]? = some a
instance {G G' : VH} : CoeFun (Same G G') fun _ => ∀ a o, G a = some o → G' a = some o := ⟨Same.h⟩
theorem Same.refl (G : VH) : Same G G := ⟨L2.Same.refl _, fun _ _ e => e⟩
theorem Same.trans {A B C : VH} (x : Same A B) (y : Same B C) : Same A C := ⟨x.h.trans y.h, fun k a e => y.r k a (x.r k a e)⟩
mutual
inductive Rp (cm : CM) (K : PySem.W.Frag) (G : VH) : V → Dat → Prop
  | non : Rp cm K G .non .non
  | bl (b : Bool) : Rp cm K G (.bl b) (.bl b)
  | int (i : Int) : Rp cm K G (.int i) (.int i)
  | str (x : Str) : Rp cm K G (.str x) (.str x)
  | lst {a : Addr} {vs : List V} {ds : List Dat} : G a = some (.lst vs) → RpAll cm K G vs ds → Rp cm K G (.ref a) (.lst ds)
  | ro {a : Addr} {vs : List V} {ds : List Dat} : SqL K G a vs → RpAll cm K G vs ds → Rp cm K G (.ref a) (.ro ds)
  | tup {a : Addr} {vs : List V} {ds : List Dat} : SqT K G a vs → RpAll cm K G vs ds → Rp cm K G (.ref a) (.tup ds)
  | ins {a dx : Addr} {c : Str} {gs : List (Str × V)} {fs : List (Str × Dat)} : G a = some (.ins (cm c) dx gs) → RpF cm K G gs fs → Rp cm K G (.ref a) (.ins c fs)
  | dic {a : Addr} {gs : List (Key × V)} {fs : List (Key × Dat)} : G a = some (.dK gs) → RpK cm K G gs fs → Rp cm K G (.ref a) (.dic fs)
  | ptr {a : Addr} {k : Nat} : G.ρ[k]? = some a → Rp cm K G (.ref a) (.ptr k)
inductive RpAll (cm : CM) (K : PySem.W.Frag) (G : VH) : List V → List Dat → Prop
  | nil : RpAll cm K G [] []
  | cons {v : V} {d : Dat} {vs : List V} {ds : List Dat} : Rp cm K G v d → RpAll cm K G vs ds → RpAll cm K G (v :: vs) (d :: ds)
inductive RpF (cm : CM) (K : PySem.W.Frag) (G : VH) : List (Str × V) → List (Str × Dat) → Prop
  | nil : RpF cm K G [] []
  | cons {f : Str} {v : V} {d : Dat} {gs : List (Str × V)} {fs : List (Str × Dat)} : Rp cm K G v d → RpF cm K G gs fs → RpF cm K G ((f, v) :: gs) ((f, d) :: fs)
inductive RpK (cm : CM) (K : PySem.W.Frag) (G : VH) : List (Key × V) → List (Key × Dat) → Prop
  | nil : RpK cm K G [] []
  | cons {f : Key} {v : V} {d : Dat} {gs : List (Key × V)} {fs : List (Key × Dat)} : Rp cm K G v d → RpK cm K G gs fs → RpK cm K G ((f, v) :: gs) ((f, d) :: fs)
end
theorem sqT_same {K : PySem.W.Frag} {H H' : Hp} {a : Addr} {xs : List V} (e : L2.Same H H') (h : SqT K H a xs) : SqT K H' a xs := by
  rcases h with (h | ⟨o, h⟩) | h
  · exact .inl (.inl (e _ _ h))
  · exact .inl (.inr ⟨o, e _ _ h⟩)
  · exact .inr h
section
variable {cm : CM} {K : PySem.W.Frag} {G G' : VH}
mutual
theorem Rp.mono (e : Same G G') : ∀ {v : V} {d : Dat}, Rp cm K G v d → Rp cm K G' v d
  | _, _, .non => .non
  | _, _, .bl b => .bl b
  | _, _, .int i => .int i
  | _, _, .str x => .str x
  | _, _, .lst s r => .lst (e _ _ s) (RpAll.mono e r)
  | _, _, .ro s r => .ro (e.h.seq s) (RpAll.mono e r)
  | _, _, .tup s r => .tup (sqT_same e.h s) (RpAll.mono e r)
  | _, _, .ins s r => .ins (e _ _ s) (RpF.mono e r)
  | _, _, .dic s r => .dic (e _ _ s) (RpK.mono e r)
  | _, _, .ptr q => .ptr (e.r _ _ q)
theorem RpAll.mono (e : Same G G') : ∀ {vs : List V} {ds : List Dat}, RpAll cm K G vs ds → RpAll cm K G' vs ds
  | _, _, .nil => .nil
  | _, _, .cons a b => .cons (Rp.mono e a) (RpAll.mono e b)
theorem RpF.mono (e : Same G G') : ∀ {vs : List (Str × V)} {ds : List (Str × Dat)}, RpF cm K G vs ds → RpF cm K G' vs ds
  | _, _, .nil => .nil
  | _, _, .cons a b => .cons (Rp.mono e a) (RpF.mono e b)
theorem RpK.mono (e : Same G G') : ∀ {vs : List (Key × V)} {ds : List (Key × Dat)}, RpK cm K G vs ds → RpK cm K G' vs ds
  | _, _, .nil => .nil
  | _, _, .cons a b => .cons (Rp.mono e a) (RpK.mono e b)
end
theorem RpAll.length : ∀ {vs : List V} {ds : List Dat}, RpAll cm K G vs ds → vs.length = ds.length
  | _, _, .nil => rfl
  | _, _, .cons _ b => congrArg Nat.succ (RpAll.length b)
theorem RpAll.get : ∀ {vs : List V} {ds : List Dat}, RpAll cm K G vs ds → ∀ {i : Nat} {d : Dat}, ds[i]? = some d → ∃ v, vs[i]? = some v ∧ Rp cm K G v d
  | _, _, .nil, i, d, e => by simp at e
  | _, _, .cons a b, 0, d, e => ⟨_, rfl, by simp at e; rw [← e]; exact a⟩
  | _, _, .cons a b, i + 1, d, e => RpAll.get b (i := i) (by simpa using e)
theorem RpAll.get' : ∀ {vs : List V} {ds : List Dat}, RpAll cm K G vs ds → ∀ {i : Nat} {v : V}, vs[i]? = some v → ∃ d, ds[i]? = some d ∧ Rp cm K G v d
  | _, _, .nil, i, d, e => by simp at e
  | _, _, .cons a b, 0, d, e => ⟨_, rfl, by simp at e; rw [← e]; exact a⟩
  | _, _, .cons a b, i + 1, d, e => RpAll.get' b (i := i) (by simpa using e)
theorem RpAll.append : ∀ {vs : List V} {ds : List Dat} {us : List V} {es : List Dat}, RpAll cm K G vs ds → RpAll cm K G us es → RpAll cm K G (vs ++ us) (ds ++ es)
  | _, _, _, _, .nil, r => r
  | _, _, _, _, .cons a b, r => .cons a (RpAll.append b r)
theorem RpAll.set {v : V} {d : Dat} (r : Rp cm K G v d) : ∀ {vs : List V} {ds : List Dat} (i : Nat), RpAll cm K G vs ds → RpAll cm K G (vs.set i v) (ds.set i d)
  | _, _, _, .nil => .nil
  | _, _, 0, .cons _ b => .cons r b
  | _, _, i + 1, .cons a b => .cons a (RpAll.set r i b)
theorem RpAll.take : ∀ {vs : List V} {ds : List Dat} (i : Nat), RpAll cm K G vs ds → RpAll cm K G (vs.take i) (ds.take i)
  | _, _, 0, _ => .nil
  | _, _, _ + 1, .nil => .nil
  | _, _, i + 1, .cons a b => .cons a (RpAll.take i b)
theorem RpAll.drop : ∀ {vs : List V} {ds : List Dat} (i : Nat), RpAll cm K G vs ds → RpAll cm K G (vs.drop i) (ds.drop i)
  | _, _, 0, r => r
  | _, _, _ + 1, .nil => .nil
  | _, _, i + 1, .cons a b => RpAll.drop i b
theorem RpF.lookup : ∀ {gs : List (Str × V)} {fs : List (Str × Dat)}, RpF cm K G gs fs → ∀ {f : Str} {d : Dat}, fs.lookup f = some d → ∃ v, gs.lookup f = some v ∧ Rp cm K G v d
  | _, _, .nil, f, d, e => by cases e
  | _, _, .cons (f := g) (v := v) (d := d') (gs := gs) (fs := fs) a b, f, d, e => by
    simp only [List.lookup] at e ⊢
    cases h : (f == g) with
    | true => rw [h] at e; cases e; exact ⟨v, rfl, a⟩
    | false => rw [h] at e; exact RpF.lookup b e
theorem RpF.length : ∀ {gs : List (Str × V)} {fs : List (Str × Dat)}, RpF cm K G gs fs → gs.length = fs.length
  | _, _, .nil => rfl
  | _, _, .cons _ b => congrArg Nat.succ (RpF.length b)
end
/-- a field stored, in the trees -/
def putD (f : Str) (d : Dat) : List (Str × Dat) → List (Str × Dat)
  | [] => [(f, d)]
  | (g, e) :: r => if g = f then (g, d) :: r else (g, e) :: putD f d r
theorem RpF.put {cm : CM} {K : PySem.W.Frag} {G : VH} {f : Str} {v : V} {d : Dat} (r : Rp cm K G v d) : ∀ {gs : List (Str × V)} {fs : List (Str × Dat)}, RpF cm K G gs fs → RpF cm K G (putF f v gs) (putD f d fs)
  | _, _, .nil => .cons r .nil
  | _, _, .cons (f := g) a b => by
    unfold putF putD
    by_cases h : g = f
    · rw [if_pos h, if_pos h]
      first
        | exact .cons r b
        | (subst h; exact .cons r b)
    · rw [if_neg h, if_neg h]
      exact .cons a (RpF.put r b)
/-! ### what is hidden -/
def hid (M : Hd) (H : Hp) : VH := ⟨fun a => if a ∈ M then none else H a, M.ρ⟩
theorem hid_in {M : Hd} {H : Hp} {a : Addr} (h : a ∈ M) : hid M H a = none := if_pos h
theorem hid_out {M : Hd} {H : Hp} {a : Addr} (h : a ∉ M) : hid M H a = H a := if_neg h
theorem hid_le {M : Hd} {H : Hp} : L2.Same (hid M H) H := fun a o e => by
  by_cases h : a ∈ M
  · rw [hid_in h] at e; cases e
  · rw [hid_out h] at e; exact e
theorem hid_le' {M : Hd} {H : Hp} : Same (hid M H) ⟨H, M.ρ⟩ := ⟨hid_le, fun _ _ e => e⟩
theorem hid_same {M : Hd} {H H' : Hp} (s : ∀ a o, a ∉ M → H a = some o → H' a = some o) : Same (hid M H) (hid M H') := ⟨fun a o e => by
  by_cases h : a ∈ M
  · rw [hid_in h] at e; cases e
  · rw [hid_out h] at e ⊢; exact s a o h e, fun _ _ e => e⟩
theorem hid_to {M M' : Hd} {H H' : Hp} (s : ∀ a o, a ∉ M → H a = some o → a ∉ M' ∧ H' a = some o) (r : ∀ (k : Nat) (a : Addr), M.ρ[k]? = some a → M'.ρ[k]? = some a) : Same (hid M H) (hid M' H') := ⟨fun a o e => by
  by_cases h : a ∈ M
  · rw [hid_in h] at e; cases e
  · rw [hid_out h] at e
    obtain ⟨x, y⟩ := s a o h e
    rw [hid_out x]; exact y, r⟩
theorem hid_sub {M M' : Hd} {H : Hp} (s : ∀ a, a ∈ M' → a ∈ M) (r : M.ρ = M'.ρ := by rfl) : Same (hid M H) (hid M' H) := ⟨fun a o e => by
  by_cases h : a ∈ M
  · rw [hid_in h] at e; cases e
  · rw [hid_out h] at e
    rw [hid_out fun z => h (s a z)]; exact e, fun k a e => by rw [show (hid M' H).ρ = M'.ρ from rfl, ← r]; exact e⟩
theorem hid_upd {M : Hd} {H : Hp} {a : Addr} {o : HO} (h : a ∈ M) : hid M (upd H a o) = hid M H := by
  have e : (hid M (upd H a o)).h = (hid M H).h := by
    funext b
    by_cases hb : b ∈ M
    · rw [hid_in hb, hid_in hb]
    · rw [hid_out hb, hid_out hb, upd_ne (a := a) (b := b) (fun z => hb (by rw [z]; exact h))]
  show (⟨(hid M (upd H a o)).h, M.ρ⟩ : VH) = ⟨(hid M H).h, M.ρ⟩
  rw [e]
theorem same_new {H : Hp} {p : Addr} {o : HO} (h : H p = none) : L2.Same H (upd H p o) := fun b x e => by
  rw [upd_ne (ne_of_none e h)]; exact e
/-! ### slots -/
inductive Own where
  | lst (ds : List Dat)
  | obj (c : Str) (fs : List (Str × Dat))
  | dic (ks : List (Key × Dat))
  /-- a dict whose keys are tuples -/
  | dit (ks : List (List Key × Dat))
  /-- a dict that a loop goes through -/
  | gone (n : Nat)
/-- the things that may change, by their numbers -/
abbrev Ths := List Own
inductive Slot where
  | no
  | dat (d : Dat)
  /-- a list of the def's own making -/
  | loc (ds : List Dat)
  /-- what the j-th lent parameter holds -/
  | own (j : Nat) (o : Own)
  /-- a caught exception -/
  | exn (c : Str) (fs : List (Str × Dat))
  /-- all things: a slot of its own, behind the names -/
  | heap (T : Ths)
abbrev Sg := List Slot
def Slot.isLoc : Slot → Bool
  | .loc _ => true
  | _ => false
def locs : Sg → St → List Addr
  | .loc _ :: S, some (.ref l) :: σ => l :: locs S σ
  | _ :: S, _ :: σ => locs S σ
  | _, _ => []
def owns : Sg → List Nat
  | .own j _ :: S => j :: owns S
  | _ :: S => owns S
  | [] => []
/-- what stays in a frame: the heap at its entry H0, the addresses lent to it A0 (behind them those of the things), hidden by its callers N0; hidden for a while, as they stand: T; im: it has the things -/
structure Fb where
  cm : CM
  K : PySem.W.Frag
  H0 : Hp
  A0 : List Addr
  N0 : Hd
  T : List (Addr × HO) := []
  im : Bool := false
/-- the frame of a running def: M hidden now, and the things -/
structure Fm extends Fb where
  M : Hd
/-- a frame goes on -/
def Fm.to (F F' : Fm) : Prop := F'.toFb = F.toFb ∧ (F.im = false → F'.M = F.M)
theorem Fm.rf (F : Fm) : F.to F := ⟨rfl, fun _ => rfl⟩
theorem Fm.to.trans {A B C : Fm} (x : A.to B) (y : B.to C) : A.to C := ⟨y.1.trans x.1, fun z => (y.2 (by rw [x.1]; exact z)).trans (x.2 z)⟩
theorem Fm.to.cm {A B : Fm} (x : A.to B) : B.cm = A.cm := congrArg Fb.cm x.1
theorem Fm.to.K {A B : Fm} (x : A.to B) : B.K = A.K := congrArg Fb.K x.1
theorem Fm.to.H0 {A B : Fm} (x : A.to B) : B.H0 = A.H0 := congrArg Fb.H0 x.1
theorem Fm.to.A0 {A B : Fm} (x : A.to B) : B.A0 = A.A0 := congrArg Fb.A0 x.1
theorem Fm.to.N0 {A B : Fm} (x : A.to B) : B.N0 = A.N0 := congrArg Fb.N0 x.1
theorem Fm.to.T {A B : Fm} (x : A.to B) : B.T = A.T := congrArg Fb.T x.1
theorem Fm.to.im {A B : Fm} (x : A.to B) : B.im = A.im := congrArg Fb.im x.1
def vis (F : Fm) (S : Sg) (σ : St) (H : Hp) : VH := hid (F.M ++ locs S σ) H
inductive RpT (cm : CM) (K : PySem.W.Frag) (G : VH) : List (List Key × V) → List (List Key × Dat) → Prop
  | nil : RpT cm K G [] []
  | cons {f : List Key} {v : V} {d : Dat} {gs : List (List Key × V)} {fs : List (List Key × Dat)} : Rp cm K G v d → RpT cm K G gs fs → RpT cm K G ((f, v) :: gs) ((f, d) :: fs)
theorem RpT.mono {cm : CM} {K : PySem.W.Frag} {G G' : VH} (e : Same G G') : ∀ {vs : List (List Key × V)} {ds : List (List Key × Dat)}, RpT cm K G vs ds → RpT cm K G' vs ds
  | _, _, .nil => .nil
  | _, _, .cons a b => .cons (Rp.mono e a) (RpT.mono e b)
inductive OwnOk (cm : CM) (K : PySem.W.Frag) (G : VH) (H : Hp) (l : Addr) : Own → Prop
  | lst {vs : List V} {ds : List Dat} : H l = some (.lst vs) → RpAll cm K G vs ds → OwnOk cm K G H l (.lst ds)
  | obj {c : Str} {dx : Addr} {gs : List (Str × V)} {fs : List (Str × Dat)} : H l = some (.ins (cm c) dx gs) → RpF cm K G gs fs → OwnOk cm K G H l (.obj c fs)
  | dic {gs : List (Key × V)} {ks : List (Key × Dat)} : H l = some (.dK gs) → RpK cm K G gs ks → OwnOk cm K G H l (.dic ks)
  | dit {gs : List (List Key × V)} {ks : List (List Key × Dat)} : H l = some (.dT gs) → RpT cm K G gs ks → OwnOk cm K G H l (.dit ks)
  | gone {n : Nat} {od : Obj} {u : HO} : cm.lk[n]? = some (l, .frz od u) → H l = some (.frz od u) → ((∃ gs, u = .dT gs) ∨ ∃ gs, u = .dK gs) → OwnOk cm K G H l (.gone n)
inductive SlotOk (F : Fm) (G : VH) (H : Hp) : Slot → Option V → Prop
  | no {v : Option V} : SlotOk F G H .no v
  | dat {d : Dat} {v : V} : Rp F.cm F.K G v d → SlotOk F G H (.dat d) (some v)
  | loc {ds : List Dat} {l : Addr} {vs : List V} : H l = some (.lst vs) → RpAll F.cm F.K G vs ds → SlotOk F G H (.loc ds) (some (.ref l))
  | own {j : Nat} {o : Own} {l : Addr} : F.A0[j]? = some l → OwnOk F.cm F.K G H l o → SlotOk F G H (.own j o) (some (.ref l))
  | exn {c : Str} {fs : List (Str × Dat)} {a dd : Addr} {gs : List (Str × V)} : F.cm.ex = some (a, c, dd) → G dd = some (.xd gs) → RpF F.cm F.K G gs fs → SlotOk F G H (.exn c fs) (some (.ref a))
  | heap {T : Ths} {v : Option V} : T.length = F.M.ρ.length → (∀ (k : Nat) (o : Own), T[k]? = some o → ∃ l, F.M.ρ[k]? = some l ∧ l ∈ F.M ∧ OwnOk F.cm F.K G H l o) → SlotOk F G H (.heap T) v
/-- what a slot holds that others must not change -/
def Slot.holds (F : Fm) : Slot → Option V → Addr → Prop
  | .loc _, v, l => v = some (.ref l)
  | .own _ _, v, l => v = some (.ref l)
  | .heap T, _, l => ∃ (k : Nat) (o : Own), T[k]? = some o ∧ F.M.ρ[k]? = some l
  | _, _, _ => False
/-- about the things, beside what they hold -/
structure HpOk (F : Fm) (S : Sg) (H : Hp) : Prop where
  one : ∀ (i j : Nat) (T U : Ths), S[i]? = some (.heap T) → S[j]? = some (.heap U) → i = j
  him : ∀ (i : Nat) (T : Ths), S[i]? = some (.heap T) → F.im = true
  thl : ∀ (i : Nat) (T : Ths) (k : Nat) (o : Own) (l : Addr), S[i]? = some (.heap T) → T[k]? = some o → F.M.ρ[k]? = some l → (l ∈ F.A0 ∨ F.H0 l = none) ∧ (∀ p, p ∈ F.T → p.1 ≠ l) ∧ ∀ (j m : Nat) (u : Own), S[j]? = some (.own m u) → F.A0[m]? ≠ some l
  lnd : ∀ (i : Nat) (T : Ths) (k n : Nat) (o u : Own) (l : Addr), S[i]? = some (.heap T) → T[k]? = some o → T[n]? = some u → F.M.ρ[k]? = some l → F.M.ρ[n]? = some l → k = n
  thn : ∀ (i : Nat) (T : Ths) (k : Nat) (o : Own) (l : Addr), S[i]? = some (.heap T) → T[k]? = some o → F.M.ρ[k]? = some l → F.N0.ρ.length ≤ k → F.H0 l = none
  n0 : ∀ a, a ∈ F.N0 → a ∈ F.M
  nr : ∃ r, F.M.ρ = F.N0.ρ ++ r
structure Rel (F : Fm) (S : Sg) (σ : St) (H : Hp) : Prop where
  len : S.length = σ.length
  sl : ∀ (i : Nat) (s : Slot) (v : Option V), S[i]? = some s → σ[i]? = some v → SlotOk F (vis F S σ H) H s v
  nd : (locs S σ).Nodup
  new : ∀ l, l ∈ locs S σ → F.H0 l = none
  ond : (owns S).Nodup
  and_ : F.A0.Nodup
  ain : ∀ a, a ∈ F.A0 → a ∈ F.M
  liv : ∀ a, a ∈ F.M → Lv (H a)
  lom : ∀ l, l ∈ locs S σ → l ∉ F.M
  tmp : ∀ p, p ∈ F.T → H p.1 = some p.2 ∧ p.1 ∈ F.M ∧ p.1 ∉ F.A0
  keep : ∀ a o, F.H0 a = some o → a ∉ F.A0 → H a = some o
  hp : HpOk F S H
theorem HpOk.of {F : Fm} {S S' : Sg} {H H' : Hp} (x : HpOk F S H) (h1 : ∀ (i : Nat) (T : Ths), S'[i]? = some (.heap T) → S[i]? = some (.heap T)) (h2 : ∀ (j m : Nat) (u : Own), S'[j]? = some (.own m u) → ∃ u', S[j]? = some (.own m u')) (h3 : ∀ a, H a ≠ none → H' a ≠ none) : HpOk F S' H' where
  one := fun i j T U a b => x.one i j T U (h1 _ _ a) (h1 _ _ b)
  him := fun i T a => x.him i T (h1 _ _ a)
  thl := fun i T k o l a b c => by
    obtain ⟨p, q, r⟩ := x.thl i T k o l (h1 _ _ a) b c
    exact ⟨p, q, fun j m u z => by obtain ⟨u', z'⟩ := h2 j m u z; exact r j m u' z'⟩
  lnd := fun i T k n o u l a => x.lnd i T k n o u l (h1 _ _ a)
  thn := fun i T k o l a => x.thn i T k o l (h1 _ _ a)
  n0 := x.n0
  nr := x.nr
theorem OwnOk.mono {cm : CM} {K : PySem.W.Frag} {G G' : VH} {H H' : Hp} {l : Addr} {o : Own} (g : Same G G') (h : ∀ x, H l = some x → H' l = some x) (x : OwnOk cm K G H l o) : OwnOk cm K G' H' l o := by
  cases x with
  | lst e r => exact .lst (h _ e) (r.mono g)
  | obj e r => exact .obj (h _ e) (r.mono g)
  | dic e r => exact .dic (h _ e) (r.mono g)
  | dit e r => exact .dit (h _ e) (r.mono g)
  | gone e q v => exact .gone e (h _ q) v
theorem OwnOk.lv {cm : CM} {K : PySem.W.Frag} {G : VH} {H : Hp} {l : Addr} {o : Own} (x : OwnOk cm K G H l o) : Lv (H l) := by
  cases x with
  | lst e r => rw [e]; exact trivial
  | obj e r => rw [e]; exact trivial
  | dic e r => rw [e]; exact trivial
  | dit e r => rw [e]; exact trivial
  | gone e q v => rw [q]; exact trivial
theorem OwnOk.live {cm : CM} {K : PySem.W.Frag} {G : VH} {H : Hp} {l : Addr} {o : Own} (x : OwnOk cm K G H l o) : H l ≠ none := x.lv.ne
theorem SlotOk.mono {F : Fm} {G G' : VH} {H H' : Hp} {s : Slot} {v : Option V} (g : Same G G') (h : ∀ l x, s.holds F v l → H l = some x → H' l = some x) (x : SlotOk F G H s v) : SlotOk F G' H' s v := by
  cases x with
  | no => exact .no
  | dat r => exact .dat (r.mono g)
  | loc e r => exact .loc (h _ _ rfl e) (r.mono g)
  | own e o => exact .own e (o.mono g fun x q => h _ x rfl q)
  | exn e q r => exact .exn e (g _ _ q) (r.mono g)
  | heap e f =>
    exact .heap e fun k o hk => by
      obtain ⟨l, a, b, c⟩ := f k o hk
      exact ⟨l, a, b, c.mono g fun x q => h l x ⟨k, o, hk, a⟩ q⟩
/-- the same slot in a frame with the same things -/
theorem SlotOk.in {F F' : Fm} {G : VH} {H : Hp} {s : Slot} {v : Option V} (e1 : F'.cm = F.cm) (e2 : F'.K = F.K) (e3 : F'.A0 = F.A0) (e4 : F'.M.ρ = F.M.ρ) (e5 : ∀ l, s.holds F v l → l ∈ F.M → l ∈ F'.M) (x : SlotOk F G H s v) : SlotOk F' G H s v := by
  cases x with
  | no => exact .no
  | dat r => exact .dat (by rw [e1, e2]; exact r)
  | loc e r => exact .loc e (by rw [e1, e2]; exact r)
  | own e o => exact .own (by rw [e3]; exact e) (by rw [e1, e2]; exact o)
  | exn e q r => exact .exn (by rw [e1]; exact e) q (by rw [e1, e2]; exact r)
  | heap e f =>
    exact .heap (by rw [e4]; exact e) fun k o hk => by
      obtain ⟨l, a, b, c⟩ := f k o hk
      exact ⟨l, by rw [e4]; exact a, e5 l ⟨k, o, hk, a⟩ b, by rw [e1, e2]; exact c⟩
theorem mem_locs : ∀ {S : Sg} {σ : St} {l : Addr}, l ∈ locs S σ ↔ ∃ (i : Nat) (ds : List Dat), S[i]? = some (Slot.loc ds) ∧ σ[i]? = some (some (V.ref l))
  | [], σ, l => by simp [locs]
  | s :: S, [], l => by
    have : locs (s :: S) [] = [] := by cases s <;> rfl
    simp [this]
  | s :: S, v :: σ, l => by
    constructor
    · intro h
      have hh : (∃ ds, s = .loc ds ∧ v = some (.ref l)) ∨ l ∈ locs S σ := by
        cases s with
        | loc ds =>
          cases v with
          | none => exact .inr h
          | some v =>
            cases v with
            | ref a =>
              rcases List.mem_cons.mp (show l ∈ a :: locs S σ from h) with e | e
              · exact .inl ⟨ds, rfl, by rw [e]⟩
              · exact .inr e
            | _ => exact .inr h
        | _ => exact .inr (by simpa [locs] using h)
      rcases hh with ⟨ds, rfl, rfl⟩ | h
      · exact ⟨0, ds, rfl, rfl⟩
      · obtain ⟨i, ds, a, b⟩ := mem_locs.mp h
        exact ⟨i + 1, ds, by simpa using a, by simpa using b⟩
    · rintro ⟨i, ds, a, b⟩
      cases i with
      | zero =>
        simp at a b
        subst a; subst b
        exact List.mem_cons_self ..
      | succ i =>
        have h : l ∈ locs S σ := mem_locs.mpr ⟨i, ds, by simpa using a, by simpa using b⟩
        cases s with
        | loc ds =>
          cases v with
          | none => exact h
          | some v =>
            cases v with
            | ref a => exact List.mem_cons_of_mem _ h
            | _ => exact h
        | _ => simpa [locs] using h
/-- one slot changed to what is no list of one's own -/
theorem locs_set_sub : ∀ {S : Sg} {σ : St} {i : Nat} {s : Slot} {v : Option V}, s.isLoc = false → List.Sublist (locs (S.set i s) (σ.set i v)) (locs S σ)
  | [], σ, i, s, v, h => by simp [locs]
  | a :: S, [], i, s, v, h => by
    have : ∀ T : Sg, locs T [] = [] := fun T => by cases T with
      | nil => rfl
      | cons x r => cases x <;> rfl
    simp [this]
  | a :: S, b :: σ, 0, s, v, h => by
    have e : locs ((a :: S).set 0 s) ((b :: σ).set 0 v) = locs S σ := by
      cases s with
      | loc ds => cases h
      | _ => simp [locs]
    rw [e]
    cases a with
    | loc ds =>
      cases b with
      | none => simp [locs]
      | some b =>
        cases b with
        | ref l => exact List.sublist_cons_self _ _
        | _ => simp [locs]
    | _ => simp [locs]
  | a :: S, b :: σ, i + 1, s, v, h => by
    have ih := locs_set_sub (S := S) (σ := σ) (i := i) (s := s) (v := v) h
    show List.Sublist (locs (a :: S.set i s) (b :: σ.set i v)) (locs (a :: S) (b :: σ))
    cases a with
    | loc ds =>
      cases b with
      | none => simpa [locs] using ih
      | some b =>
        cases b with
        | ref l => exact ih.cons_cons l
        | _ => simpa [locs] using ih
    | _ => simpa [locs] using ih
/-- the same list, other items -/
theorem locs_set_same : ∀ {S : Sg} {σ : St} {i : Nat} {ds es : List Dat}, S[i]? = some (.loc ds) → locs (S.set i (.loc es)) σ = locs S σ
  | [], σ, i, ds, es, h => by simp at h
  | a :: S, [], i, ds, es, h => by
    have : ∀ T : Sg, locs T [] = [] := fun T => by cases T with
      | nil => rfl
      | cons x r => cases x <;> rfl
    simp [this]
  | a :: S, b :: σ, 0, ds, es, h => by
    simp at h
    subst h
    cases b with
    | none => rfl
    | some b => cases b <;> rfl
  | a :: S, b :: σ, i + 1, ds, es, h => by
    have ih := locs_set_same (S := S) (σ := σ) (i := i) (ds := ds) (es := es) (by simpa using h)
    show locs (a :: S.set i _) (b :: σ) = locs (a :: S) (b :: σ)
    cases a with
    | loc ds =>
      cases b with
      | none => simpa [locs] using ih
      | some b =>
        cases b with
        | ref l => simp [locs, ih]
        | _ => simpa [locs] using ih
    | _ => simpa [locs] using ih
/-- a new list -/
theorem locs_set_new : ∀ {S : Sg} {σ : St} {i : Nat} {ds : List Dat} {p : Addr}, (locs S σ).Nodup → p ∉ locs S σ → (locs (S.set i (.loc ds)) (σ.set i (some (.ref p)))).Nodup ∧ ∀ l, l ∈ locs (S.set i (.loc ds)) (σ.set i (some (.ref p))) → l = p ∨ l ∈ locs S σ
  | [], σ, i, ds, p, h, hp => by simp [locs]
  | a :: S, [], i, ds, p, h, hp => by
    have : ∀ T : Sg, locs T [] = [] := fun T => by cases T with
      | nil => rfl
      | cons x r => cases x <;> rfl
    simp [this]
  | a :: S, b :: σ, 0, ds, p, h, hp => by
    show (p :: locs S σ).Nodup ∧ ∀ l, l ∈ p :: locs S σ → l = p ∨ l ∈ locs (a :: S) (b :: σ)
    have sub : List.Sublist (locs S σ) (locs (a :: S) (b :: σ)) := by
      cases a with
      | loc ds =>
        cases b with
        | none => simp [locs]
        | some b =>
          cases b with
          | ref l => exact List.sublist_cons_self _ _
          | _ => simp [locs]
      | _ => simp [locs]
    exact ⟨List.nodup_cons.mpr ⟨fun z => hp (sub.subset z), h.sublist sub⟩, fun l hl => (List.mem_cons.mp hl).imp id fun z => sub.subset z⟩
  | a :: S, b :: σ, i + 1, ds, p, h, hp => by
    show (locs (a :: S.set i _) (b :: σ.set i _)).Nodup ∧ ∀ l, l ∈ locs (a :: S.set i _) (b :: σ.set i _) → l = p ∨ l ∈ locs (a :: S) (b :: σ)
    have plain : locs (a :: S) (b :: σ) = locs S σ → (locs (a :: S.set i (.loc ds)) (b :: σ.set i (some (.ref p))) = locs (S.set i (.loc ds)) (σ.set i (some (.ref p)))) →
        (locs (a :: S.set i (.loc ds)) (b :: σ.set i (some (.ref p)))).Nodup ∧ ∀ l, l ∈ locs (a :: S.set i (.loc ds)) (b :: σ.set i (some (.ref p))) → l = p ∨ l ∈ locs (a :: S) (b :: σ) := fun e1 e2 => by
      rw [e2, e1]
      exact locs_set_new (by rw [← e1]; exact h) (by rw [← e1]; exact hp)
    cases a with
    | loc es =>
      cases b with
      | none => exact plain rfl rfl
      | some b =>
        cases b with
        | ref l =>
          have h' : (l :: locs S σ).Nodup := h
          have hp' : p ∉ l :: locs S σ := hp
          obtain ⟨n1, n2⟩ := List.nodup_cons.mp h'
          obtain ⟨r1, r2⟩ := locs_set_new (S := S) (σ := σ) (i := i) (ds := ds) n2 fun z => hp' (List.mem_cons_of_mem _ z)
          show (l :: locs (S.set i _) (σ.set i _)).Nodup ∧ ∀ x, x ∈ l :: locs (S.set i _) (σ.set i _) → x = p ∨ x ∈ l :: locs S σ
          refine ⟨List.nodup_cons.mpr ⟨fun z => ?_, r1⟩, fun x hx => ?_⟩
          · rcases r2 l z with e | e
            · exact hp' (by rw [e]; exact List.mem_cons_self ..)
            · exact n1 e
          · rcases List.mem_cons.mp hx with e | e
            · exact .inr (by rw [e]; exact List.mem_cons_self ..)
            · exact (r2 x e).imp id fun z => List.mem_cons_of_mem _ z
        | _ => exact plain rfl rfl
    | _ => exact plain rfl rfl
/-- a list that is given away -/
theorem locs_set_gone : ∀ {S : Sg} {σ : St} {i : Nat} {ds : List Dat} {l : Addr} {s : Slot}, (locs S σ).Nodup → S[i]? = some (.loc ds) → σ[i]? = some (some (.ref l)) → s.isLoc = false → l ∉ locs (S.set i s) σ
  | [], σ, i, ds, l, s, h, h1, h2, h3 => by simp at h1
  | a :: S, [], i, ds, l, s, h, h1, h2, h3 => by simp at h2
  | a :: S, b :: σ, 0, ds, l, s, h, h1, h2, h3 => by
    simp at h1 h2
    subst h1; subst h2
    have e : locs ((Slot.loc ds :: S).set 0 s) (some (V.ref l) :: σ) = locs S σ := by
      cases s with
      | loc ds => cases h3
      | _ => simp [locs]
    rw [e]
    exact (List.nodup_cons.mp (show (l :: locs S σ).Nodup from h)).1
  | a :: S, b :: σ, i + 1, ds, l, s, h, h1, h2, h3 => by
    show l ∉ locs (a :: S.set i s) (b :: σ)
    have h1' : S[i]? = some (.loc ds) := by simpa using h1
    have h2' : σ[i]? = some (some (.ref l)) := by simpa using h2
    have hin : l ∈ locs S σ := mem_locs.mpr ⟨i, ds, h1', h2'⟩
    cases a with
    | loc es =>
      cases b with
      | none =>
        have := locs_set_gone (S := S) (σ := σ) (s := s) h h1' h2' h3
        simpa [locs] using this
      | some b =>
        cases b with
        | ref x =>
          have h' : (x :: locs S σ).Nodup := h
          obtain ⟨n1, n2⟩ := List.nodup_cons.mp h'
          have := locs_set_gone (S := S) (σ := σ) (s := s) n2 h1' h2' h3
          intro z
          rcases List.mem_cons.mp (show l ∈ x :: locs (S.set i s) σ from z) with e | e
          · exact n1 (by rw [← e]; exact hin)
          · exact this e
        | _ =>
          have := locs_set_gone (S := S) (σ := σ) (s := s) h h1' h2' h3
          simpa [locs] using this
    | _ =>
      have := locs_set_gone (S := S) (σ := σ) (s := s) (by simpa [locs] using h) h1' h2' h3
      simpa [locs] using this
theorem owns_set_sub : ∀ {S : Sg} {i : Nat} {s : Slot}, (∀ j o, s ≠ .own j o) → List.Sublist (owns (S.set i s)) (owns S)
  | [], i, s, h => by simp [owns]
  | a :: S, 0, s, h => by
    have e : owns ((a :: S).set 0 s) = owns S := by
      cases s with
      | own j o => exact absurd rfl (h j o)
      | _ => simp [owns]
    rw [e]
    cases a with
    | own j o => exact List.sublist_cons_self _ _
    | _ => simp [owns]
  | a :: S, i + 1, s, h => by
    have ih := owns_set_sub (S := S) (i := i) (s := s) h
    show List.Sublist (owns (a :: S.set i s)) (owns (a :: S))
    cases a with
    | own j o => exact ih.cons_cons j
    | _ => simpa [owns] using ih
theorem owns_set_same : ∀ {S : Sg} {i j : Nat} {o u : Own}, S[i]? = some (.own j o) → owns (S.set i (.own j u)) = owns S
  | [], i, j, o, u, h => by simp at h
  | a :: S, 0, j, o, u, h => by simp at h; subst h; rfl
  | a :: S, i + 1, j, o, u, h => by
    have ih := owns_set_same (S := S) (i := i) (u := u) (by simpa using h)
    show owns (a :: S.set i _) = owns (a :: S)
    cases a with
    | own j o => simp [owns, ih]
    | _ => simpa [owns] using ih
theorem mem_owns : ∀ {S : Sg} {j : Nat}, (∃ (i : Nat) (o : Own), S[i]? = some (.own j o)) → j ∈ owns S
  | [], j, ⟨i, o, h⟩ => by simp at h
  | a :: S, j, ⟨0, o, h⟩ => by simp at h; subst h; exact List.mem_cons_self ..
  | a :: S, j, ⟨i + 1, o, h⟩ => by
    have ih := mem_owns (S := S) (j := j) ⟨i, o, by simpa using h⟩
    cases a with
    | own j o => exact List.mem_cons_of_mem _ ih
    | _ => simpa [owns] using ih
/-- no two slots hold the same lent thing -/
theorem owns_one : ∀ {S : Sg} {i k j : Nat} {o u : Own}, (owns S).Nodup → S[i]? = some (.own j o) → S[k]? = some (.own j u) → i = k
  | [], i, k, j, o, u, _, h, _ => by simp at h
  | a :: S, 0, 0, j, o, u, _, _, _ => rfl
  | a :: S, 0, k + 1, j, o, u, n, h, h' => by
    simp at h; subst h
    exact absurd (mem_owns ⟨k, u, by simpa using h'⟩) (List.nodup_cons.mp (show (j :: owns S).Nodup from n)).1
  | a :: S, i + 1, 0, j, o, u, n, h, h' => by
    simp at h'; subst h'
    exact absurd (mem_owns ⟨i, o, by simpa using h⟩) (List.nodup_cons.mp (show (j :: owns S).Nodup from n)).1
  | a :: S, i + 1, k + 1, j, o, u, n, h, h' => by
    have n' : (owns S).Nodup := by
      cases a with
      | own j o => exact (List.nodup_cons.mp (show (j :: owns S).Nodup from n)).2
      | _ => simpa [owns] using n
    exact congrArg Nat.succ (owns_one (S := S) (i := i) (k := k) (j := j) (o := o) (u := u) n' (by simpa using h) (by simpa using h'))
end Mir
/-! MirB: how the frame's relation goes on; results, their wishes -/
namespace Mir
open PySem L2
theorem locs_one : ∀ {S : Sg} {σ : St} {i k : Nat} {ds es : List Dat} {l : Addr}, (locs S σ).Nodup → S[i]? = some (.loc ds) → σ[i]? = some (some (.ref l)) → S[k]? = some (.loc es) → σ[k]? = some (some (.ref l)) → i = k := by
  intro S σ i k ds es l n a b c d
  by_cases e : i = k
  · exact e
  · have h1 : l ∉ locs (S.set i .no) σ := locs_set_gone n a b rfl
    exact absurd (mem_locs.mpr ⟨k, es, by rw [List.getElem?_set_ne e]; exact c, d⟩) h1
theorem set_same {α : Type} {xs : List α} {i : Nat} {a : α} (h : xs[i]? = some a) : xs.set i a = xs := by
  refine List.ext_getElem? fun k => ?_
  by_cases ek : i = k
  · subst ek
    have q : i < xs.length := (List.getElem?_eq_some_iff.mp h).1
    rw [List.getElem?_set, if_pos rfl, if_pos q, h]
  · rw [List.getElem?_set_ne ek]
section
variable {F : Fm} {S : Sg} {σ : St} {H H' : Hp}
theorem Rel.locH (R : Rel F S σ H) {l : Addr} (h : l ∈ locs S σ) : ∃ vs, H l = some (.lst vs) := by
  obtain ⟨i, ds, a, b⟩ := mem_locs.mp h
  have q := R.sl i _ _ a b
  cases q with
  | loc e r => exact ⟨_, e⟩
theorem Rel.mlive (R : Rel F S σ H) {a : Addr} (h : a ∈ F.M) : H a ≠ none := (R.liv a h).ne
theorem Rel.alv (R : Rel F S σ H) (a : Addr) (h : a ∈ F.A0) : H a ≠ none := (R.liv a (R.ain a h)).ne
theorem Rel.hlv (R : Rel F S σ H) {a : Addr} (h : a ∈ F.M ++ locs S σ) : Lv (H a) := by
  rcases Hd.mem_app.mp h with h | h
  · exact R.liv a h
  · obtain ⟨vs, e⟩ := R.locH h
    rw [e]; exact trivial
theorem Rel.hlive (R : Rel F S σ H) {a : Addr} (h : a ∈ F.M ++ locs S σ) : H a ≠ none := by
  rcases Hd.mem_app.mp h with h | h
  · exact R.mlive h
  · obtain ⟨vs, e⟩ := R.locH h
    rw [e]; simp
theorem Rel.fresh (R : Rel F S σ H) {p : Addr} (h : H p = none) : p ∉ F.M ++ locs S σ := fun z => R.hlive z h
theorem Rel.freshM (R : Rel F S σ H) {p : Addr} (h : H p = none) : p ∉ F.M := fun z => R.mlive z h
theorem Rel.fresh0 (R : Rel F S σ H) {p : Addr} (h : H p = none) : F.H0 p = none := by
  cases q : F.H0 p with
  | none => rfl
  | some o =>
    by_cases ha : p ∈ F.A0
    · exact absurd h (R.alv p ha)
    · rw [R.keep p o q ha] at h; cases h
theorem Rel.locM (R : Rel F S σ H) {l : Addr} (h : l ∈ locs S σ) : l ∉ F.M := R.lom l h
theorem upd_some {H : Hp} {a l : Addr} {o : HO} (h : H a ≠ none) : upd H l o a ≠ none := by
  by_cases e : a = l
  · rw [e, upd_same]; simp
  · rw [upd_ne e]; exact h
theorem live_same (e : L2.Same H H') (a : Addr) (h : H a ≠ none) : H' a ≠ none := by
  cases q : H a with
  | none => exact absurd q h
  | some o => rw [e a o q]; simp
theorem vis_grow (e : L2.Same H H') : Same (vis F S σ H) (vis F S σ H') := hid_same fun a o _ q => e a o q
theorem Rel.grow (R : Rel F S σ H) (e : L2.Same H H') : Rel F S σ H' where
  len := R.len
  sl := fun i s v a b => (R.sl i s v a b).mono (vis_grow e) fun l x _ q => e l x q
  nd := R.nd
  new := R.new
  ond := R.ond
  and_ := R.and_
  ain := R.ain
  liv := fun a h => (R.liv a h).same e
  lom := R.lom
  tmp := fun p h => ⟨e _ _ (R.tmp p h).1, (R.tmp p h).2⟩
  keep := fun a o q n => e a o (R.keep a o q n)
  hp := R.hp.of (fun _ _ z => z) (fun _ _ u z => ⟨u, z⟩) (live_same e)
theorem get_set_cases {α : Type} {xs : List α} {i k : Nat} {a b : α} (h : (xs.set i a)[k]? = some b) : (k = i ∧ b = a) ∨ (k ≠ i ∧ xs[k]? = some b) := by
  by_cases e : k = i
  · subst e
    rw [List.getElem?_set] at h
    simp at h
    exact .inl ⟨rfl, h.2.symm⟩
  · rw [List.getElem?_set_ne fun z => e z.symm] at h
    exact .inr ⟨e, h⟩
/-- one slot set to what holds no things -/
theorem HpOk.set (x : HpOk F S H) {i : Nat} {s : Slot} (h1 : ∀ T, s ≠ .heap T) (h2 : ∀ j o, s = .own j o → ∃ o', S[i]? = some (.own j o')) (h3 : ∀ a, H a ≠ none → H' a ≠ none) : HpOk F (S.set i s) H' :=
  x.of (fun j T z => by
    rcases get_set_cases z with ⟨_, e⟩ | ⟨_, z⟩
    · exact absurd e.symm (h1 T)
    · exact z) (fun j m u z => by
    rcases get_set_cases z with ⟨ej, e⟩ | ⟨_, z⟩
    · rw [ej]; exact h2 m u e.symm
    · exact ⟨u, z⟩) h3
/-- what one slot holds, no other one holds -/
theorem Rel.apart (R : Rel F S σ H) {i k : Nat} {s t : Slot} {v w : Option V} {l : Addr} (a : S[i]? = some s) (av : σ[i]? = some v) (b : S[k]? = some t) (bv : σ[k]? = some w) (hs : s.holds F v l) (ht : t.holds F w l) : i = k := by
  have hm : ∀ {i : Nat} {s : Slot} {v : Option V}, S[i]? = some s → σ[i]? = some v → s.holds F v l → (∃ ds, s = .loc ds ∧ v = some (.ref l)) ∨ (∃ j o, s = .own j o ∧ v = some (.ref l) ∧ F.A0[j]? = some l) ∨ ∃ (T : Ths) (k : Nat) (o : Own), s = .heap T ∧ T[k]? = some o ∧ F.M.ρ[k]? = some l ∧ l ∈ F.M := by
    intro i s v a av h
    have y := R.sl i s v a av
    cases s with
    | loc ds => exact .inl ⟨ds, rfl, h⟩
    | own j o =>
      have h : v = some (.ref l) := h
      subst h
      cases y with
      | own e _ => exact .inr (.inl ⟨j, o, rfl, rfl, e⟩)
    | heap T =>
      obtain ⟨k, o, h1, h2⟩ := h
      cases y with
      | heap e f =>
        obtain ⟨l', z1, z2, _⟩ := f k o h1
        rw [h2] at z1; cases z1
        exact .inr (.inr ⟨T, k, o, rfl, h1, h2, z2⟩)
    | no => exact h.elim
    | dat _ => exact h.elim
    | exn _ _ => exact h.elim
  have lm : ∀ {i : Nat} {ds : List Dat}, S[i]? = some (.loc ds) → σ[i]? = some (some (.ref l)) → l ∉ F.M := fun a b => R.lom l (mem_locs.mpr ⟨_, _, a, b⟩)
  rcases hm a av hs with ⟨ds, rfl, rfl⟩ | ⟨j, o, rfl, rfl, ej⟩ | ⟨T, n, o, rfl, h1, h2, h3⟩
  · rcases hm b bv ht with ⟨es, rfl, rfl⟩ | ⟨j, o, rfl, rfl, ej⟩ | ⟨T, n, o, rfl, h1, h2, h3⟩
    · exact locs_one R.nd a av b bv
    · exact absurd (R.ain l (List.mem_of_getElem? ej)) (lm a av)
    · exact absurd h3 (lm a av)
  · rcases hm b bv ht with ⟨es, rfl, rfl⟩ | ⟨j', o', rfl, rfl, ej'⟩ | ⟨T, n, o, rfl, h1, h2, h3⟩
    · exact absurd (R.ain l (List.mem_of_getElem? ej)) (lm b bv)
    · have e : j = j' := nd_ix R.and_ ej ej'
      subst e
      exact owns_one R.ond a b
    · exact absurd ej ((R.hp.thl k T n o l b h1 h2).2.2 _ _ _ a)
  · rcases hm b bv ht with ⟨es, rfl, rfl⟩ | ⟨j', o', rfl, rfl, ej'⟩ | ⟨T', n', o', rfl, h1', h2', h3'⟩
    · exact absurd h3 (lm b bv)
    · exact absurd ej' ((R.hp.thl i T n o l a h1 h2).2.2 _ _ _ b)
    · exact R.hp.one i k _ _ a b
/-- a slot gets a value that is nobody's own -/
theorem Rel.set (R : Rel F S σ H) {i : Nat} {s : Slot} {v : Option V} (h1 : s.isLoc = false) (h2 : ∀ j o, s ≠ .own j o) (h3 : ∀ T, s ≠ .heap T) (ok : SlotOk F (vis F S σ H) H s v) :
    Rel F (S.set i s) (σ.set i v) H ∧ Same (vis F S σ H) (vis F (S.set i s) (σ.set i v) H) := by
  have sub := locs_set_sub (S := S) (σ := σ) (i := i) (s := s) (v := v) h1
  have g : Same (vis F S σ H) (vis F (S.set i s) (σ.set i v) H) := hid_sub fun a ha => by
    rcases Hd.mem_app.mp ha with ha | ha
    · exact Hd.mem_left _ ha
    · exact Hd.mem_right _ (sub.subset ha)
  refine ⟨⟨by rw [List.length_set, List.length_set]; exact R.len, fun k t w a b => ?_, R.nd.sublist sub, fun l hl => R.new l (sub.subset hl), R.ond.sublist (owns_set_sub h2), R.and_, R.ain, R.liv, fun l hl => R.lom l (sub.subset hl), R.tmp, R.keep, R.hp.set h3 (fun j o z => absurd z (h2 j o)) fun _ z => z⟩, g⟩
  rcases get_set_cases a with ⟨e, rfl⟩ | ⟨e, a⟩
  · rcases get_set_cases b with ⟨_, rfl⟩ | ⟨e', _⟩
    · exact ok.mono g fun _ _ _ q => q
    · exact absurd e e'
  · rcases get_set_cases b with ⟨e', _⟩ | ⟨_, b⟩
    · exact absurd e' e
    · exact (R.sl k t w a b).mono g fun _ _ _ q => q
theorem Rel.dat (R : Rel F S σ H) {i : Nat} {v : V} {d : Dat} (r : Rp F.cm F.K (vis F S σ H) v d) :
    Rel F (S.set i (.dat d)) (σ.set i (some v)) H ∧ Same (vis F S σ H) (vis F (S.set i (.dat d)) (σ.set i (some v)) H) := R.set rfl (fun _ _ z => by cases z) (fun _ z => by cases z) (.dat r)
theorem Rel.no (R : Rel F S σ H) {i : Nat} {v : Option V} : Rel F (S.set i .no) (σ.set i v) H ∧ Same (vis F S σ H) (vis F (S.set i .no) (σ.set i v) H) := R.set rfl (fun _ _ z => by cases z) (fun _ z => by cases z) .no
/-- a slot gets a new list of the def's own -/
theorem Rel.newLoc (R : Rel F S σ H) {i : Nat} {p : Addr} {vs : List V} {ds : List Dat} (hp : H p = none) (r : RpAll F.cm F.K (vis F S σ H) vs ds) :
    Rel F (S.set i (.loc ds)) (σ.set i (some (.ref p))) (upd H p (.lst vs)) ∧ Same (vis F S σ H) (vis F (S.set i (.loc ds)) (σ.set i (some (.ref p))) (upd H p (.lst vs))) := by
  have fr := R.fresh hp
  have hpl : p ∉ locs S σ := fun z => fr (Hd.mem_right _ z)
  obtain ⟨n1, n2⟩ := locs_set_new (S := S) (σ := σ) (i := i) (ds := ds) R.nd hpl
  have e : L2.Same H (upd H p (.lst vs)) := same_new hp
  have g : Same (vis F S σ H) (vis F (S.set i (.loc ds)) (σ.set i (some (.ref p))) (upd H p (.lst vs))) := hid_to (fun a o ha q => ⟨fun z => by
      rcases Hd.mem_app.mp z with z | z
      · exact ha (Hd.mem_left _ z)
      · rcases n2 a z with y | y
        · rw [y, hp] at q; cases q
        · exact ha (Hd.mem_right _ y), e a o q⟩) fun _ _ z => z
  refine ⟨⟨by rw [List.length_set, List.length_set]; exact R.len, fun k t w a b => ?_, n1, fun l hl => ?_, R.ond.sublist (owns_set_sub fun _ _ z => by cases z), R.and_, R.ain, fun a h => (R.liv a h).upd trivial, fun l hl => ?_, fun p h => ⟨e _ _ (R.tmp p h).1, (R.tmp p h).2⟩, fun a o q n => e a o (R.keep a o q n), R.hp.set (fun _ z => by cases z) (fun _ _ z => by cases z) (live_same e)⟩, g⟩
  · rcases get_set_cases a with ⟨ek, rfl⟩ | ⟨ek, a⟩
    · rcases get_set_cases b with ⟨_, rfl⟩ | ⟨e', _⟩
      · exact .loc upd_same (r.mono g)
      · exact absurd ek e'
    · rcases get_set_cases b with ⟨e', _⟩ | ⟨_, b⟩
      · exact absurd e' ek
      · exact (R.sl k t w a b).mono g fun l x _ q => e l x q
  · rcases n2 l hl with y | y
    · rw [y]; exact R.fresh0 hp
    · exact R.new l y
  · rcases n2 l hl with y | y
    · rw [y]; exact fun z => fr (Hd.mem_left _ z)
    · exact R.lom l y
/-- a list of the def's own changes -/
theorem Rel.setLoc (R : Rel F S σ H) {i : Nat} {l : Addr} {us : List V} {cs ds : List Dat} (hi : S[i]? = some (.loc cs)) (hl : σ[i]? = some (some (.ref l))) (r : RpAll F.cm F.K (vis F S σ H) us ds) :
    Rel F (S.set i (.loc ds)) σ (upd H l (.lst us)) ∧ Same (vis F S σ H) (vis F (S.set i (.loc ds)) σ (upd H l (.lst us))) := by
  have hin : l ∈ locs S σ := mem_locs.mpr ⟨i, cs, hi, hl⟩
  have eL : locs (S.set i (.loc ds)) σ = locs S σ := locs_set_same hi
  have eG : vis F (S.set i (.loc ds)) σ (upd H l (.lst us)) = vis F S σ H := by
    unfold vis
    rw [eL, hid_upd (Hd.mem_right _ hin)]
  have g : Same (vis F S σ H) (vis F (S.set i (.loc ds)) σ (upd H l (.lst us))) := by rw [eG]; exact Same.refl _
  have nl : F.H0 l = none := R.new l hin
  refine ⟨⟨by rw [List.length_set]; exact R.len, fun k t w a b => ?_, by rw [eL]; exact R.nd, fun x hx => R.new x (by rw [← eL]; exact hx), R.ond.sublist (owns_set_sub fun _ _ z => by cases z), R.and_, R.ain, fun a h => (R.liv a h).upd trivial, fun x hx => R.lom x (by rw [← eL]; exact hx), fun p h => ⟨by rw [upd_ne fun z => R.lom l hin (by rw [← z]; exact (R.tmp p h).2.1)]; exact (R.tmp p h).1, (R.tmp p h).2⟩, fun a o q n => ?_, R.hp.set (fun _ z => by cases z) (fun _ _ z => by cases z) fun a h => upd_some h⟩, g⟩
  · rcases get_set_cases a with ⟨ek, rfl⟩ | ⟨ek, a⟩
    · rw [ek, hl] at b
      cases b
      exact .loc upd_same (r.mono g)
    · refine (R.sl k t w a b).mono g fun l' x hd q => ?_
      rw [upd_ne fun z => ek (R.apart a b hi hl (by rw [← z]; exact hd) rfl)]
      exact q
  · rw [upd_ne fun z => by rw [z, nl] at q; cases q]
    exact R.keep a o q n
/-- what was lent changes -/
theorem Rel.setOwn (R : Rel F S σ H) {i j : Nat} {l : Addr} {o u : Own} {ho : HO} (hi : S[i]? = some (.own j o)) (hl : σ[i]? = some (some (.ref l))) (hj : F.A0[j]? = some l) (r : OwnOk F.cm F.K (vis F S σ H) (upd H l ho) l u) :
    Rel F (S.set i (.own j u)) σ (upd H l ho) ∧ Same (vis F S σ H) (vis F (S.set i (.own j u)) σ (upd H l ho)) := by
  have hA : l ∈ F.A0 := List.mem_of_getElem? hj
  have hM : l ∈ F.M := R.ain l hA
  have sub : List.Sublist (locs (S.set i (.own j u)) σ) (locs S σ) := by
    have := locs_set_sub (S := S) (σ := σ) (i := i) (s := .own j u) (v := some (.ref l)) rfl
    rw [set_same hl] at this
    exact this
  have g : Same (vis F S σ H) (vis F (S.set i (.own j u)) σ (upd H l ho)) := by
    unfold vis
    rw [hid_upd (Hd.mem_left _ hM)]
    exact hid_sub fun a ha => by
      rcases Hd.mem_app.mp ha with ha | ha
      · exact Hd.mem_left _ ha
      · exact Hd.mem_right _ (sub.subset ha)
  refine ⟨⟨by rw [List.length_set]; exact R.len, fun k t w a b => ?_, R.nd.sublist sub, fun x hx => R.new x (sub.subset hx), by rw [owns_set_same hi]; exact R.ond, R.and_, R.ain, fun a h => (R.liv a h).set r.lv, fun x hx => R.lom x (sub.subset hx), fun p h => ⟨by rw [upd_ne fun z => (R.tmp p h).2.2 (by rw [z]; exact hA)]; exact (R.tmp p h).1, (R.tmp p h).2⟩, fun a x q n => ?_, R.hp.set (fun _ z => by cases z) (fun m o' z => by cases z; exact ⟨o, hi⟩) fun a h => upd_some h⟩, g⟩
  · rcases get_set_cases a with ⟨ek, rfl⟩ | ⟨ek, a2⟩
    · rw [ek, hl] at b
      cases b
      exact .own hj (r.mono g fun _ q => q)
    · refine (R.sl k t w a2 b).mono g fun l' x hd q => ?_
      rw [upd_ne fun z => ek (R.apart a2 b hi hl (by rw [← z]; exact hd) rfl)]
      exact q
  · rw [upd_ne fun z => n (by rw [z]; exact hA)]
    exact R.keep a x q n
/-- a list of the def's own becomes a value for all -/
theorem Rel.freeze (R : Rel F S σ H) {i : Nat} {l : Addr} {ds : List Dat} (hi : S[i]? = some (.loc ds)) (hl : σ[i]? = some (some (.ref l))) :
    Rel F (S.set i (.dat (.lst ds))) σ H ∧ Same (vis F S σ H) (vis F (S.set i (.dat (.lst ds))) σ H) ∧ Rp F.cm F.K (vis F (S.set i (.dat (.lst ds))) σ H) (.ref l) (.lst ds) := by
  have e : σ.set i (some (.ref l)) = σ := set_same hl
  have sub : List.Sublist (locs (S.set i (.dat (.lst ds))) σ) (locs S σ) := by
    have := locs_set_sub (S := S) (σ := σ) (i := i) (s := .dat (.lst ds)) (v := some (.ref l)) rfl
    rw [e] at this
    exact this
  have g : Same (vis F S σ H) (vis F (S.set i (.dat (.lst ds))) σ H) := hid_sub fun a ha => by
    rcases Hd.mem_app.mp ha with ha | ha
    · exact Hd.mem_left _ ha
    · exact Hd.mem_right _ (sub.subset ha)
  have y := R.sl i _ _ hi hl
  have hin : l ∈ locs S σ := mem_locs.mpr ⟨i, ds, hi, hl⟩
  cases y with
  | @loc _ _ vs eh r =>
    have out : l ∉ F.M ++ locs (S.set i (.dat (.lst ds))) σ := fun z => by
      rcases Hd.mem_app.mp z with z | z
      · exact R.locM hin z
      · exact locs_set_gone R.nd hi hl rfl z
    have rp : Rp F.cm F.K (vis F (S.set i (.dat (.lst ds))) σ H) (.ref l) (.lst ds) := .lst (by unfold vis; rw [hid_out out]; exact eh) (r.mono g)
    refine ⟨⟨by rw [List.length_set]; exact R.len, fun k t w a b => ?_, R.nd.sublist sub, fun x hx => R.new x (sub.subset hx), R.ond.sublist (owns_set_sub fun _ _ z => by cases z), R.and_, R.ain, R.liv, fun x hx => R.lom x (sub.subset hx), R.tmp, R.keep, R.hp.set (fun _ z => by cases z) (fun _ _ z => by cases z) fun _ z => z⟩, g, rp⟩
    rcases get_set_cases a with ⟨ek, rfl⟩ | ⟨ek, a⟩
    · rw [ek, hl] at b
      cases b
      exact .dat rp
    · exact (R.sl k t w a b).mono g fun _ _ _ q => q
/-- a new thing that is nobody's: hidden for a while -/
def Fm.hide (F : Fm) (p : Addr) (o : HO) : Fm := { F with M := F.M.cons p, T := (p, o) :: F.T }
theorem Rel.hide (R : Rel F S σ H) {p : Addr} {o : HO} (hp : H p = none) (ho : Lv (some o) := by trivial) : Rel (F.hide p o) S σ (upd H p o) ∧ Same (vis F S σ H) (vis (F.hide p o) S σ (upd H p o)) := by
  have fr := R.fresh hp
  have e : L2.Same H (upd H p o) := same_new hp
  have g : Same (vis F S σ H) (vis (F.hide p o) S σ (upd H p o)) := hid_to (fun a x ha q => ⟨fun z => by
    rcases Hd.mem_app.mp z with z | z
    · rcases Hd.mem_cons.mp z with z | z
      · rw [z, hp] at q; cases q
      · exact ha (Hd.mem_left _ z)
    · exact ha (Hd.mem_right _ z), e a x q⟩) fun _ _ z => z
  refine ⟨⟨R.len, fun i s v a b => ?_, R.nd, R.new, R.ond, R.and_, fun a h => Hd.mem_cons.mpr (.inr (R.ain a h)), fun a h => ?_, fun l hl z => ?_, fun q h => ?_, fun a x q n => e a x (R.keep a x q n), ?_⟩, g⟩
  · exact ((R.sl i s v a b).mono g fun l x _ q => e l x q).in (F := F) (F' := F.hide p o) rfl rfl rfl rfl fun l _ h => Hd.mem_cons.mpr (.inr h)
  · rcases Hd.mem_cons.mp h with h | h
    · rw [h, upd_same]; exact ho
    · exact (R.liv a h).upd ho
  · rcases Hd.mem_cons.mp z with z | z
    · exact fr (by rw [← z]; exact Hd.mem_right _ hl)
    · exact R.lom l hl z
  · rcases List.mem_cons.mp (show q ∈ (p, o) :: F.T from h) with h | h
    · rw [h]; exact ⟨upd_same, Hd.mem_cons.mpr (.inl rfl), fun z => R.alv p z hp⟩
    · exact ⟨e _ _ (R.tmp q h).1, Hd.mem_cons.mpr (.inr (R.tmp q h).2.1), (R.tmp q h).2.2⟩
  · refine ⟨R.hp.one, R.hp.him, fun i T k o' l a b c => ?_, R.hp.lnd, R.hp.thn, fun a h => Hd.mem_cons.mpr (.inr (R.hp.n0 a h)), R.hp.nr⟩
    obtain ⟨x1, x2, x3⟩ := R.hp.thl i T k o' l a b c
    refine ⟨x1, fun q h => ?_, x3⟩
    rcases List.mem_cons.mp (show q ∈ (p, o) :: F.T from h) with h | h
    · rw [h]
      have hi : i < σ.length := by rw [← R.len]; exact (List.getElem?_eq_some_iff.mp a).1
      have y := R.sl i _ _ a (List.getElem?_eq_getElem hi)
      cases y with
      | heap _ f =>
        obtain ⟨l', z1, z2, _⟩ := f k o' b
        have c : F.M.ρ[k]? = some l := c
        rw [c] at z1; cases z1
        exact fun z => R.freshM hp (by rw [show p = l from z]; exact z2)
    · exact x2 q h
/-- and its frame, as it goes on, changes it -/
def Fm.rehide (F : Fm) (o : HO) : Fm := { F with T := match F.T with | (p, _) :: r => (p, o) :: r | [] => [] }
/-- it is seen by all -/
def Fm.unhide (F : Fm) (p : Addr) : Fm := { F with M := ⟨F.M.as.filter (fun a => !(a == p)), F.M.ρ⟩, T := F.T.tail }
theorem Fm.to.hid {F1 : Fm} {p : Addr} {o o' : HO} (t : (F.hide p o).to F1) : (F.hide p o').to (F1.rehide o') := by
  obtain ⟨t1, t2⟩ := t
  have eT : F1.T = (p, o) :: F.T := congrArg Fb.T t1
  refine ⟨?_, t2⟩
  show { F1.toFb with T := match F1.T with | (p, _) :: r => (p, o') :: r | [] => [] } = (F.hide p o').toFb
  rw [eT, t1]
  rfl
theorem unh_mem {F1 : Fm} {p a : Addr} : a ∈ (F1.unhide p).M ↔ a ∈ F1.M ∧ a ≠ p := by
  show a ∈ F1.M.as.filter (fun a => !(a == p)) ↔ a ∈ F1.M.as ∧ a ≠ p
  rw [List.mem_filter]
  simp
theorem Fm.to.unh {F1 : Fm} {p : Addr} {o : HO} (t : (F.hide p o).to F1) (hp : p ∉ F.M) : F.to (F1.unhide p) := by
  obtain ⟨t1, t2⟩ := t
  refine ⟨?_, fun z => ?_⟩
  · show { F1.toFb with T := F1.T.tail } = F.toFb
    rw [t1]
    rfl
  · have e := t2 z
    show (⟨F1.M.as.filter (fun a => !(a == p)), F1.M.ρ⟩ : Hd) = F.M
    rw [e]
    have e2 : (p :: F.M.as).filter (fun a => !(a == p)) = F.M.as := by
      rw [List.filter_cons_of_neg (by simp)]
      refine List.filter_eq_self.mpr fun a ha => ?_
      have hne : a ≠ p := fun z => hp (by rw [← z]; exact ha)
      simpa using hne
    show (⟨(p :: F.M.as).filter (fun a => !(a == p)), F.M.ρ⟩ : Hd) = F.M
    rw [e2]
theorem Rel.hidden {F1 : Fm} {p : Addr} {o o' : HO} (t : (F.hide p o).to F1) (R : Rel F1 S σ H) (h0 : F.H0 p = none) (ht : ∀ q, q ∈ F.T → q.1 ≠ p) (ho : Lv (some o') := by trivial) : Rel (F1.rehide o') S σ (upd H p o') ∧ vis (F1.rehide o') S σ (upd H p o') = vis F1 S σ H := by
  have eT : F1.T = (p, o) :: F.T := t.T
  have eT' : (F1.rehide o').T = (p, o') :: F.T := by
    show (match F1.T with | (p, _) :: r => (p, o') :: r | [] => []) = _
    rw [eT]
  have hx := R.tmp (p, o) (by rw [eT]; exact List.mem_cons_self ..)
  have hM : p ∈ F1.M := hx.2.1
  have ha : p ∉ F1.A0 := hx.2.2
  have eG : vis (F1.rehide o') S σ (upd H p o') = vis F1 S σ H := by
    show hid (F1.M ++ locs S σ) (upd H p o') = hid (F1.M ++ locs S σ) H
    rw [hid_upd (Hd.mem_left _ hM)]
  refine ⟨⟨R.len, fun i s v a b => ?_, R.nd, R.new, R.ond, R.and_, R.ain, fun a h => (R.liv a h).upd ho, R.lom, fun q h => ?_, fun a x q n => ?_, ?_⟩, eG⟩
  · rw [eG]
    refine ((R.sl i s v a b).mono (Same.refl _) (H' := upd H p o') fun l x hd q => ?_).in (F := F1) (F' := F1.rehide o') rfl rfl rfl rfl fun _ _ z => z
    have hne : l ≠ p := fun z => by
      rw [z] at hd
      cases s with
      | loc ds =>
        have hd : v = some (.ref p) := hd
        subst hd
        exact R.lom p (mem_locs.mpr ⟨i, ds, a, b⟩) hM
      | own j u =>
        have hd : v = some (.ref p) := hd
        subst hd
        have y := R.sl i _ _ a b
        cases y with
        | own e0 _ => exact ha (List.mem_of_getElem? e0)
      | heap T =>
        obtain ⟨k, u, h1, h2⟩ := hd
        exact (R.hp.thl i T k u p a h1 h2).2.1 (p, o) (by rw [eT]; exact List.mem_cons_self ..) rfl
      | no => exact hd.elim
      | dat d => exact hd.elim
      | exn c fs => exact hd.elim
    rw [upd_ne hne]; exact q
  · rw [eT'] at h
    rcases List.mem_cons.mp h with h | h
    · rw [h]; exact ⟨upd_same, hM, ha⟩
    · have z := R.tmp q (by rw [eT]; exact List.mem_cons_of_mem _ h)
      exact ⟨by rw [upd_ne (ht q h)]; exact z.1, z.2⟩
  · have hne : a ≠ p := fun z => by
      have q : F1.H0 a = some x := q
      rw [z, t.H0] at q
      exact absurd q (by rw [show (F.hide p o).H0 p = none from h0]; simp)
    rw [upd_ne hne]
    exact R.keep a x q n
  · refine ⟨R.hp.one, R.hp.him, fun i T k u l a b c => ?_, R.hp.lnd, R.hp.thn, R.hp.n0, R.hp.nr⟩
    obtain ⟨x1, x2, x3⟩ := R.hp.thl i T k u l a b c
    refine ⟨x1, fun q h => ?_, x3⟩
    rw [eT'] at h
    rcases List.mem_cons.mp h with h | h
    · rw [h]; exact x2 (p, o) (by rw [eT]; exact List.mem_cons_self ..)
    · exact x2 q (by rw [eT]; exact List.mem_cons_of_mem _ h)
theorem Rel.unhide {F1 : Fm} {p : Addr} {o : HO} {S0 : Sg} {σ0 : St} {H1 : Hp} (R0 : Rel F S0 σ0 H1) (hp : H1 p = none) (t : (F.hide p o).to F1) (R : Rel F1 S σ H) : Rel (F1.unhide p) S σ H ∧ Same (vis F1 S σ H) (vis (F1.unhide p) S σ H) := by
  have g : Same (vis F1 S σ H) (vis (F1.unhide p) S σ H) := hid_sub (fun a h => by
    rcases Hd.mem_app.mp h with h | h
    · exact Hd.mem_left _ (unh_mem.mp h).1
    · exact Hd.mem_right _ h) rfl
  have eT : F1.T = (p, o) :: F.T := t.T
  have hx := R.tmp (p, o) (by rw [eT]; exact List.mem_cons_self ..)
  have ht : ∀ q, q ∈ F.T → q.1 ≠ p := fun q h z => by
    have e := (R0.tmp q h).1
    rw [z, hp] at e
    cases e
  refine ⟨⟨R.len, fun i s v a b => ?_, R.nd, R.new, R.ond, R.and_, fun a h => unh_mem.mpr ⟨R.ain a h, fun z => hx.2.2 (by rw [← z]; exact h)⟩, fun a h => R.liv a (unh_mem.mp h).1, fun l hl z => R.lom l hl (unh_mem.mp z).1, fun q h => ?_, R.keep, ?_⟩, g⟩
  · refine ((R.sl i s v a b).mono g fun _ _ _ q => q).in (F := F1) (F' := F1.unhide p) rfl rfl rfl rfl fun l hd h => unh_mem.mpr ⟨h, fun z => ?_⟩
    rw [z] at hd h
    cases s with
    | loc ds =>
      have hd : v = some (.ref p) := hd
      subst hd
      exact R.lom p (mem_locs.mpr ⟨i, ds, a, b⟩) h
    | own j u =>
      have hd : v = some (.ref p) := hd
      subst hd
      have y := R.sl i _ _ a b
      cases y with
      | own e0 _ => exact hx.2.2 (List.mem_of_getElem? e0)
    | heap T =>
      obtain ⟨k, u, h1, h2⟩ := hd
      exact (R.hp.thl i T k u p a h1 h2).2.1 (p, o) (by rw [eT]; exact List.mem_cons_self ..) rfl
    | no => exact hd.elim
    | dat d => exact hd.elim
    | exn c fs => exact hd.elim
  · have h : q ∈ F1.T.tail := h
    rw [eT] at h
    have h : q ∈ F.T := h
    have z := R.tmp q (by rw [eT]; exact List.mem_cons_of_mem _ h)
    exact ⟨z.1, unh_mem.mpr ⟨z.2.1, ht q h⟩, z.2.2⟩
  · refine ⟨R.hp.one, R.hp.him, fun i T k u l a b c => ?_, R.hp.lnd, R.hp.thn, fun a h => unh_mem.mpr ⟨R.hp.n0 a h, fun z => ?_⟩, R.hp.nr⟩
    · obtain ⟨x1, x2, x3⟩ := R.hp.thl i T k u l a b c
      exact ⟨x1, fun q h => x2 q (List.mem_of_mem_tail h), x3⟩
    · have h' : a ∈ F.N0 := by
        have e : F1.N0 = F.N0 := t.N0
        rw [← e]; exact h
      exact (R0.liv a (R0.hp.n0 a h')).ne (by rw [z]; exact hp)
theorem Fm.to.pure {F F' : Fm} (t : F.to F') (h : F.im = false) : F' = F := by
  obtain ⟨b, M⟩ := F
  obtain ⟨b', M'⟩ := F'
  obtain ⟨e1, e2⟩ := t
  have e1 : b' = b := e1
  have e2 : M' = M := e2 h
  rw [e1, e2]
/-- the frame of a def that has no things -/
abbrev Fm.at (cm : CM) (K : PySem.W.Frag) (M : Hd) (H : Hp) (ls : List Addr) : Fm := ⟨⟨cm, K, H, ls, M, [], false⟩, M⟩
theorem Rel.tnew (R : Rel F S σ H) {p : Addr} (hp : H p = none) : ∀ q, q ∈ F.T → q.1 ≠ p := fun q h z => by
  have e := (R.tmp q h).1
  rw [z, hp] at e
  cases e
end
/-! ### results -/
inductive Rs (α : Type) where
  | ok (a : α) (S : Sg)
  | exc (c : Str) (fs : List (Str × Dat)) (S : Sg)
  | bad
def Rs.bind {α β : Type} : Rs α → (α → Sg → Rs β) → Rs β
  | .ok a S, k => k a S
  | .exc c fs S, _ => .exc c fs S
  | .bad, _ => .bad
def Rs.of {α : Type} : Option α → Sg → Rs α
  | some a, S => .ok a S
  | none, _ => .bad
@[simp] theorem Rs.bind_ok {α β : Type} (a : α) (S : Sg) (k : α → Sg → Rs β) : (Rs.ok a S).bind k = k a S := rfl
@[simp] theorem Rs.bind_exc {α β : Type} (c : Str) (fs : List (Str × Dat)) (S : Sg) (k : α → Sg → Rs β) : (Rs.exc c fs S).bind k = .exc c fs S := rfl
@[simp] theorem Rs.bind_bad {α β : Type} (k : α → Sg → Rs β) : (Rs.bad : Rs α).bind k = .bad := rfl
@[simp] theorem Rs.of_some {α : Type} (a : α) (S : Sg) : Rs.of (some a) S = .ok a S := rfl
@[simp] theorem Rs.of_none {α : Type} (S : Sg) : Rs.of (none : Option α) S = .bad := rfl
/-- what stands for what, at slots and a visible heap -/
abbrev Rep (β α : Type) := St → VH → β → α → Prop
def outX (F : Fm) (W : WX) (σ : St) (G : VH) (c : Str) (fs : List (Str × Dat)) (S : Sg) : Prop :=
  ∀ ⦃F' : Fm⦄ (da : Addr) (gs : List (Str × V)) (H : Hp), Rel F' S σ H → Same G (vis F' S σ H) → vis F' S σ H da = some (.xd gs) → RpF F'.cm F'.K (vis F' S σ H) gs fs → (_ : F.to F' := by exact Fm.rf _) → W (.ref (F'.cm c)) (some da) σ H
def out {β α : Type} (F : Fm) (W : WX) (σ : St) (G : VH) (R : Rep β α) (Q : β → Hp → Prop) : Rs α → Prop
  | .ok a S => ∀ ⦃F' : Fm⦄ v H, Rel F' S σ H → Same G (vis F' S σ H) → R σ (vis F' S σ H) v a → (_ : F.to F' := by exact Fm.rf _) → Q v H
  | .exc c fs S => outX F W σ G c fs S
  | .bad => False
/-- the reading that a mirror gives -/
def tG {β α : Type} (cm : CM) (K : PySem.W.Frag) (W : WX) (R : Rep β α) (m : Sg → Rs α) : St → Hp → (β → Hp → Prop) → Prop := fun σ H Q =>
  ∃ F S, F.cm = cm ∧ F.K = K ∧ Rel F S σ H ∧ out F W σ (vis F S σ H) R Q (m S)
section
variable {F F' : Fm} {W : WX} {σ : St} {G G' : VH}
theorem outX_same {c : Str} {fs : List (Str × Dat)} {S : Sg} (e : Same G G') (h : outX F W σ G c fs S) : outX F W σ G' c fs S := fun _ da gs H a b c d t => h da gs H a (e.trans b) c d t
theorem outX_to {c : Str} {fs : List (Str × Dat)} {S : Sg} (e : F.to F') (h : outX F W σ G c fs S) : outX F' W σ G c fs S := fun _ da gs H a b c d t => h da gs H a b c d (e.trans t)
theorem out_same {β α : Type} {R : Rep β α} {Q : β → Hp → Prop} {r : Rs α} (e : Same G G') (h : out F W σ G R Q r) : out F W σ G' R Q r := by
  cases r with
  | ok a S => exact fun _ v H a b c t => h v H a (e.trans b) c t
  | exc c fs S => exact outX_same e h
  | bad => exact h
theorem out_to {β α : Type} {R : Rep β α} {Q : β → Hp → Prop} {r : Rs α} (e : F.to F') (h : out F W σ G R Q r) : out F' W σ G R Q r := by
  cases r with
  | ok a S => exact fun _ v H a b c t => h v H a b c (e.trans t)
  | exc c fs S => exact outX_to e h
  | bad => exact h
theorem out_bind {β α β' α' : Type} {R : Rep β α} {R' : Rep β' α'} {Q : β' → Hp → Prop} {r : Rs α} {k : α → Sg → Rs α'} (h : out F W σ G R' Q (r.bind k)) :
    out F W σ G R (fun x H1 => ∃ F1 a S1, F.to F1 ∧ Rel F1 S1 σ H1 ∧ Same G (vis F1 S1 σ H1) ∧ R σ (vis F1 S1 σ H1) x a ∧ out F1 W σ (vis F1 S1 σ H1) R' Q (k a S1)) r := by
  cases r with
  | ok a S => exact fun F1 v H x y z t => ⟨F1, a, S, t, x, y, z, out_to t (out_same y h)⟩
  | exc c fs S => exact h
  | bad => exact h
theorem out_imp {β α : Type} {R : Rep β α} {Q Q' : β → Hp → Prop} {r : Rs α} (h : out F W σ G R Q r) (q : ∀ v H, Q v H → Q' v H) : out F W σ G R Q' r := by
  cases r with
  | ok a S => exact fun _ v H x y z t => q v H (h v H x y z t)
  | exc c fs S => exact h
  | bad => exact h
end
/-- from a mirror that goes on by k: its first part's reading -/
theorem tG_bind {β α β' α' : Type} {cm : CM} {K : PySem.W.Frag} {W : WX} {R : Rep β α} {R' : Rep β' α'} {m : Sg → Rs α} {k : α → Sg → Rs α'} {σ : St} {H : Hp} {Q : β' → Hp → Prop} {Q' : β → Hp → Prop} {F : Fm} {S : Sg}
    (e1 : F.cm = cm) (e2 : F.K = K) (r : Rel F S σ H) (h : out F W σ (vis F S σ H) R' Q ((m S).bind k))
    (q : ∀ (F1 : Fm) x H1 a S1, F1.cm = cm → F1.K = K → Rel F1 S1 σ H1 → Same (vis F S σ H) (vis F1 S1 σ H1) → R σ (vis F1 S1 σ H1) x a → out F1 W σ (vis F1 S1 σ H1) R' Q (k a S1) → Q' x H1) : tG cm K W R m σ H Q' :=
  ⟨F, S, e1, e2, r, out_imp (out_bind (R := R) h) fun x H1 ⟨F1, a, S1, t, a1, a2, a3, a4⟩ => q F1 x H1 a S1 (t.cm.trans e1) (t.K.trans e2) a1 a2 a3 a4⟩
abbrev ME := Sg → Rs Dat
abbrev MT := Sg → Rs Bool
abbrev MA := Sg → Rs (List Dat)
abbrev rE (cm : CM) (K : PySem.W.Frag) : Rep V Dat := fun _ G v d => Rp cm K G v d
abbrev rT : Rep Bool Bool := fun _ _ b c => b = c
abbrev rA (cm : CM) (K : PySem.W.Frag) : Rep (List V) (List Dat) := fun _ G v d => RpAll cm K G v d
abbrev tE (cm : CM) (K : PySem.W.Frag) (W : WX) (m : ME) : TE := tG cm K W (rE cm K) m
abbrev tT (cm : CM) (K : PySem.W.Frag) (W : WX) (m : MT) : TT := tG cm K W rT m
abbrev tA (cm : CM) (K : PySem.W.Frag) (W : WX) (m : MA) : TA := tG cm K W (rA cm K) m
theorem PE.weak {X : Cx} {e : Expr} {t t' : TE} (h : PE X e t) (i : ∀ σ H Q, t' σ H Q → t σ H Q) : PE X e t' := ⟨fun pins s σ H Q I q => h.run pins s σ H Q I (i σ H Q q)⟩
theorem PT.weak {X : Cx} {e : Expr} {t t' : TT} (h : PT X e t) (i : ∀ σ H Q, t' σ H Q → t σ H Q) : PT X e t' := ⟨fun pins s σ H Q I q => h.run pins s σ H Q I (i σ H Q q)⟩
theorem PW.weak {X : Cx} {e : Expr} {t t' : TT} (h : PW X e t) (i : ∀ σ H Q, t' σ H Q → t σ H Q) : PW X e t' := ⟨fun wh pins s σ H Q I q => h.run wh pins s σ H Q I (i σ H Q q)⟩
theorem PA.weak {X : Cx} {es : List Expr} {t t' : TA} (h : PA X es t) (i : ∀ σ H Q, t' σ H Q → t σ H Q) : PA X es t' := ⟨fun pos pins s σ H Q I q => h.run pos pins s σ H Q I (i σ H Q q)⟩
theorem PS.weak {X : Cx} {st : Stmt} {t t' : TS} (h : PS X st t) (i : ∀ D σ H, t' D σ H → t D σ H) : PS X st t' := ⟨fun pins s σ H D I q => h.run pins s σ H D I (i D σ H q)⟩
theorem PSs.weak {X : Cx} {st : List Stmt} {t t' : TS} (h : PSs X st t) (i : ∀ D σ H, t' D σ H → t D σ H) : PSs X st t' := ⟨fun pins s σ H D I q => h.run pins s σ H D I (i D σ H q)⟩
end Mir
/-! MirC: expressions and their mirrors -/
namespace Mir
open PySem L2
structure live (M : Hd) (H : Hp) : Prop where
  v : ∀ m, m ∈ M → Lv (H m)
theorem live.l {M : Hd} {H : Hp} (x : live M H) : ∀ m, m ∈ M → H m ≠ none := fun m h => (x.v m h).ne
theorem live.grow {M : Hd} {H H' : Hp} (x : live M H) (e : ∀ a, Lv (H a) → Lv (H' a)) : live M H' := ⟨fun m h => e m (x.v m h)⟩
theorem HpOk.start {cm : CM} {K : PySem.W.Frag} {M : Hd} {H : Hp} {ls : List Addr} {S : Sg} (lv : live M H) (hno : ∀ (i : Nat) (T : Ths), S[i]? ≠ some (.heap T)) : HpOk (Fm.at cm K M H ls) S H :=
  ⟨fun i j T U a _ => absurd a (hno i T), fun i T a => absurd a (hno i T), fun i T k o l a _ _ => absurd a (hno i T), fun i T k n o u l a => absurd a (hno i T), fun i T k o l a => absurd a (hno i T), fun _ h => h, ⟨[], (List.append_nil _).symm⟩⟩
theorem live_fresh {M : Hd} {H : Hp} {p : Addr} (l : live M H) (h : H p = none) : p ∉ M := fun z => l.l p z h
theorem hid_new {M : Hd} {H : Hp} {p : Addr} {o : HO} (l : live M H) (h : H p = none) : hid M (upd H p o) p = some o := by
  rw [hid_out (live_fresh l h), upd_same]
theorem hid_grow {M : Hd} {H H' : Hp} (e : L2.Same H H') : Same (hid M H) (hid M H') := hid_same fun a o _ q => e a o q
theorem Rel.live {F : Fm} {S : Sg} {σ : St} {H : Hp} (R : Rel F S σ H) : Mir.live (F.M ++ locs S σ) H := ⟨fun _ h => R.hlv h⟩
/-- an operation of two values, of one, of a list of them: by what it does to the trees; the heap only grows -/
def rD (cm : CM) (K : PySem.W.Frag) (g : Dat → Dat → Option Dat) : R2 := fun x y H Q =>
  ∃ M a b c, live M H ∧ Rp cm K (hid M H) x a ∧ Rp cm K (hid M H) y b ∧ g a b = some c ∧ ∀ v H', L2.Same H H' → Rp cm K (hid M H') v c → Q v H'
def rU (cm : CM) (K : PySem.W.Frag) (g : Dat → Option Dat) : V → Hp → VK → Prop := fun x H Q =>
  ∃ M a c, live M H ∧ Rp cm K (hid M H) x a ∧ g a = some c ∧ ∀ v H', L2.Same H H' → Rp cm K (hid M H') v c → Q v H'
def rDs (cm : CM) (K : PySem.W.Frag) (g : List Dat → Option Dat) : List V → Hp → VK → Prop := fun vs H Q =>
  ∃ M ds c, live M H ∧ RpAll cm K (hid M H) vs ds ∧ g ds = some c ∧ ∀ v H', L2.Same H H' → Rp cm K (hid M H') v c → Q v H'
/-! ### the mirrors -/
def mC (d : Dat) : ME := fun S => .ok d S
def mVar (i : Nat) : ME := fun S => match S[i]? with
  | some (.dat d) => .ok d S
  | some (.loc ds) => .ok (.lst ds) (S.set i (.dat (.lst ds)))
  | _ => .bad
def m2 (g : Dat → Dat → Option Dat) (ma mb : ME) : ME := fun S => (ma S).bind fun a S1 => (mb S1).bind fun b S2 => Rs.of (g a b) S2
def m1 (g : Dat → Option Dat) (ma : ME) : ME := fun S => (ma S).bind fun a S1 => Rs.of (g a) S1
def mNil : MA := fun S => .ok [] S
def mCons (ma : ME) (mr : MA) : MA := fun S => (ma S).bind fun a S1 => (mr S1).bind fun r S2 => .ok (a :: r) S2
def mCall (g : List Dat → Option Dat) (ma : MA) : ME := fun S => (ma S).bind fun ds S1 => Rs.of (g ds) S1
def mIf (c : MT) (a b : ME) : ME := fun S => (c S).bind fun t S1 => if t = true then a S1 else b S1
def mAnd (a b : ME) : ME := fun S => (a S).bind fun d S1 => match d with
  | .bl true => b S1
  | .bl false => .ok (.bl false) S1
  | _ => .bad
def mOr (a b : ME) : ME := fun S => (a S).bind fun d S1 => match d with
  | .bl true => .ok (.bl true) S1
  | .bl false => b S1
  | _ => .bad
def mNot (a : ME) : ME := fun S => (a S).bind fun d S1 => match d with
  | .bl b => .ok (.bl !b) S1
  | _ => .bad
def cTruth (a : ME) : MT := fun S => (a S).bind fun d S1 => match d with
  | .bl b => .ok b S1
  | _ => .bad
def cAnd (a b : MT) : MT := fun S => (a S).bind fun t S1 => if t = true then b S1 else .ok false S1
def cOr (a b : MT) : MT := fun S => (a S).bind fun t S1 => if t = true then .ok true S1 else b S1
def cNot (a : MT) : MT := fun S => (a S).bind fun t S1 => .ok (!t) S1
/-- a < b < c -/
def mChain (g g' : Dat → Dat → Option Dat) (a b c : ME) : ME := fun S => (a S).bind fun x S1 => (b S1).bind fun y S2 => (Rs.of (g x y) S2).bind fun z S3 => match z with
  | .bl true => (c S3).bind fun w S4 => Rs.of (g' y w) S4
  | .bl false => .ok (.bl false) S3
  | _ => .bad
/-- the largest list made here -/
def lim : Nat := 1000000
theorem lim_line {n : Nat} (h : n ≤ lim) : n ≤ sizeLine := Nat.le_trans h (by decide)
theorem lim_lt {n : Nat} (h : n < lim) : n < sizeLine := Nat.lt_of_lt_of_le h (by decide)
def mkLst (ds : List Dat) : Option Dat := if ds.length ≤ lim then some (.lst ds) else none
def mkTup (ds : List Dat) : Option Dat := if ds.length ≤ lim then some (.tup ds) else none
def mLst (ma : MA) : ME := mCall mkLst ma
def mTup (ma : MA) : ME := mCall mkTup ma
/-! ### the rules -/
section
variable {X : Cx} {cm : CM} {W : WX} {a b c e : Expr} {es : List Expr} {ma mb mc : ME} {mr : MA} {ca cb : MT} {pos : Pos} {g g' : Dat → Dat → Option Dat}
theorem ge_const {v : V} {d : Dat} (h : PE X e (tC v)) (r : ∀ G, Rp cm X.K G v d) : PE X e (tE cm X.K W (mC d)) := PE.weak h fun σ H Q ⟨F, S, e1, e2, R, o⟩ => o v H R (.refl _) (r _)
theorem ge_int {i j} : PE X (.Constant (.int i) j pos) (tE cm X.K W (mC (.int i))) := ge_const pe_int fun _ => .int i
theorem ge_str {x j} : PE X (.Constant (.str x) j pos) (tE cm X.K W (mC (.str x))) := ge_const pe_str fun _ => .str x
theorem ge_bl {x j} : PE X (.Constant (.bool x) j pos) (tE cm X.K W (mC (.bl x))) := ge_const pe_bl fun _ => .bl x
theorem ge_non {j} : PE X (.Constant .none j pos) (tE cm X.K W (mC .non)) := ge_const pe_non fun _ => .non
theorem ge_var {i : Nat} (h : PE X e (tVar i)) : PE X e (tE cm X.K W (mVar i)) := PE.weak h fun σ H Q ⟨F, S, e1, e2, R, o⟩ => by
  unfold mVar at o
  cases hs : S[i]? with
  | none => rw [hs] at o; exact False.elim o
  | some s =>
    rw [hs] at o
    have hl : i < σ.length := by rw [← R.len]; exact (List.getElem?_eq_some_iff.mp hs).1
    have hv : σ[i]? = some σ[i] := List.getElem?_eq_getElem hl
    have q := R.sl i s _ hs hv
    cases s with
    | no => exact False.elim o
    | own j u => exact False.elim o
    | exn c fs => exact False.elim o
    | heap T => exact False.elim o
    | dat d =>
      generalize σ[i] = w at hv q
      cases q with
      | dat r => exact ⟨_, hv, o _ H R (.refl _) (by rw [← e1, ← e2]; exact r)⟩
    | loc ds =>
      generalize σ[i] = w at hv q
      cases q with
      | loc eh r =>
        obtain ⟨R', s', r'⟩ := R.freeze hs hv
        exact ⟨_, hv, o _ H R' s' (by rw [← e1, ← e2]; exact r')⟩
theorem out_of {F : Fm} {S : Sg} {σ : St} {H : Hp} {Q : VK} {o : Option Dat} {K : PySem.W.Frag} (R : Rel F S σ H) (h : out F W σ (vis F S σ H) (rE cm K) Q (Rs.of o S)) :
    ∃ d, o = some d ∧ ∀ v H', L2.Same H H' → Rp cm K (hid (F.M ++ locs S σ) H') v d → Q v H' := by
  cases o with
  | none => exact False.elim h
  | some d => exact ⟨d, rfl, fun v H' s r => h v H' (R.grow s) (vis_grow s) r⟩
theorem ge_op {op} (o : OpR X (binaryOp op) (rD cm X.K g)) (ha : PE X a (tE cm X.K W ma)) (hb : PE X b (tE cm X.K W mb)) : PE X (.BinOp a op b pos) (tE cm X.K W (m2 g ma mb)) :=
  PE.weak (pe_op o ha hb) fun σ H Q ⟨F, S, e1, e2, R, h⟩ => tG_bind e1 e2 R h fun F x H1 da S1 e1 e2 R1 s1 p1 h1 => tG_bind e1 e2 R1 h1 fun F y H2 db S2 e1 e2 R2 s2 p2 h2 => by
    obtain ⟨d, e, q⟩ := out_of R2 h2
    exact ⟨_, da, db, d, R2.live, p1.mono s2, p2, e, q⟩
theorem ge_cmp {op} (o : OpR X (compareOp op) (rD cm X.K g)) (ha : PE X a (tE cm X.K W ma)) (hb : PE X b (tE cm X.K W mb)) (hm : behindInMarks op b = false) : PE X (.Compare a [op] [b] pos) (tE cm X.K W (m2 g ma mb)) :=
  PE.weak (pe_cmpR o ha hb hm) fun σ H Q ⟨F, S, e1, e2, R, h⟩ => tG_bind e1 e2 R h fun F x H1 da S1 e1 e2 R1 s1 p1 h1 => tG_bind e1 e2 R1 h1 fun F y H2 db S2 e1 e2 R2 s2 p2 h2 => by
    obtain ⟨d, e, q⟩ := out_of R2 h2
    exact ⟨_, da, db, d, R2.live, p1.mono s2, p2, e, q⟩
theorem ge_ix (o : IxR X (rD cm X.K g)) (ha : PE X a (tE cm X.K W ma)) (hb : PE X b (tE cm X.K W mb)) (hm : PlainIx b) : PE X (.Subscript a b pos) (tE cm X.K W (m2 g ma mb)) :=
  PE.weak (pe_ix o ha hb hm) fun σ H Q ⟨F, S, e1, e2, R, h⟩ => tG_bind e1 e2 R h fun F x H1 da S1 e1 e2 R1 s1 p1 h1 => tG_bind e1 e2 R1 h1 fun F y H2 db S2 e1 e2 R2 s2 p2 h2 => by
    obtain ⟨d, e, q⟩ := out_of R2 h2
    exact ⟨_, da, db, d, R2.live, p1.mono s2, p2, e, q⟩
theorem ge_un {op} {f : Dat → Option Dat} (o : UnR X (unaryOp op) (rU cm X.K f)) (ha : PE X a (tE cm X.K W ma)) : PE X (.UnaryOp op a pos) (tE cm X.K W (m1 f ma)) :=
  PE.weak (pe_un o ha) fun σ H Q ⟨F, S, e1, e2, R, h⟩ => tG_bind e1 e2 R h fun F x H1 da S1 e1 e2 R1 s1 p1 h1 => by
    obtain ⟨d, e, q⟩ := out_of R1 h1
    exact ⟨_, da, d, R1.live, p1, e, q⟩
theorem ge_chain {op op'} (o : OpR X (compareOp op) (rD cm X.K g)) (o' : OpR X (compareOp op') (rD cm X.K g')) (ha : PE X a (tE cm X.K W ma)) (hb : PE X b (tE cm X.K W mb)) (hc : PE X c (tE cm X.K W mc))
    (hm : lastMarks [op, op'] [b, c] = false := by rfl) (hbl : ∀ x y z, g x y = some z → ∃ t, z = .bl t := by intro x y z h; cases x <;> cases y <;> first | cases h | (cases h; exact ⟨_, rfl⟩)) : PE X (.Compare a [op, op'] [b, c] pos) (tE cm X.K W (mChain g g' ma mb mc)) :=
  PE.weak (pe_chain o o' ha hb hc hm) fun σ H Q ⟨F, S, e1, e2, R, h⟩ => tG_bind e1 e2 R h fun F x H1 da S1 e1 e2 R1 s1 p1 h1 => tG_bind e1 e2 R1 h1 fun F y H2 db S2 e1 e2 R2 s2 p2 h2 => by
    cases hg : g da db with
    | none => rw [hg] at h2; exact False.elim h2
    | some z =>
      rw [hg] at h2
      obtain ⟨t, rfl⟩ := hbl _ _ _ hg
      refine ⟨_, da, db, .bl t, R2.live, p1.mono s2, p2, hg, fun v H3 s3 r3 => ?_⟩
      cases r3
      refine ⟨t, rfl, ?_⟩
      have R3 := R2.grow s3
      cases t with
      | false => exact h2 _ H3 R3 (vis_grow s3) (.bl false)
      | true =>
        refine tG_bind e1 e2 R3 (out_same (vis_grow s3) h2) fun F w H4 dw S4 e1 e2 R4 s4 p4 h4 => ?_
        obtain ⟨d, e, q⟩ := out_of R4 h4
        exact ⟨_, db, dw, d, R4.live, (p2.mono (vis_grow s3)).mono s4, p4, e, q⟩
theorem ga_nil : PA X [] (tA cm X.K W mNil) := PA.weak pa_nil fun σ H Q ⟨F, S, e1, e2, R, h⟩ => h [] H R (.refl _) .nil
theorem ga_cons (ha : PE X e (tE cm X.K W ma)) (hr : PA X es (tA cm X.K W mr)) (hs : starEach (e :: es) X.env = (false, eval e X.env) :: starEach es X.env := by rfl) : PA X (e :: es) (tA cm X.K W (mCons ma mr)) :=
  PA.weak (pa_cons ha hr hs) fun σ H Q ⟨F, S, e1, e2, R, h⟩ => tG_bind e1 e2 R h fun F x H1 da S1 e1 e2 R1 s1 p1 h1 => tG_bind e1 e2 R1 h1 fun F y H2 db S2 e1 e2 R2 s2 p2 h2 => h2 _ H2 R2 (.refl _) (.cons (p1.mono s2) p2)
theorem ge_callB {x : Str} {p : Pos} {id : String} {f : List Dat → Option Dat} (hc : CallR X (.builtin id) (rDs cm X.K f)) (hg : Gl X x) (hm : X.mg x = none) (hv : bootBuiltins x = some (.builtin id)) (ha : PA X (e :: es) (tA cm X.K W mr))
    (hn : x ≠ "__name__" := by decide) (hdb : (x == ("__debug__" : Str)) = false := by decide) (he : starEach (e :: es) X.env = (false, eval e X.env) :: starEach es X.env := by rfl) (hpl : (backTo pos (starEach es X.env)).any (·.1) = false := by rfl) :
    PE X (.Call (.Name x p) (e :: es) [] pos) (tE cm X.K W (mCall f mr)) :=
  PE.weak (pe_callB hc hg hm hv ha hn hdb he hpl) fun σ H Q ⟨F, S, e1, e2, R, h⟩ => tG_bind e1 e2 R h fun F x H1 da S1 e1 e2 R1 s1 p1 h1 => by
    obtain ⟨d, e, q⟩ := out_of R1 h1
    exact ⟨_, da, d, R1.live, p1, e, q⟩
theorem ge_callTy {x : Str} {p : Pos} {T : String} {f : List Dat → Option Dat} (hc : CallR X (.type T) (rDs cm X.K f)) (hg : Gl X x) (hm : X.mg x = none) (hv : bootBuiltins x = some (.type T)) (ha : PA X (e :: es) (tA cm X.K W mr))
    (hn : x ≠ "__name__" := by decide) (hdb : (x == ("__debug__" : Str)) = false := by decide) (he : starEach (e :: es) X.env = (false, eval e X.env) :: starEach es X.env := by rfl) (hpl : (backTo pos (starEach es X.env)).any (·.1) = false := by rfl) :
    PE X (.Call (.Name x p) (e :: es) [] pos) (tE cm X.K W (mCall f mr)) :=
  PE.weak (pe_callTy hc hg hm hv ha hn hdb he hpl) fun σ H Q ⟨F, S, e1, e2, R, h⟩ => tG_bind e1 e2 R h fun F x H1 da S1 e1 e2 R1 s1 p1 h1 => by
    obtain ⟨d, e, q⟩ := out_of R1 h1
    exact ⟨_, da, d, R1.live, p1, e, q⟩
theorem ge_lst (ha : PA X es (tA cm X.K W mr)) : PE X (.List es pos) (tE cm X.K W (mLst mr)) :=
  PE.weak (pe_lst ha) fun σ H Q ⟨F, S, e1, e2, R, h⟩ => tG_bind e1 e2 R h fun F x H1 da S1 e1 e2 R1 s1 p1 h1 => by
    obtain ⟨d, e, q⟩ := out_of R1 h1
    unfold mkLst at e
    by_cases hl : da.length ≤ lim
    · rw [if_pos hl] at e
      cases e
      refine ⟨by rw [RpAll.length p1]; exact lim_line hl, fun p hp => q _ _ (same_new hp) (.lst (hid_new R1.live hp) (RpAll.mono (hid_grow (same_new hp)) p1))⟩
    · rw [if_neg hl] at e; cases e
theorem ge_tup {k} (ha : PA X es (tA cm X.K W mr)) : PE X (.Tuple es k pos) (tE cm X.K W (mTup mr)) :=
  PE.weak (pe_tup ha) fun σ H Q ⟨F, S, e1, e2, R, h⟩ => tG_bind e1 e2 R h fun F x H1 da S1 e1 e2 R1 s1 p1 h1 => by
    obtain ⟨d, e, q⟩ := out_of R1 h1
    unfold mkTup at e
    by_cases hl : da.length ≤ lim
    · rw [if_pos hl] at e
      cases e
      refine ⟨by rw [RpAll.length p1]; exact lim_line hl, fun p hp => q _ _ (same_new hp) (.tup (SqT.of (hid_new R1.live hp)) (RpAll.mono (hid_grow (same_new hp)) p1))⟩
    · rw [if_neg hl] at e; cases e
/-! ### tests -/
theorem gt_val (h : PE X e (tE cm X.K W ma)) (he : ∀ whole, isTrue e X.env whole = (do let v ← whole; standAt e.pos; holding [v] (truthy v)) := by intro _; rfl) : PT X e (tT cm X.K W (cTruth ma)) :=
  PT.weak (pt_val h he) fun σ H Q ⟨F, S, e1, e2, R, h⟩ => tG_bind e1 e2 R h fun F x H1 da S1 e1 e2 R1 s1 p1 h1 => by
    cases p1 with
    | bl t => exact ⟨t, rfl, h1 t H1 R1 (.refl _) rfl⟩
    | _ => exact False.elim h1
theorem gt_not (h : PT X e (tT cm X.K W ca)) : PT X (.UnaryOp .Not e pos) (tT cm X.K W (cNot ca)) :=
  PT.weak (pt_not h) fun σ H Q ⟨F, S, e1, e2, R, h⟩ => tG_bind e1 e2 R h fun F x H1 da S1 e1 e2 R1 s1 p1 h1 => by
    cases p1
    exact h1 _ H1 R1 (.refl _) rfl
theorem gw_and1 (h : PT X e (tT cm X.K W ca)) : PW X (.BoolOp .And [e] pos) (tT cm X.K W ca) := pw_and1 h
theorem gw_or1 (h : PT X e (tT cm X.K W ca)) : PW X (.BoolOp .Or [e] pos) (tT cm X.K W ca) := pw_or1 h
theorem gw_and (ha : PT X a (tT cm X.K W ca)) (hb : PW X (.BoolOp .And (b :: es) pos) (tT cm X.K W cb)) : PW X (.BoolOp .And (a :: b :: es) pos) (tT cm X.K W (cAnd ca cb)) :=
  PW.weak (pw_and ha hb) fun σ H Q ⟨F, S, e1, e2, R, h⟩ => tG_bind e1 e2 R h fun F x H1 da S1 e1 e2 R1 s1 p1 h1 => by
    cases p1
    cases x with
    | true => exact ⟨F, S1, e1, e2, R1, h1⟩
    | false => exact h1 _ H1 R1 (.refl _) rfl
theorem gw_or (ha : PT X a (tT cm X.K W ca)) (hb : PW X (.BoolOp .Or (b :: es) pos) (tT cm X.K W cb)) : PW X (.BoolOp .Or (a :: b :: es) pos) (tT cm X.K W (cOr ca cb)) :=
  PW.weak (pw_or ha hb) fun σ H Q ⟨F, S, e1, e2, R, h⟩ => tG_bind e1 e2 R h fun F x H1 da S1 e1 e2 R1 s1 p1 h1 => by
    cases p1
    cases x with
    | false => exact ⟨F, S1, e1, e2, R1, h1⟩
    | true => exact h1 _ H1 R1 (.refl _) rfl
theorem ge_and (ha : PE X a (tE cm X.K W ma)) (hb : PE X (.BoolOp .And (b :: es) pos) (tE cm X.K W mb)) : PE X (.BoolOp .And (a :: b :: es) pos) (tE cm X.K W (mAnd ma mb)) :=
  PE.weak (pe_and ha hb) fun σ H Q ⟨F, S, e1, e2, R, h⟩ => tG_bind e1 e2 R h fun F x H1 da S1 e1 e2 R1 s1 p1 h1 => by
    cases p1 with
    | bl t =>
      refine ⟨t, rfl, ?_⟩
      cases t with
      | true => exact ⟨F, S1, e1, e2, R1, h1⟩
      | false => exact h1 _ H1 R1 (.refl _) (.bl false)
    | _ => exact False.elim h1
theorem ge_or (ha : PE X a (tE cm X.K W ma)) (hb : PE X (.BoolOp .Or (b :: es) pos) (tE cm X.K W mb)) : PE X (.BoolOp .Or (a :: b :: es) pos) (tE cm X.K W (mOr ma mb)) :=
  PE.weak (pe_or ha hb) fun σ H Q ⟨F, S, e1, e2, R, h⟩ => tG_bind e1 e2 R h fun F x H1 da S1 e1 e2 R1 s1 p1 h1 => by
    cases p1 with
    | bl t =>
      refine ⟨t, rfl, ?_⟩
      cases t with
      | false => exact ⟨F, S1, e1, e2, R1, h1⟩
      | true => exact h1 _ H1 R1 (.refl _) (.bl true)
    | _ => exact False.elim h1
theorem ge_one {op} (h : PE X a (tE cm X.K W ma)) : PE X (.BoolOp op [a] pos) (tE cm X.K W ma) := pe_one h
theorem ge_not (ha : PE X a (tE cm X.K W ma)) : PE X (.UnaryOp .Not a pos) (tE cm X.K W (mNot ma)) :=
  PE.weak (pe_not ha) fun σ H Q ⟨F, S, e1, e2, R, h⟩ => tG_bind e1 e2 R h fun F x H1 da S1 e1 e2 R1 s1 p1 h1 => by
    cases p1 with
    | bl t => exact ⟨t, rfl, h1 _ H1 R1 (.refl _) (.bl _)⟩
    | _ => exact False.elim h1
theorem ge_if (hc : PT X c (tT cm X.K W ca)) (ha : PE X a (tE cm X.K W ma)) (hb : PE X b (tE cm X.K W mb)) : PE X (.IfExp c a b pos) (tE cm X.K W (mIf ca ma mb)) :=
  PE.weak (pe_ifExp hc ha hb) fun σ H Q ⟨F, S, e1, e2, R, h⟩ => tG_bind e1 e2 R h fun F x H1 da S1 e1 e2 R1 s1 p1 h1 => by
    cases p1
    cases x with
    | true => exact ⟨F, S1, e1, e2, R1, h1⟩
    | false => exact ⟨F, S1, e1, e2, R1, h1⟩
end
end Mir
/-! MirD: what the operators and built-ins do to the trees -/
namespace Mir
open PySem L2
def intD (f : Int → Int → Option Dat) : Dat → Dat → Option Dat
  | .int i, .int j => f i j
  | _, _ => none
def addD : Dat → Dat → Option Dat
  | .int i, .int j => some (.int (i + j))
  | .str x, .str y => if x.length + y.length ≤ lim then some (.str (x ++ y)) else none
  | .lst xs, .lst ys => if xs.length + ys.length ≤ lim then some (.lst (xs ++ ys)) else none
  | .tup xs, .tup ys => if xs ≠ [] ∧ xs.length + ys.length ≤ lim then some (.tup (xs ++ ys)) else none
  | _, _ => none
abbrev subD := intD fun i j => some (.int (i - j))
def small64 (i : Int) : Bool := decide (-(2 ^ 64) < i) && decide (i < 2 ^ 64)
def mulI (i j : Int) : Option Dat := if small64 i || small64 j then some (.int (i * j)) else none
def mulD : Dat → Dat → Option Dat
  | .int i, .int j => mulI i j
  | .lst xs, .int j => if -(2 ^ 63) ≤ j ∧ j < 2 ^ 63 ∧ xs.length * j.toNat ≤ lim then some (.lst (List.replicate j.toNat xs).flatten) else none
  | _, _ => none
abbrev modD := intD fun i j => if 0 < j then some (.int (i % j)) else none
abbrev fdivD := intD fun i j => if 0 < j ∧ j < 1073741824 then some (.int (i / j)) else none
abbrev powD := intD fun i j => if 0 ≤ j ∧ j ≤ 1000000 ∧ i.natAbs < 2 ^ 64 then some (.int (i ^ j.toNat)) else none
abbrev ltD := intD fun i j => some (.bl (decide (i < j)))
abbrev leD := intD fun i j => some (.bl (decide (i ≤ j)))
abbrev gtD := intD fun i j => some (.bl (decide (j < i)))
abbrev geD := intD fun i j => some (.bl (decide (j ≤ i)))
def isND (a b : Dat) : Option Dat := match b with
  | .non => match a with
    | .non => some (.bl true)
    | _ => some (.bl false)
  | _ => none
def notND (a b : Dat) : Option Dat := match b with
  | .non => match a with
    | .non => some (.bl false)
    | _ => some (.bl true)
  | _ => none
def negD : Dat → Option Dat
  | .int i => some (.int (-i))
  | _ => none
mutual
def toPy : Dat → Option PyData
  | .non => some .none
  | .bl b => some (.bool b)
  | .int i => some (.int i)
  | .str x => some (.str x)
  | .lst ds => match toPyAll ds with
    | some ps => some (.list ps)
    | none => none
  | .tup ds => match toPyAll ds with
    | some ps => some (.tuple ps)
    | none => none
  | .ro ds => match toPyAll ds with
    | some ps => some (.list ps)
    | none => none
  | .ins _ _ => none
  | .dic _ => none
  | .ptr _ => none
def toPyAll : List Dat → Option (List PyData)
  | [] => some []
  | d :: ds => match toPy d, toPyAll ds with
    | some p, some ps => some (p :: ps)
    | _, _ => none
end
def eqP (a b : Dat) : Option Bool := match toPy a, toPy b with
  | some p, some q => if SeqAt.shaped p && SeqAt.shaped q then some (PyData.eqv p q) else none
  | _, _ => none
def eqB : Dat → Dat → Option Bool
  | .int i, .int j => some (decide (i = j))
  | .str x, .str y => some (decide (x = y))
  | .bl x, .bl y => some (decide (x = y))
  | .non, .non => some true
  | a, b => eqP a b
def eqD (a b : Dat) : Option Dat := (eqB a b).map Dat.bl
def neD (a b : Dat) : Option Dat := (eqB a b).map fun t => Dat.bl (!t)
def ixD : Dat → Dat → Option Dat
  | .lst ds, .int i => atI ds i
  | .tup ds, .int i => atI ds i
  | .ro ds, .int i => atI ds i
  | .str x, .int i => if x.length ≤ lim then (atI x.cps.toList i).map fun c => Dat.str ⟨#[c]⟩ else none
  | _, _ => none
def flatD : Dat → Option V
  | .non => some .non
  | .bl b => some (.bl b)
  | .int i => some (.int i)
  | .str x => some (.str x)
  | _ => none
def flatAll : List Dat → Option (List V)
  | [] => some []
  | d :: ds => match flatD d, flatAll ds with
    | some v, some vs => some (v :: vs)
    | _, _ => none
def inB (a b : Dat) : Option Bool := match flatD a with
  | none => none
  | some v => match b with
    | .lst ds => (flatAll ds).map fun vs => inV v vs
    | .tup ds => (flatAll ds).map fun vs => inV v vs
    | _ => none
def notInD (a b : Dat) : Option Dat := (inB a b).map fun t => Dat.bl (!t)
/-! calls -/
def intsOf : List Dat → Option (List Int)
  | [] => some []
  | .int i :: ds => match intsOf ds with
    | some r => some (i :: r)
    | none => none
  | _ => none
def boolsOf : List Dat → Option (List Bool)
  | [] => some []
  | .bl i :: ds => match boolsOf ds with
    | some r => some (i :: r)
    | none => none
  | _ => none
def strsOf : List Dat → Option (List Str)
  | [] => some []
  | .str i :: ds => match strsOf ds with
    | some r => some (i :: r)
    | none => none
  | _ => none
def maxI : List Int → Int
  | [] => 0
  | [x] => x
  | x :: r => max x (maxI r)
def minI : List Int → Int
  | [] => 0
  | [x] => x
  | x :: r => min x (minI r)
def lenC : List Dat → Option Dat
  | [.lst ds] => some (.int ds.length)
  | [.tup ds] => some (.int ds.length)
  | [.ro ds] => some (.int ds.length)
  | [.str x] => if x.length ≤ lim then some (.int x.length) else none
  | _ => none
def absC : List Dat → Option Dat
  | [.int i] => some (.int (if i < 0 then -i else i))
  | _ => none
def maxC : List Dat → Option Dat
  | [.int i, .int j] => some (.int (if j > i then j else i))
  | [.lst ds] => match intsOf ds with
    | some (n :: r) => some (.int (maxI (n :: r)))
    | _ => none
  | _ => none
def minC : List Dat → Option Dat
  | [.int i, .int j] => some (.int (if j < i then j else i))
  | [.lst ds] => match intsOf ds with
    | some (n :: r) => some (.int (minI (n :: r)))
    | _ => none
  | _ => none
def allC : List Dat → Option Dat
  | [.lst ds] => (boolsOf ds).map fun ns => .bl (ns.all id)
  | _ => none
def intC : List Dat → Option Dat
  | [.int i] => some (.int i)
  | [.bl b] => some (.int (if b = true then 1 else 0))
  | _ => none
def divmodC : List Dat → Option Dat
  | [.int i, .int j] => if 0 < j ∧ j < 1073741824 then some (.tup [.int (i / j), .int (i % j)]) else none
  | _ => none
def tupleC : List Dat → Option Dat
  | [.lst ds] => some (.tup ds)
  | [.ro ds] => some (.tup ds)
  | [.tup ds] => some (.tup ds)
  | _ => none
def showP (p : PyData) : Option Str := if p.showable && !p.hasDict && decide (p.depth ≤ 60) && decide (p.shown.length ≤ sizeLine) then some p.shown else none
/-- the text of a new dict -/
def dic0 : Dat → Option Str
  | .dic [] => some "{}"
  | _ => none
theorem dic0_ok {d : Dat} {z : Str} (h : dic0 d = some z) : d = .dic [] ∧ z = "{}" := by
  unfold dic0 at h
  split at h
  · cases h; exact ⟨rfl, rfl⟩
  · cases h
def reprS (d : Dat) : Option Str := match toPy d with
  | some p => showP p
  | none => dic0 d
section
variable {X : Cx} {cm : CM}
theorem o_int {f : Value → Value → Sem Value} {C : Int → Int → Prop} {g : Int → Int → V} {h : Int → Int → Option Dat} (o : OpR X f (rI C g)) (k : ∀ i j d, h i j = some d → C i j ∧ ∀ G, Rp cm X.K G (g i j) d) : OpR X f (rD cm X.K (intD h)) := by
  rintro pins s σ H x y v u Q I rx ry ⟨M, a, b, c, lv, pa, pb, e, q⟩
  cases a with
  | int i =>
    cases b with
    | int j =>
      cases pa
      cases pb
      obtain ⟨k1, k2⟩ := k i j c e
      exact o pins s σ H _ _ v u Q I rx ry ⟨i, j, rfl, rfl, k1, q _ H (.refl _) (k2 _)⟩
    | _ => cases e
  | _ => cases e
theorem o_int0 {f : Value → Value → Sem Value} {g : Int → Int → V} {h : Int → Int → Option Dat} (o : OpR X f (rI0 g)) (k : ∀ i j d, h i j = some d → ∀ G, Rp cm X.K G (g i j) d) : OpR X f (rD cm X.K (intD h)) := by
  rintro pins s σ H x y v u Q I rx ry ⟨M, a, b, c, lv, pa, pb, e, q⟩
  cases a with
  | int i =>
    cases b with
    | int j =>
      cases pa
      cases pb
      exact o pins s σ H _ _ v u Q I rx ry ⟨i, j, rfl, rfl, q _ H (.refl _) (k i j c e _)⟩
    | _ => cases e
  | _ => cases e
theorem o_add : OpR X (binaryOp .Add) (rD cm X.K addD) := by
  rintro pins s σ H x y v u Q I rx ry ⟨M, a, b, c, lv, pa, pb, e, q⟩
  cases a with
  | int i =>
    cases b with
    | int j =>
      cases pa; cases pb; cases e
      exact op_add pins s σ H _ _ v u Q I rx ry ⟨i, j, rfl, rfl, q _ H (.refl _) (.int _)⟩
    | _ => cases e
  | str i =>
    cases b with
    | str j =>
      cases pa; cases pb
      unfold addD at e
      by_cases hz : i.length + j.length ≤ lim
      · dsimp only at e
        rw [if_pos hz] at e; cases e
        exact op_add_str pins s σ H _ _ v u Q I rx ry ⟨i, j, rfl, rfl, lim_line hz, q _ H (.refl _) (.str _)⟩
      · dsimp only at e
        rw [if_neg hz] at e; cases e
    | _ => cases e
  | lst i =>
    cases b with
    | lst j =>
      unfold addD at e
      by_cases hz : i.length + j.length ≤ lim
      · dsimp only at e
        rw [if_pos hz] at e; cases e
        cases pa with
        | lst ha ra =>
          cases pb with
          | lst hb rb =>
            refine op_cat pins s σ H _ _ v u Q I rx ry ⟨_, _, _, _, rfl, rfl, hid_le _ _ ha, hid_le _ _ hb, ?_, fun p hp => q _ _ (same_new hp) (.lst (hid_new lv hp) ((ra.append rb).mono (hid_grow (same_new hp))))⟩
            rw [ra.length, rb.length]; exact lim_line hz
      · dsimp only at e
        rw [if_neg hz] at e; cases e
    | _ => cases e
  | tup i =>
    cases b with
    | tup j =>
      unfold addD at e
      by_cases hz : i ≠ [] ∧ i.length + j.length ≤ lim
      · dsimp only at e
        rw [if_pos hz] at e; cases e
        cases pa with
        | tup ha ra =>
          cases pb with
          | tup hb rb =>
            refine op_catT pins s σ H _ _ v u Q I rx ry ⟨_, _, _, _, rfl, rfl, sqT_same hid_le ha, sqT_same hid_le hb, fun z => hz.1 ?_, ?_, fun z => q _ _ (.refl _) ?_, fun _ p hp => q _ _ (same_new hp) (.tup (SqT.of (hid_new lv hp)) ((ra.append rb).mono (hid_grow (same_new hp))))⟩
            · have l := ra.length
              rw [z] at l
              cases i with
              | nil => rfl
              | cons _ _ => cases l
            · rw [ra.length, rb.length]; exact lim_line hz.2
            · subst z
              cases rb
              rw [List.append_nil]
              exact .tup ha ra
      · dsimp only at e
        rw [if_neg hz] at e; cases e
    | _ => cases e
  | _ => cases e
theorem o_sub : OpR X (binaryOp .Sub) (rD cm X.K subD) := o_int0 op_sub fun i j d e G => by cases e; exact .int _
theorem o_mul : OpR X (binaryOp .Mult) (rD cm X.K mulD) := by
  rintro pins s σ H x y v u Q I rx ry ⟨M, a, b, c, lv, pa, pb, e, q⟩
  cases a with
  | int i =>
    cases b with
    | int j =>
      cases pa; cases pb
      have e' : mulI i j = some c := e
      unfold mulI small64 at e'
      by_cases hz : (decide (-(2 ^ 64) < i) && decide (i < 2 ^ 64) || decide (-(2 ^ 64) < j) && decide (j < 2 ^ 64)) = true
      · rw [if_pos hz] at e'; cases e'
        simp only [Bool.or_eq_true, Bool.and_eq_true, decide_eq_true_eq] at hz
        exact op_mul pins s σ H _ _ v u Q I rx ry ⟨i, j, rfl, rfl, hz, q _ H (.refl _) (.int _)⟩
      · rw [if_neg hz] at e'; cases e'
    | _ => cases e
  | lst i =>
    cases b with
    | int j =>
      cases pb
      unfold mulD at e
      by_cases hz : -(2 ^ 63) ≤ j ∧ j < 2 ^ 63 ∧ i.length * j.toNat ≤ lim
      · dsimp only at e
        rw [if_pos hz] at e; cases e
        cases pa with
        | lst ha ra =>
          have rr : ∀ n : Nat, RpAll cm X.K (hid M H) (List.replicate n _).flatten (List.replicate n i).flatten := fun n => by
            induction n with
            | zero => exact .nil
            | succ n ih => rw [List.replicate_succ, List.replicate_succ, List.flatten_cons, List.flatten_cons]; exact ra.append ih
          refine op_rep pins s σ H _ _ v u Q I rx ry ⟨_, j, _, rfl, rfl, hid_le _ _ ha, hz.1, hz.2.1, ?_, fun p hp => q _ _ (same_new hp) (.lst (hid_new lv hp) ((rr _).mono (hid_grow (same_new hp))))⟩
          rw [ra.length]; exact lim_line hz.2.2
      · dsimp only at e
        rw [if_neg hz] at e; cases e
    | _ => cases e
  | _ => cases e
theorem o_mod : OpR X (binaryOp .Mod) (rD cm X.K modD) := o_int op_mod fun i j d e => by
  by_cases hz : 0 < j
  · rw [if_pos hz] at e; cases e; exact ⟨hz, fun _ => .int _⟩
  · rw [if_neg hz] at e; cases e
theorem o_fdiv : OpR X (binaryOp .FloorDiv) (rD cm X.K fdivD) := o_int op_fdiv fun i j d e => by
  by_cases hz : 0 < j ∧ j < 1073741824
  · rw [if_pos hz] at e; cases e; exact ⟨hz, fun _ => .int _⟩
  · rw [if_neg hz] at e; cases e
theorem o_pow : OpR X (binaryOp .Pow) (rD cm X.K powD) := o_int op_pow fun i j d e => by
  by_cases hz : 0 ≤ j ∧ j ≤ 1000000 ∧ i.natAbs < 2 ^ 64
  · rw [if_pos hz] at e; cases e; exact ⟨hz, fun _ => .int _⟩
  · rw [if_neg hz] at e; cases e
theorem o_lt : OpR X (compareOp .Lt) (rD cm X.K ltD) := o_int0 op_lt fun i j d e G => by cases e; exact .bl _
theorem o_le : OpR X (compareOp .LtE) (rD cm X.K leD) := o_int0 op_le fun i j d e G => by cases e; exact .bl _
theorem o_gt : OpR X (compareOp .Gt) (rD cm X.K gtD) := o_int0 op_gt fun i j d e G => by cases e; exact .bl _
theorem o_ge : OpR X (compareOp .GtE) (rD cm X.K geD) := o_int0 op_ge fun i j d e G => by cases e; exact .bl _
theorem rp_non {K : PySem.W.Frag} {G : VH} {x : V} {a : Dat} (p : Rp cm K G x a) : (decide (x = .non)) = (match a with | .non => true | _ => false) := by
  cases p <;> rfl
theorem o_isN : OpR X (compareOp .Is) (rD cm X.K isND) := by
  rintro pins s σ H x y v u Q I rx ry ⟨M, a, b, c, lv, pa, pb, e, q⟩
  cases b with
  | non =>
    cases pb
    have d := rp_non pa
    refine op_isN pins s σ H _ _ v u Q I rx ry ⟨rfl, ?_⟩
    rw [d]
    cases a <;> (cases e; exact q _ H (.refl _) (.bl _))
  | _ => cases e
theorem o_notN : OpR X (compareOp .IsNot) (rD cm X.K notND) := by
  rintro pins s σ H x y v u Q I rx ry ⟨M, a, b, c, lv, pa, pb, e, q⟩
  cases b with
  | non =>
    cases pb
    have d := rp_non pa
    refine op_notN pins s σ H _ _ v u Q I rx ry ⟨rfl, ?_⟩
    rw [d]
    cases a <;> (cases e; exact q _ H (.refl _) (.bl _))
  | _ => cases e
theorem u_neg : UnR X (unaryOp .USub) (rU cm X.K negD) := by
  rintro pins s σ H x v Q I rx ⟨M, a, c, lv, pa, e, q⟩
  cases a with
  | int i =>
    cases pa; cases e
    exact un_neg pins s σ H _ v Q I rx ⟨i, rfl, q _ H (.refl _) (.int _)⟩
  | _ => cases e
mutual
theorem dp_of {K : PySem.W.Frag} {G : VH} : ∀ {v : V} {d : Dat} {p : PyData}, Rp cm K G v d → toPy d = some p → Dp K G v p
  | _, _, _, .non, e => by cases e; exact .non
  | _, _, _, .bl b, e => by cases e; exact .bl b
  | _, _, _, .int b, e => by cases e; exact .int b
  | _, _, _, .str b, e => by cases e; exact .str b
  | _, _, p, .lst (ds := ds) s r, e => by
    rw [toPy] at e
    cases h : toPyAll ds with
    | none => rw [h] at e; cases e
    | some ps => rw [h] at e; cases e; exact .lst (SqL.of s) (dpAll_of r h)
  | _, _, p, .ro (ds := ds) s r, e => by
    rw [toPy] at e
    cases h : toPyAll ds with
    | none => rw [h] at e; cases e
    | some ps => rw [h] at e; cases e; exact .lst s (dpAll_of r h)
  | _, _, p, .tup (ds := ds) s r, e => by
    rw [toPy] at e
    cases h : toPyAll ds with
    | none => rw [h] at e; cases e
    | some ps => rw [h] at e; cases e; exact .tup s (dpAll_of r h)
  | _, _, _, .ins s r, e => by rw [toPy] at e; cases e
  | _, _, _, .dic s r, e => by rw [toPy] at e; cases e
  | _, _, _, .ptr q, e => by rw [toPy] at e; cases e
theorem dpAll_of {K : PySem.W.Frag} {G : VH} : ∀ {vs : List V} {ds : List Dat} {ps : List PyData}, RpAll cm K G vs ds → toPyAll ds = some ps → DpAll K G vs ps
  | _, _, _, .nil, e => by rw [toPyAll] at e; cases e; exact .nil
  | _, _, _, .cons (d := d) (ds := ds) a b, e => by
    rw [toPyAll] at e
    cases h : toPy d with
    | none => rw [h] at e; cases e
    | some p =>
      cases h2 : toPyAll ds with
      | none => rw [h, h2] at e; cases e
      | some ps => rw [h, h2] at e; cases e; exact .cons (dp_of a h) (dpAll_of b h2)
end
theorem eqP_eq {t : Bool} {M : Hd} {H : Hp} {x y : V} {a b : Dat} (pa : Rp cm X.K (hid M H) x a) (pb : Rp cm X.K (hid M H) y b) (e : eqP a b = some t) :
    ∃ d f, Dp X.K H x d ∧ Dp X.K H y f ∧ SeqAt.shaped d = true ∧ SeqAt.shaped f = true ∧ PyData.eqv d f = t := by
  unfold eqP at e
  cases ha : toPy a with
  | none => rw [ha] at e; cases e
  | some p =>
    cases hb : toPy b with
    | none => rw [ha, hb] at e; cases e
    | some r =>
      rw [ha, hb] at e
      dsimp only at e
      by_cases hz : (SeqAt.shaped p && SeqAt.shaped r) = true
      · rw [if_pos hz] at e
        cases e
        rw [Bool.and_eq_true] at hz
        exact ⟨p, r, dp_of (pa.mono hid_le') ha, dp_of (pb.mono hid_le') hb, hz.1, hz.2, rfl⟩
      · rw [if_neg hz] at e; cases e
/-- == of plain data -/
theorem eqB_cases {t : Bool} {M : Hd} {H : Hp} {x y : V} {a b : Dat} (pa : Rp cm X.K (hid M H) x a) (pb : Rp cm X.K (hid M H) y b) (e : eqB a b = some t) :
    (scal x y = true ∧ decide (x = y) = t) ∨ ∃ d f, Dp X.K H x d ∧ Dp X.K H y f ∧ SeqAt.shaped d = true ∧ SeqAt.shaped f = true ∧ PyData.eqv d f = t := by
  have gen : eqP a b = some t → (scal x y = true ∧ decide (x = y) = t) ∨ ∃ d f, Dp X.K H x d ∧ Dp X.K H y f ∧ SeqAt.shaped d = true ∧ SeqAt.shaped f = true ∧ PyData.eqv d f = t := fun e => .inr (eqP_eq pa pb e)
  cases a with
  | int i =>
    cases b with
    | int j => cases pa; cases pb; cases e; exact .inl ⟨rfl, by simp⟩
    | _ => exact gen (by simpa [eqB] using e)
  | str i =>
    cases b with
    | str j => cases pa; cases pb; cases e; exact .inl ⟨rfl, by simp⟩
    | _ => exact gen (by simpa [eqB] using e)
  | bl i =>
    cases b with
    | bl j => cases pa; cases pb; cases e; exact .inl ⟨rfl, by simp⟩
    | _ => exact gen (by simpa [eqB] using e)
  | non =>
    cases b with
    | non => cases pa; cases pb; cases e; exact .inl ⟨rfl, by simp⟩
    | _ => exact gen (by simpa [eqB] using e)
  | _ => exact gen (by simpa [eqB] using e)
theorem o_eq (hu : X.A.units + 64 < cLine) : OpR X (compareOp .Eq) (rD cm X.K eqD) := by
  rintro pins s σ H x y v u Q I rx ry ⟨M, a, b, c, lv, pa, pb, e, q⟩
  unfold eqD at e
  cases h : eqB a b with
  | none => rw [h] at e; cases e
  | some t =>
    rw [h] at e
    cases e
    rcases eqB_cases pa pb h with ⟨h1, rfl⟩ | ⟨d, f, h1, h2, h3, h4, rfl⟩
    · exact op_eq pins s σ H _ _ v u Q I rx ry ⟨h1, q _ H (.refl _) (.bl _)⟩
    · exact op_eqD hu pins s σ H _ _ v u Q I rx ry ⟨d, f, h1, h2, h3, h4, q _ H (.refl _) (.bl _)⟩
theorem o_ne (hu : X.A.units + 64 < cLine) : OpR X (compareOp .NotEq) (rD cm X.K neD) := by
  rintro pins s σ H x y v u Q I rx ry ⟨M, a, b, c, lv, pa, pb, e, q⟩
  unfold neD at e
  cases h : eqB a b with
  | none => rw [h] at e; cases e
  | some t =>
    rw [h] at e
    cases e
    rcases eqB_cases pa pb h with ⟨h1, rfl⟩ | ⟨d, f, h1, h2, h3, h4, rfl⟩
    · exact op_ne pins s σ H _ _ v u Q I rx ry ⟨h1, q _ H (.refl _) (.bl _)⟩
    · exact op_neD hu pins s σ H _ _ v u Q I rx ry ⟨d, f, h1, h2, h3, h4, q _ H (.refl _) (.bl _)⟩
theorem at_rp {K : PySem.W.Frag} {G : VH} {vs : List V} {ds : List Dat} {i : Int} {d : Dat} (r : RpAll cm K G vs ds) (e : atI ds i = some d) : ∃ v, atI vs i = some v ∧ Rp cm K G v d := by
  unfold atI at e ⊢
  rw [r.length]
  cases h : ixN ds.length i with
  | none => rw [h] at e; cases e
  | some j => rw [h] at e; exact r.get e
theorem i_ix : IxR X (rD cm X.K ixD) := by
  rintro ve vs pins s σ H x y v u Q I rx ry ⟨M, a, b, c, lv, pa, pb, e, q⟩ hp
  cases b with
  | int i =>
    cases pb
    cases a with
    | lst ds =>
      cases pa with
      | lst ha ra =>
        obtain ⟨w, e1, e2⟩ := at_rp ra e
        exact ix_list ve vs pins s σ H _ _ v u Q I rx ry ⟨_, _, i, w, rfl, rfl, SqL.of (hid_le _ _ ha), e1, q _ H (.refl _) e2⟩ hp
    | ro ds =>
      cases pa with
      | ro ha ra =>
        obtain ⟨w, e1, e2⟩ := at_rp ra e
        exact ix_list ve vs pins s σ H _ _ v u Q I rx ry ⟨_, _, i, w, rfl, rfl, L2.Same.seq hid_le ha, e1, q _ H (.refl _) e2⟩ hp
    | tup ds =>
      cases pa with
      | tup ha ra =>
        obtain ⟨w, e1, e2⟩ := at_rp ra e
        exact ix_tup ve vs pins s σ H _ _ v u Q I rx ry ⟨_, _, i, w, rfl, rfl, sqT_same hid_le ha, e1, q _ H (.refl _) e2⟩ hp
    | str z =>
      cases pa
      unfold ixD at e
      dsimp only at e
      by_cases hz : z.length ≤ lim
      · rw [if_pos hz] at e
        cases h : atI z.cps.toList i with
        | none => rw [h] at e; cases e
        | some n =>
          rw [h] at e; cases e
          exact ix_str ve vs pins s σ H _ _ v u Q I rx ry ⟨z, i, n, rfl, rfl, lim_line hz, h, q _ H (.refl _) (.str _)⟩ hp
      · rw [if_neg hz] at e; cases e
    | _ => cases e
  | _ => cases a <;> cases e
theorem flat_rp {K : PySem.W.Frag} {G : VH} {v w : V} {d : Dat} (r : Rp cm K G v d) (e : flatD d = some w) : v = w ∧ flatV v = true := by
  cases r <;> cases e <;> exact ⟨rfl, rfl⟩
theorem flatAll_rp {K : PySem.W.Frag} {G : VH} : ∀ {vs : List V} {ds : List Dat} {ws : List V}, RpAll cm K G vs ds → flatAll ds = some ws → vs = ws ∧ vs.all flatV = true
  | _, _, _, .nil, e => by cases e; exact ⟨rfl, rfl⟩
  | _, _, _, .cons (d := d) (ds := ds) a b, e => by
    unfold flatAll at e
    cases h : flatD d with
    | none => rw [h] at e; cases e
    | some p =>
      cases h2 : flatAll ds with
      | none => rw [h, h2] at e; cases e
      | some ps =>
        rw [h, h2] at e; cases e
        obtain ⟨e1, f1⟩ := flat_rp a h
        obtain ⟨e2, f2⟩ := flatAll_rp b h2
        subst e1; subst e2
        exact ⟨rfl, by rw [List.all_cons, f1, f2]; rfl⟩
theorem inB_rp {t : Bool} {M : Hd} {H : Hp} {x y : V} {a b : Dat} (pa : Rp cm X.K (hid M H) x a) (pb : Rp cm X.K (hid M H) y b) (e : inB a b = some t) :
    ∃ p xs, y = .ref p ∧ (SqL X.K H p xs ∨ SqT X.K H p xs) ∧ flatV x = true ∧ xs.all flatV = true ∧ inV x xs = t := by
  unfold inB at e
  cases ha : flatD a with
  | none => rw [ha] at e; cases e
  | some w =>
    rw [ha] at e
    obtain ⟨rfl, f1⟩ := flat_rp pa ha
    cases b with
    | lst ds =>
      cases pb with
      | lst hb rb =>
        dsimp only at e
        cases h : flatAll ds with
        | none => rw [h] at e; cases e
        | some ws =>
          rw [h] at e; cases e
          obtain ⟨rfl, f2⟩ := flatAll_rp rb h
          exact ⟨_, _, rfl, .inl (SqL.of (hid_le _ _ hb)), f1, f2, rfl⟩
    | tup ds =>
      cases pb with
      | tup hb rb =>
        dsimp only at e
        cases h : flatAll ds with
        | none => rw [h] at e; cases e
        | some ws =>
          rw [h] at e; cases e
          obtain ⟨rfl, f2⟩ := flatAll_rp rb h
          exact ⟨_, _, rfl, .inr (sqT_same hid_le hb), f1, f2, rfl⟩
    | _ => cases e
theorem o_notIn : OpR X (compareOp .NotIn) (rD cm X.K notInD) := by
  rintro pins s σ H x y v u Q I rx ry ⟨M, a, b, c, lv, pa, pb, e, q⟩
  unfold notInD at e
  cases h : inB a b with
  | none => rw [h] at e; cases e
  | some t =>
    rw [h] at e; cases e
    obtain ⟨p, xs, e1, e2, e3, e4, rfl⟩ := inB_rp pa pb h
    exact op_notIn_seq pins s σ H _ _ v u Q I rx ry ⟨p, xs, e1, e2, e3, e4, q _ H (.refl _) (.bl _)⟩
end
end Mir
/-! MirE: built-in functions -/
namespace Mir
open PySem L2
section
variable {X : Cx} {cm : CM}
theorem ints_rp {K : PySem.W.Frag} {G : VH} : ∀ {vs : List V} {ds : List Dat} {ns : List Int}, RpAll cm K G vs ds → intsOf ds = some ns → vs = ns.map V.int
  | _, _, _, .nil, e => by cases e; rfl
  | _, _, _, .cons (d := d) (ds := ds) a b, e => by
    cases d with
    | int i =>
      cases a
      unfold intsOf at e
      cases h : intsOf ds with
      | none => rw [h] at e; cases e
      | some r => rw [h] at e; cases e; rw [ints_rp b h]; rfl
    | _ => cases e
theorem bools_rp {K : PySem.W.Frag} {G : VH} : ∀ {vs : List V} {ds : List Dat} {ns : List Bool}, RpAll cm K G vs ds → boolsOf ds = some ns → vs = ns.map V.bl
  | _, _, _, .nil, e => by cases e; rfl
  | _, _, _, .cons (d := d) (ds := ds) a b, e => by
    cases d with
    | bl i =>
      cases a
      unfold boolsOf at e
      cases h : boolsOf ds with
      | none => rw [h] at e; cases e
      | some r => rw [h] at e; cases e; rw [bools_rp b h]; rfl
    | _ => cases e
theorem maxI_mem : ∀ (n : Int) (r : List Int), maxI (n :: r) ∈ n :: r ∧ ∀ y ∈ n :: r, y ≤ maxI (n :: r)
  | n, [] => ⟨List.mem_singleton.mpr rfl, fun y h => by rw [List.mem_singleton.mp h]; exact Int.le_refl _⟩
  | n, m :: r => by
    obtain ⟨h1, h2⟩ := maxI_mem m r
    show max n (maxI (m :: r)) ∈ _ ∧ ∀ y ∈ _, y ≤ max n (maxI (m :: r))
    refine ⟨?_, fun y hy => ?_⟩
    · by_cases h : n ≤ maxI (m :: r)
      · rw [Int.max_eq_right h]; exact List.mem_cons_of_mem _ h1
      · rw [Int.max_eq_left (by omega)]; exact List.mem_cons_self ..
    · rcases List.mem_cons.mp hy with e | e
      · rw [e]; exact Int.le_max_left _ _
      · exact Int.le_trans (h2 y e) (Int.le_max_right _ _)
theorem minI_mem : ∀ (n : Int) (r : List Int), minI (n :: r) ∈ n :: r ∧ ∀ y ∈ n :: r, minI (n :: r) ≤ y
  | n, [] => ⟨List.mem_singleton.mpr rfl, fun y h => by rw [List.mem_singleton.mp h]; exact Int.le_refl _⟩
  | n, m :: r => by
    obtain ⟨h1, h2⟩ := minI_mem m r
    show min n (minI (m :: r)) ∈ _ ∧ ∀ y ∈ _, min n (minI (m :: r)) ≤ y
    refine ⟨?_, fun y hy => ?_⟩
    · by_cases h : n ≤ minI (m :: r)
      · rw [Int.min_eq_left h]; exact List.mem_cons_self ..
      · rw [Int.min_eq_right (by omega)]; exact List.mem_cons_of_mem _ h1
    · rcases List.mem_cons.mp hy with e | e
      · rw [e]; exact Int.min_le_left _ _
      · exact Int.le_trans (Int.min_le_right _ _) (h2 y e)
theorem c_len : CallR X (.builtin "len") (rDs cm X.K lenC) := by
  rintro pins s σ H xs us Q I r ⟨M, ds, c, lv, pa, e, q⟩
  cases pa with
  | nil => cases e
  | cons p1 p2 =>
    cases p2 with
    | cons _ _ => cases p1 <;> cases e
    | nil =>
      cases p1 with
      | lst ha ra => cases e; exact call_len pins s σ H _ us Q I r ⟨_, _, rfl, .inl ⟨_, SqL.of (hid_le _ _ ha), ra.length.symm⟩, q _ H (.refl _) (.int _)⟩
      | ro ha ra => cases e; exact call_len pins s σ H _ us Q I r ⟨_, _, rfl, .inl ⟨_, L2.Same.seq hid_le ha, ra.length.symm⟩, q _ H (.refl _) (.int _)⟩
      | tup ha ra => cases e; exact call_len pins s σ H _ us Q I r ⟨_, _, rfl, .inr ⟨_, sqT_same hid_le ha, ra.length.symm⟩, q _ H (.refl _) (.int _)⟩
      | str z =>
        unfold lenC at e
        dsimp only at e
        by_cases hz : z.length ≤ lim
        · rw [if_pos hz] at e; cases e
          exact call_len pins s σ H _ us Q I r ⟨_, _, rfl, ⟨lim_line hz, rfl⟩, q _ H (.refl _) (.int _)⟩
        · rw [if_neg hz] at e; cases e
      | _ => cases e
theorem c_abs : CallR X (.builtin "abs") (rDs cm X.K absC) := by
  rintro pins s σ H xs us Q I r ⟨M, ds, c, lv, pa, e, q⟩
  cases pa with
  | nil => cases e
  | cons p1 p2 =>
    cases p2 with
    | cons _ _ => cases p1 <;> cases e
    | nil =>
      cases p1 with
      | int i => cases e; exact call_abs pins s σ H _ us Q I r ⟨i, rfl, q _ H (.refl _) (.int _)⟩
      | _ => cases e
theorem c_max (hc : X.calm = true) : CallR X (.builtin "max") (rDs cm X.K maxC) := by
  rintro pins s σ H xs us Q I r ⟨M, ds, c, lv, pa, e, q⟩
  cases pa with
  | nil => cases e
  | cons p1 p2 =>
    cases p2 with
    | cons p2 p3 =>
      cases p3 with
      | cons _ _ => cases p1 <;> cases p2 <;> cases e
      | nil =>
        cases p1 with
        | int i =>
          cases p2 with
          | int j => cases e; exact call_max2 hc pins s σ H _ us Q I r ⟨i, j, rfl, q _ H (.refl _) (.int _)⟩
          | _ => cases e
        | _ => cases e
    | nil =>
      cases p1 with
      | @lst a vs ds ha ra =>
        have e' : (match intsOf ds with | some (n :: r) => some (Dat.int (maxI (n :: r))) | _ => none) = some c := e
        cases h : intsOf ds with
        | none => rw [h] at e'; cases e'
        | some ns =>
          rw [h] at e'
          cases ns with
          | nil => cases e'
          | cons n r' =>
            cases e'
            have z := ints_rp ra h
            subst z
            obtain ⟨m1, m2⟩ := maxI_mem n r'
            refine cr_max hc pins s σ H _ us Q I r ⟨_, n :: r', rfl, SqL.of (hid_le _ _ ha), Nat.succ_pos _, fun m hm hle => ?_⟩
            rw [Int.le_antisymm (m2 m hm) (hle _ m1)]
            exact q _ H (.refl _) (.int _)
      | _ => cases e
theorem c_min (hc : X.calm = true) : CallR X (.builtin "min") (rDs cm X.K minC) := by
  rintro pins s σ H xs us Q I r ⟨M, ds, c, lv, pa, e, q⟩
  cases pa with
  | nil => cases e
  | cons p1 p2 =>
    cases p2 with
    | cons p2 p3 =>
      cases p3 with
      | cons _ _ => cases p1 <;> cases p2 <;> cases e
      | nil =>
        cases p1 with
        | int i =>
          cases p2 with
          | int j => cases e; exact call_min2 hc pins s σ H _ us Q I r ⟨i, j, rfl, q _ H (.refl _) (.int _)⟩
          | _ => cases e
        | _ => cases e
    | nil =>
      cases p1 with
      | @lst a vs ds ha ra =>
        have e' : (match intsOf ds with | some (n :: r) => some (Dat.int (minI (n :: r))) | _ => none) = some c := e
        cases h : intsOf ds with
        | none => rw [h] at e'; cases e'
        | some ns =>
          rw [h] at e'
          cases ns with
          | nil => cases e'
          | cons n r' =>
            cases e'
            have z := ints_rp ra h
            subst z
            obtain ⟨m1, m2⟩ := minI_mem n r'
            refine cr_min hc pins s σ H _ us Q I r ⟨_, n :: r', rfl, SqL.of (hid_le _ _ ha), Nat.succ_pos _, fun m hm hle => ?_⟩
            rw [Int.le_antisymm (hle _ m1) (m2 m hm)]
            exact q _ H (.refl _) (.int _)
      | _ => cases e
theorem c_all (hc : X.calm = true) : CallR X (.builtin "all") (rDs cm X.K allC) := by
  rintro pins s σ H xs us Q I r ⟨M, ds, c, lv, pa, e, q⟩
  cases pa with
  | nil => cases e
  | cons p1 p2 =>
    cases p2 with
    | cons _ _ => cases p1 <;> cases e
    | nil =>
      cases p1 with
      | @lst a vs ds ha ra =>
        have e' : (boolsOf ds).map (fun ns => Dat.bl (ns.all id)) = some c := e
        cases h : boolsOf ds with
        | none => rw [h] at e'; cases e'
        | some ns =>
          rw [h] at e'; cases e'
          have z := bools_rp ra h
          subst z
          exact cr_all hc pins s σ H _ us Q I r ⟨_, ns, rfl, SqL.of (hid_le _ _ ha), q _ H (.refl _) (.bl _)⟩
      | _ => cases e
theorem c_int : CallR X (.type "int") (rDs cm X.K intC) := by
  rintro pins s σ H xs us Q I r ⟨M, ds, c, lv, pa, e, q⟩
  cases pa with
  | nil => cases e
  | cons p1 p2 =>
    cases p2 with
    | cons _ _ => cases p1 <;> cases e
    | nil =>
      cases p1 with
      | int i => cases e; exact call_int1 pins s σ H _ us Q I r (.inl ⟨i, rfl, q _ H (.refl _) (.int _)⟩)
      | bl i => cases e; exact call_int1 pins s σ H _ us Q I r (.inr ⟨i, rfl, q _ H (.refl _) (.int _)⟩)
      | _ => cases e
theorem c_divmod : CallR X (.builtin "divmod") (rDs cm X.K divmodC) := by
  rintro pins s σ H xs us Q I r ⟨M, ds, c, lv, pa, e, q⟩
  cases pa with
  | nil => cases e
  | cons p1 p2 =>
    cases p2 with
    | nil => cases p1 <;> cases e
    | cons p2 p3 =>
      cases p3 with
      | cons _ _ => cases p1 <;> cases p2 <;> cases e
      | nil =>
        cases p1 with
        | int i =>
          cases p2 with
          | int j =>
            unfold divmodC at e
            dsimp only at e
            by_cases hz : 0 < j ∧ j < 1073741824
            · rw [if_pos hz] at e; cases e
              exact call_divmod pins s σ H _ us Q I r ⟨i, j, rfl, hz, fun p hp => q _ _ (same_new hp) (.tup (SqT.of (hid_new lv hp)) (.cons (.int _) (.cons (.int _) .nil)))⟩
            · rw [if_neg hz] at e; cases e
          | _ => cases e
        | _ => cases e
theorem showP_ok {p : PyData} {x : Str} (e : showP p = some x) : p.showable = true ∧ p.hasDict = false ∧ p.depth ≤ 60 ∧ p.shown.length ≤ sizeLine ∧ x = p.shown := by
  unfold showP at e
  by_cases hz : (p.showable && !p.hasDict && decide (p.depth ≤ 60) && decide (p.shown.length ≤ sizeLine)) = true
  · rw [if_pos hz] at e
    cases e
    simp only [Bool.and_eq_true, decide_eq_true_eq, Bool.not_eq_true'] at hz
    exact ⟨hz.1.1.1, hz.1.1.2, hz.1.2, hz.2, rfl⟩
  · rw [if_neg hz] at e; cases e
theorem dic0_reads {pins : List (Addr × Obj)} {s : Shared} {σ : St} {H : Hp} {a : Addr} (I : L2.Inv X pins σ H s) (h : H a = some (.dK [])) : ∃ as, Reads s.heap (.ref a) (.dict []) as ∧ sysModules ∉ as := by
  obtain ⟨_, hn, vs, kv, o, es, ep, h1, h2, h3, _, h4, _⟩ := (show ObjOk X.prog X.w H s.heap a (.dK []) from I.hok a _ h)
  cases kv
  have e0 : es.toList = [] := by cases hh : es.toList with
    | nil => rfl
    | cons x r => rw [hh] at h4; cases h4
  refine ⟨[a] ++ [] ++ [], .dict (kvs := []) h1 h2.1 h3 (by rw [e0]; exact .nil) (by rw [e0]; exact .nil), ?_⟩
  intro z
  have z1 : sysModules = a := by simpa using z
  rw [z1] at hn
  simp at hn
theorem dic0_shown : PyData.shown (.dict []) = ("{}" : Str) := by decide +kernel
end
end Mir
/-! MirF: statements and their mirrors -/
namespace Mir
open PySem L2
inductive Fl where
  | nx
  | rt (d : Dat)
  | bk
  | ct
abbrev MS := Sg → Rs Fl
def outS (F : Fm) (W : WX) (G : VH) (D : Ends) : Rs Fl → Prop
  | .ok .nx S => ∀ ⦃F' : Fm⦄ σ H, Rel F' S σ H → Same G (vis F' S σ H) → (_ : F.to F' := by exact Fm.rf _) → D.nx σ H
  | .ok (.rt d) S => ∀ ⦃F' : Fm⦄ v σ H, Rel F' S σ H → Same G (vis F' S σ H) → Rp F'.cm F'.K (vis F' S σ H) v d → (_ : F.to F' := by exact Fm.rf _) → D.rt v H
  | .ok .bk S => ∀ ⦃F' : Fm⦄ σ H, Rel F' S σ H → Same G (vis F' S σ H) → (_ : F.to F' := by exact Fm.rf _) → D.bk σ H
  | .ok .ct S => ∀ ⦃F' : Fm⦄ σ H, Rel F' S σ H → Same G (vis F' S σ H) → (_ : F.to F' := by exact Fm.rf _) → D.ct σ H
  | .exc c fs S => ∀ σ, outX F W σ G c fs S
  | .bad => False
def tS (cm : CM) (K : PySem.W.Frag) (W : WX) (m : MS) : TS := fun D σ H => ∃ F S, F.cm = cm ∧ F.K = K ∧ Rel F S σ H ∧ outS F W (vis F S σ H) D (m S)
theorem outS_same {F : Fm} {W : WX} {G G' : VH} {D : Ends} {r : Rs Fl} (e : Same G G') (h : outS F W G D r) : outS F W G' D r := by
  cases r with
  | ok a S =>
    cases a with
    | nx => exact fun _ σ H a b t => h σ H a (e.trans b) t
    | rt d => exact fun _ v σ H a b c t => h v σ H a (e.trans b) c t
    | bk => exact fun _ σ H a b t => h σ H a (e.trans b) t
    | ct => exact fun _ σ H a b t => h σ H a (e.trans b) t
  | exc c fs S => exact fun σ => outX_same e (h σ)
  | bad => exact h
theorem outS_to {F F1 : Fm} {W : WX} {G : VH} {D : Ends} {r : Rs Fl} (e : F.to F1) (h : outS F W G D r) : outS F1 W G D r := by
  cases r with
  | ok a S =>
    cases a with
    | nx => exact fun _ σ H a b t => h σ H a b (e.trans t)
    | rt d => exact fun _ v σ H a b c t => h v σ H a b c (e.trans t)
    | bk => exact fun _ σ H a b t => h σ H a b (e.trans t)
    | ct => exact fun _ σ H a b t => h σ H a b (e.trans t)
  | exc c fs S => exact fun σ => outX_to e (h σ)
  | bad => exact h
/-- an expression first, then what a statement does with it -/
theorem tG_bindS {β α : Type} {cm : CM} {K : PySem.W.Frag} {W : WX} {R : Rep β α} {m : Sg → Rs α} {k : α → Sg → Rs Fl} {σ : St} {H : Hp} {D : Ends} {Q' : β → Hp → Prop} {F : Fm} {S : Sg}
    (e1 : F.cm = cm) (e2 : F.K = K) (r : Rel F S σ H) (h : outS F W (vis F S σ H) D ((m S).bind k))
    (q : ∀ (F1 : Fm) x H1 a S1, F1.cm = cm → F1.K = K → Rel F1 S1 σ H1 → Same (vis F S σ H) (vis F1 S1 σ H1) → R σ (vis F1 S1 σ H1) x a → outS F1 W (vis F1 S1 σ H1) D (k a S1) → Q' x H1) : tG cm K W R m σ H Q' := by
  refine ⟨F, S, e1, e2, r, ?_⟩
  cases hm : m S with
  | ok a S1 => rw [hm] at h; exact fun F1 v H1 a1 a2 a3 t => q F1 v H1 a S1 (t.cm.trans e1) (t.K.trans e2) a1 a2 a3 (outS_to t (outS_same a2 h))
  | exc c fs S1 => rw [hm] at h; exact h σ
  | bad => rw [hm] at h; exact h
/-- behind a store -/
def outT (F : Fm) (W : WX) (G : VH) (Q : St → Hp → Prop) : Rs Unit → Prop
  | .ok _ S => ∀ ⦃F' : Fm⦄ σ H, Rel F' S σ H → Same G (vis F' S σ H) → (_ : F.to F' := by exact Fm.rf _) → Q σ H
  | .exc c fs S => ∀ σ, outX F W σ G c fs S
  | .bad => False
theorem outT_same {F : Fm} {W : WX} {G G' : VH} {Q : St → Hp → Prop} {r : Rs Unit} (e : Same G G') (h : outT F W G Q r) : outT F W G' Q r := by
  cases r with
  | ok a S => exact fun _ σ H a b t => h σ H a (e.trans b) t
  | exc c fs S => exact fun σ => outX_same e (h σ)
  | bad => exact h
theorem outT_to {F F1 : Fm} {W : WX} {G : VH} {Q : St → Hp → Prop} {r : Rs Unit} (e : F.to F1) (h : outT F W G Q r) : outT F1 W G Q r := by
  cases r with
  | ok a S => exact fun _ σ H a b t => h σ H a b (e.trans t)
  | exc c fs S => exact fun σ => outX_to e (h σ)
  | bad => exact h
theorem tG_bindT {β α : Type} {cm : CM} {K : PySem.W.Frag} {W : WX} {R : Rep β α} {m : Sg → Rs α} {k : α → Sg → Rs Unit} {σ : St} {H : Hp} {Q : St → Hp → Prop} {Q' : β → Hp → Prop} {F : Fm} {S : Sg}
    (e1 : F.cm = cm) (e2 : F.K = K) (r : Rel F S σ H) (h : outT F W (vis F S σ H) Q ((m S).bind k))
    (q : ∀ (F1 : Fm) x H1 a S1, F1.cm = cm → F1.K = K → Rel F1 S1 σ H1 → Same (vis F S σ H) (vis F1 S1 σ H1) → R σ (vis F1 S1 σ H1) x a → outT F1 W (vis F1 S1 σ H1) Q (k a S1) → Q' x H1) : tG cm K W R m σ H Q' := by
  refine ⟨F, S, e1, e2, r, ?_⟩
  cases hm : m S with
  | ok a S1 => rw [hm] at h; exact fun F1 v H1 a1 a2 a3 t => q F1 v H1 a S1 (t.cm.trans e1) (t.K.trans e2) a1 a2 a3 (outT_to t (outT_same a2 h))
  | exc c fs S1 => rw [hm] at h; exact h σ
  | bad => rw [hm] at h; exact h
/-! ### mirrors -/
def mNext : MS := fun S => .ok .nx S
def mSeq (a b : MS) : MS := fun S => match a S with
  | .ok .nx S1 => b S1
  | r => r
def mRet (m : ME) : MS := fun S => (m S).bind fun d S1 => .ok (.rt d) S1
def mRetN : MS := fun S => .ok (.rt .non) S
def mDrop (m : ME) : MS := fun S => (m S).bind fun _ S1 => .ok .nx S1
def mIfS (c : MT) (a b : MS) : MS := fun S => (c S).bind fun t S1 => if t = true then a S1 else b S1
def mBreak : MS := fun S => .ok .bk S
def mCont : MS := fun S => .ok .ct S
def mNever : MS := fun _ => .bad
/-- targets: the value, the state behind -/
abbrev MG := Dat → Sg → Rs Unit
abbrev MGs := List Dat → Sg → Rs Unit
def gNm (i : Nat) : MG := fun d S => .ok () (S.set i (.dat d))
def gNl : MGs := fun ds S => match ds with
  | [] => .ok () S
  | _ => .bad
def gCs (g : MG) (r : MGs) : MGs := fun ds S => match ds with
  | d :: ds => (g d S).bind fun _ S1 => r ds S1
  | [] => .bad
def gTp (r : MGs) : MG := fun d S => match d with
  | .tup ds => r ds S
  | _ => .bad
/-- x[i] = .., x a list of one's own or lent -/
def setAt (i : Nat) (k : Int) (d : Dat) (S : Sg) : Rs Unit := match S[i]? with
  | some (.loc ds) => match ixN ds.length k with
    | some j => .ok () (S.set i (.loc (ds.set j d)))
    | none => .bad
  | some (.own n (.lst ds)) => match ixN ds.length k with
    | some j => .ok () (S.set i (.own n (.lst (ds.set j d))))
    | none => .bad
  | _ => .bad
def mAsg (m : ME) (g : MG) : MS := fun S => (m S).bind fun d S1 => (g d S1).bind fun _ S2 => .ok .nx S2
def appAt (i : Nat) (d : Dat) (S : Sg) : Rs Fl := match S[i]? with
  | some (.loc ds) => if ds.length < lim then .ok .nx (S.set i (.loc (ds ++ [d]))) else .bad
  | some (.own n (.lst ds)) => if ds.length < lim then .ok .nx (S.set i (.own n (.lst (ds ++ [d])))) else .bad
  | _ => .bad
def isMut (i : Nat) (S : Sg) : Bool := match S[i]? with
  | some (.loc _) => true
  | some (.own _ (.lst _)) => true
  | _ => false
def gIx (i : Nat) (mi : ME) : MG := fun d S => if isMut i S then (mi S).bind fun k S1 => match k with
  | .int k => if isMut i S1 then setAt i k d S1 else .bad
  | _ => .bad else .bad
def mApp (i : Nat) (m : ME) : MS := fun S => if isMut i S then (m S).bind fun d S1 => if isMut i S1 then appAt i d S1 else .bad else .bad
def mPar (i j : Nat) (ma : MA) : MS := fun S => (ma S).bind fun ds S1 => match ds with
  | [a, b] => .ok .nx ((S1.set i (.dat a)).set j (.dat b))
  | _ => .bad
/-- the items one after another -/
def loopS (g : MG) (b : MS) : List Dat → MS
  | [], S => .ok .nx S
  | d :: ds, S => (g d S).bind fun _ S1 => match b S1 with
    | .ok .nx S2 => loopS g b ds S2
    | .ok .ct S2 => loopS g b ds S2
    | .ok .bk S2 => .ok .nx S2
    | r => r
def mFor (mi : Sg → Rs (List Dat)) (g : MG) (b : MS) : MS := fun S => (mi S).bind fun ds S1 => loopS g b ds S1
def whileN (c : MT) (b : MS) : Nat → MS
  | 0, _ => .bad
  | n + 1, S => (c S).bind fun t S1 => if t = true then (match b S1 with
    | .ok .nx S2 => whileN c b n S2
    | .ok .ct S2 => whileN c b n S2
    | .ok .bk S2 => .ok .nx S2
    | r => r) else .ok .nx S1
open Classical in
/-- as many turns as it takes -/
noncomputable def mWhile (c : MT) (b : MS) : MS := fun S => if h : ∃ n, whileN c b n S ≠ .bad then whileN c b (choose h) S else .bad
/-! ### rules -/
def rIt (cm : CM) (K : PySem.W.Frag) : Rep It (List Dat) := fun _ G J ds =>
  (∀ (i : Nat) (H : Hp), L2.Same G H → i < ds.length → J.go i H) ∧ (∀ H : Hp, L2.Same G H → J.stop ds.length H) ∧
    ∀ (i : Nat) (H : Hp) (x : V) (H' : Hp) (M : Hd), Same G (hid M H) → live M H → J.yld i H x H' → i < ds.length → L2.Same H H' ∧ ∃ d, ds[i]? = some d ∧ Rp cm K (hid M H') x d
def tGt (cm : CM) (K : PySem.W.Frag) (W : WX) (g : MG) : TG := fun v σ H Q => ∃ F S d, F.cm = cm ∧ F.K = K ∧ Rel F S σ H ∧ Rp cm K (vis F S σ H) v d ∧ outT F W (vis F S σ H) Q (g d S)
def tGts (cm : CM) (K : PySem.W.Frag) (W : WX) (g : MGs) : TGs := fun vs σ H Q => ∃ F S ds, F.cm = cm ∧ F.K = K ∧ Rel F S σ H ∧ RpAll cm K (vis F S σ H) vs ds ∧ outT F W (vis F S σ H) Q (g ds S)
theorem PG.weak {X : Cx} {e : Expr} {t t' : TG} (h : PG X e t) (i : ∀ v σ H Q, t' v σ H Q → t v σ H Q) : PG X e t' := ⟨fun pins s σ H v u Q I r q => h.run pins s σ H v u Q I r (i v σ H Q q)⟩
theorem PGs.weak {X : Cx} {e : List Expr} {t t' : TGs} (h : PGs X e t) (i : ∀ v σ H Q, t' v σ H Q → t v σ H Q) : PGs X e t' := ⟨fun pins s σ H v u Q I r q => h.run pins s σ H v u Q I r (i v σ H Q q)⟩
theorem PI.weak {X : Cx} {tg e : Expr} {t t' : TI} (h : PI X tg e t) (i : ∀ σ H Q, t' σ H Q → t σ H Q) : PI X tg e t' := ⟨fun pins s σ H Q I q => h.run pins s σ H Q I (i σ H Q q)⟩
section
variable {X : Cx} {cm : CM} {W : WX} {a b c e tg : Expr} {es : List Expr} {ma mb mc : ME} {mr : MA} {ca cb : MT} {pos : Pos} {st : Stmt} {sts sts' : List Stmt} {s1 s2 : MS} {g : MG} {gs : MGs}
theorem gs_nil : PSs X [] (tS cm X.K W mNext) := PSs.weak pss_nil fun D σ H ⟨F, S, e1, e2, R, h⟩ => h σ H R (.refl _)
theorem gs_cons (h1 : PS X st (tS cm X.K W s1)) (h2 : PSs X sts (tS cm X.K W s2)) : PSs X (st :: sts) (tS cm X.K W (mSeq s1 s2)) :=
  PSs.weak (pss_cons h1 h2) fun D σ H ⟨F, S, e1, e2, R, h⟩ => ⟨F, S, e1, e2, R, by
    unfold mSeq at h
    cases hm : s1 S with
    | bad => rw [hm] at h; exact h
    | exc c fs S1 => rw [hm] at h; exact h
    | ok f S1 =>
      rw [hm] at h
      cases f with
      | nx => exact fun F' σ' H' R' s' t => ⟨F', S1, t.cm.trans e1, t.K.trans e2, R', outS_to t (outS_same s' h)⟩
      | rt d => exact h
      | bk => exact h
      | ct => exact h⟩
theorem gs_one (h1 : PS X st (tS cm X.K W s1)) : PSs X [st] (tS cm X.K W s1) := pss_one h1
theorem gs_ret (h : PE X e (tE cm X.K W ma)) : PS X (.Return (some e) pos) (tS cm X.K W (mRet ma)) :=
  PS.weak (ps_ret h) fun D σ H ⟨F, S, e1, e2, R, h⟩ => tG_bindS e1 e2 R h fun F x H1 da S1 e1 e2 R1 s1 p1 h1 => h1 x σ H1 R1 (.refl _) (by rw [e1, e2]; exact p1)
theorem gs_expr (h : PE X e (tE cm X.K W ma)) (hs : swapsWith e none pos.line X.env = pure false := by rfl) : PS X (.Expr e pos) (tS cm X.K W (mDrop ma)) :=
  PS.weak (ps_expr h hs) fun D σ H ⟨F, S, e1, e2, R, h⟩ => tG_bindS e1 e2 R h fun F x H1 da S1 e1 e2 R1 s1 p1 h1 => h1 σ H1 R1 (.refl _)
theorem gs_if (hc : PT X c (tT cm X.K W ca)) (h1 : PSs X sts (tS cm X.K W s1)) (h2 : PSs X sts' (tS cm X.K W s2)) : PS X (.If c sts sts' pos) (tS cm X.K W (mIfS ca s1 s2)) :=
  PS.weak (ps_if hc h1 h2) fun D σ H ⟨F, S, e1, e2, R, h⟩ => tG_bindS e1 e2 R h fun F x H1 da S1 e1 e2 R1 s1 p1 h1 => by
    cases p1
    cases x with
    | true => exact ⟨F, S1, e1, e2, R1, h1⟩
    | false => exact ⟨F, S1, e1, e2, R1, h1⟩
/-! targets -/
theorem gg_name {i : Nat} (h : PG X tg (L2.gName i)) : PG X tg (tGt cm X.K W (gNm i)) := PG.weak h fun v σ H Q ⟨F, S, d, e1, e2, R, p, h⟩ => by
  obtain ⟨R', s'⟩ := R.dat (i := i) (v := v) (d := d) (by rw [e1, e2]; exact p)
  exact h _ H R' s'
theorem ggs_nil : PGs X [] (tGts cm X.K W gNl) := PGs.weak pgs_nil fun v σ H Q ⟨F, S, d, e1, e2, R, p, h⟩ => by
  cases p with
  | nil => exact ⟨rfl, h σ H R (.refl _)⟩
  | cons _ _ => exact False.elim h
theorem ggs_cons (h1 : PG X e (tGt cm X.K W g)) (h2 : PGs X es (tGts cm X.K W gs)) (hs : (assignEach (e :: es) X.env).map (·.2) = assign e X.env :: (assignEach es X.env).map (·.2) := by rfl) : PGs X (e :: es) (tGts cm X.K W (gCs g gs)) :=
  PGs.weak (pgs_cons h1 h2 hs) fun v σ H Q ⟨F, S, d, e1, e2, R, p, h⟩ => by
    cases p with
    | nil => exact False.elim h
    | @cons v d vs ds pv pr =>
      refine ⟨v, vs, rfl, F, S, d, e1, e2, R, pv, ?_⟩
      have h' : outT F W (vis F S σ H) Q ((g d S).bind fun _ S1 => gs ds S1) := h
      cases hg : g d S with
      | bad => rw [hg] at h'; exact h'
      | exc c fs S1 => rw [hg] at h'; exact h'
      | ok u S1 =>
        rw [hg, Rs.bind_ok] at h'
        exact fun F' σ' H' R' s' t => ⟨F', S1, ds, t.cm.trans e1, t.K.trans e2, R', pr.mono s', outT_to t (outT_same s' h')⟩
theorem gg_tup {k n : Nat} (hc : X.calm = true) (h : PGs X es (tGts cm X.K W gs)) (hn : (assignEach es X.env).length = n := by rfl) (hst : (assignEach es X.env).findIdx? (·.1) = none := by rfl)
    (hl : ∀ ds S, ds.length ≠ n → gs ds S = .bad) : PG X (.Tuple es k pos) (tGt cm X.K W (gTp gs)) :=
  PG.weak (pg_tup hc h hn hst) fun v σ H Q ⟨F, S, d, e1, e2, R, p, h⟩ => by
    cases p with
    | @tup a vs ds hs hr =>
      have h' : outT F W (vis F S σ H) Q (gs ds S) := h
      refine ⟨a, vs, rfl, sqT_same hid_le hs, ?_, F, S, ds, e1, e2, R, hr, h'⟩
      by_cases hz : ds.length = n
      · rw [hr.length]; exact hz
      · rw [hl ds S hz] at h'; exact h'.elim
    | _ => exact False.elim h
/-- the list that a slot holds, its own or lent -/
theorem slot_mut {F : Fm} {S : Sg} {σ : St} {H : Hp} {i : Nat} (R : Rel F S σ H) (h : isMut i S = true) : ∃ l vs ds, σ[i]? = some (some (.ref l)) ∧ H l = some (.lst vs) ∧ RpAll F.cm F.K (vis F S σ H) vs ds ∧ (S[i]? = some (.loc ds) ∨ ∃ j, S[i]? = some (.own j (.lst ds)) ∧ F.A0[j]? = some l) := by
  unfold isMut at h
  cases hs : S[i]? with
  | none => rw [hs] at h; cases h
  | some s =>
    rw [hs] at h
    have hl : i < σ.length := by rw [← R.len]; exact (List.getElem?_eq_some_iff.mp hs).1
    have hv : σ[i]? = some σ[i] := List.getElem?_eq_getElem hl
    have q := R.sl i s _ hs hv
    generalize σ[i] = w at hv q
    cases s with
    | no => cases h
    | dat d => cases h
    | exn c fs => cases h
    | heap T => cases h
    | loc ds =>
      cases q with
      | loc eh r => exact ⟨_, _, ds, hv, eh, r, .inl rfl⟩
    | own j o =>
      cases o with
      | obj c fs => cases h
      | dic ks => cases h
      | dit _ => cases h
      | gone _ => cases h
      | lst ds =>
        cases q with
        | own e0 ok =>
          cases ok with
          | lst eh r => exact ⟨_, _, ds, hv, eh, r, .inr ⟨j, rfl, e0⟩⟩
/-- and that list changed -/
theorem slot_set {F : Fm} {S : Sg} {σ : St} {H : Hp} {i : Nat} {l : Addr} {ds es : List Dat} {us : List V} (R : Rel F S σ H) (hl : σ[i]? = some (some (.ref l))) (r : RpAll F.cm F.K (vis F S σ H) us es) (h : S[i]? = some (.loc ds) ∨ ∃ j, S[i]? = some (.own j (.lst ds)) ∧ F.A0[j]? = some l) :
    ∃ s', (S[i]? = some (.loc ds) → s' = .loc es) ∧ (∀ j, S[i]? = some (.own j (.lst ds)) → s' = .own j (.lst es)) ∧ Rel F (S.set i s') σ (upd H l (.lst us)) ∧ Same (vis F S σ H) (vis F (S.set i s') σ (upd H l (.lst us))) := by
  rcases h with h | ⟨j, h, hj⟩
  · obtain ⟨a, b⟩ := R.setLoc h hl r
    exact ⟨_, fun _ => rfl, fun j z => (by rw [h] at z; cases z), a, b⟩
  · obtain ⟨a, b⟩ := R.setOwn (ho := .lst us) h hl hj (.lst upd_same r)
    exact ⟨_, fun z => (by rw [h] at z; cases z), fun k z => (by rw [h] at z; cases z; rfl), a, b⟩
theorem gg_ix {i : Nat} {o : Expr} (ho : PE X o (tVar i)) (hi : PE X e (tE cm X.K W ma)) (ha : ∀ v, assign (.Subscript o e pos) X.env v = (do
      let ov ← holding [v] (eval o X.env)
      let iv ← holding [v, ov] (eval e X.env)
      standAt pos
      holding [v, ov, iv] (setItem ov iv v)
      release [v, ov, iv] []) := by intro _; rfl) : PG X (.Subscript o e pos) (tGt cm X.K W (gIx i ma)) :=
  PG.weak (pg_sub ho hi set_list ha) fun v σ H Q ⟨F, S, d, e1, e2, R, p, h⟩ => by
    unfold gIx at h
    by_cases hz : isMut i S = true
    · rw [if_pos hz] at h
      obtain ⟨l, vs, ds, hl, _, _, _⟩ := slot_mut R hz
      refine ⟨_, hl, tG_bindT e1 e2 R h fun F x H1 k S1 e1 e2 R1 s1 p1 h1 => ?_⟩
      cases p1 with
      | int k =>
        dsimp only at h1
        by_cases hz1 : isMut i S1 = true
        · rw [if_pos hz1] at h1
          obtain ⟨l', vs, ds, hl', eh, r, hs⟩ := slot_mut R1 hz1
          rw [hl] at hl'
          cases hl'
          unfold setAt at h1
          have core : ∀ j, ixN ds.length k = some j → ∃ s', (S1[i]? = some (.loc ds) → s' = .loc (ds.set j d)) ∧ (∀ n, S1[i]? = some (.own n (.lst ds)) → s' = .own n (.lst (ds.set j d))) ∧ Rel F (S1.set i s') σ (upd H1 l (.lst (vs.set j v))) ∧ Same (vis F S1 σ H1) (vis F (S1.set i s') σ (upd H1 l (.lst (vs.set j v)))) := fun j hj =>
            slot_set R1 hl (r.set (by rw [e1, e2]; exact p.mono s1) j) hs
          have fin : ∀ j, ixN ds.length k = some j → (∀ s', (S1[i]? = some (.loc ds) → s' = .loc (ds.set j d)) → (∀ n, S1[i]? = some (.own n (.lst ds)) → s' = .own n (.lst (ds.set j d))) → outT F W (vis F S1 σ H1) Q (.ok () (S1.set i s'))) →
              rSetL (.ref l) (.int k) v H1 fun H3 => Q σ H3 := fun j hj ho => by
            obtain ⟨s', h1, h2, h3, h4⟩ := core j hj
            exact ⟨l, vs, k, j, rfl, rfl, eh, by rw [r.length]; exact hj, ho s' h1 h2 σ _ h3 h4⟩
          rcases hs with hs | ⟨n, hs, _⟩
          · rw [hs] at h1
            dsimp only at h1
            cases hj : ixN ds.length k with
            | none => rw [hj] at h1; exact h1.elim
            | some j =>
              rw [hj] at h1
              exact fin j hj fun s' a _ => by rw [a hs]; exact h1
          · rw [hs] at h1
            dsimp only at h1
            cases hj : ixN ds.length k with
            | none => rw [hj] at h1; exact h1.elim
            | some j =>
              rw [hj] at h1
              exact fin j hj fun s' _ a => by rw [a n hs]; exact h1
        · rw [if_neg hz1] at h1; exact h1.elim
      | _ => exact False.elim h1
    · rw [if_neg hz] at h; exact h.elim
theorem gs_asg (he : PE X e (tE cm X.K W ma)) (hg : PG X tg (tGt cm X.K W g)) (hs : swapsWithSole [tg] e pos.line X.env = pure false := by rfl) (hw : swappedStores [tg] e X.env = pure none := by rfl)
    (h1 : (assignEach [tg] X.env).map (·.2) = [assign tg X.env] := by rfl) : PS X (.Assign [tg] e pos) (tS cm X.K W (mAsg ma g)) :=
  PS.weak (ps_asg he hg hs hw h1) fun D σ H ⟨F, S, e1, e2, R, h⟩ => tG_bindS e1 e2 R h fun F x H1 da S1 e1 e2 R1 s1 p1 h1 => ⟨F, S1, da, e1, e2, R1, p1, by
    cases hg : g da S1 with
    | bad => rw [hg] at h1; exact h1
    | exc c fs S2 => rw [hg] at h1; exact h1
    | ok u S2 => rw [hg] at h1; exact h1⟩
theorem gs_set {i : Nat} {x : Str} {pos' : Pos} (hN : X.N.Nodup) (hi : X.N[i]? = some x) (hx : L2.Loc X.env.scope x) (he : PE X e (tE cm X.K W ma)) (hs : swapsWith e (some (.Name x pos')) pos.line X.env = pure false := by rfl)
    (hf : X.fn x = true ∨ X.env.scope.names.lookup x = some .local := by first | exact .inl rfl | exact .inr rfl | assumption) : PS X (.Assign [.Name x pos'] e pos) (tS cm X.K W (mAsg ma (gNm i))) :=
  PS.weak (ps_set hN hi hx he hs hf) fun D σ H ⟨F, S, e1, e2, R, h⟩ => tG_bindS e1 e2 R h fun F x H1 da S1 e1 e2 R1 s1 p1 h1 => by
    obtain ⟨R', s'⟩ := R1.dat (i := i) (v := x) (d := da) (by rw [e1, e2]; exact p1)
    exact h1 _ H1 R' s'
theorem gs_par {i j : Nat} {x y : Str} {px py pt : Pos} {kt k2 : Nat} {pt2 : Pos} (hc : X.calm = true) (hN : X.N.Nodup) (hi : X.N[i]? = some x) (hj : X.N[j]? = some y) (hij : i ≠ j)
    (hx : X.env.scope.names.lookup x = some .local) (hy : X.env.scope.names.lookup y = some .local) (ha : PA X [a, b] (tA cm X.K W mr))
    (hw : swappedStores [.Tuple [.Name x px, .Name y py] kt pt] (.Tuple [a, b] k2 pt2) X.env = pure (some [x, y])) (hs : swapsWithSole [.Tuple [.Name x px, .Name y py] kt pt] (.Tuple [a, b] k2 pt2) pos.line X.env = pure false := by rfl) :
    PS X (.Assign [.Tuple [.Name x px, .Name y py] kt pt] (.Tuple [a, b] k2 pt2) pos) (tS cm X.K W (mPar i j mr)) :=
  PS.weak (ps_par hc hN hi hj hij hx hy ha hw hs) fun D σ H ⟨F, S, e1, e2, R, h⟩ => tG_bindS e1 e2 R h fun F x H1 da S1 e1 e2 R1 s1 p1 h1 => by
    cases p1 with
    | nil => exact False.elim h1
    | @cons v1 d1 _ _ q1 p2 =>
      cases p2 with
      | nil => exact False.elim h1
      | @cons v2 d2 _ _ q2 p3 =>
        cases p3 with
        | cons _ _ => exact False.elim h1
        | nil =>
          obtain ⟨R2, t2⟩ := R1.dat (i := i) (v := v1) (d := d1) (by rw [e1, e2]; exact q1)
          obtain ⟨R3, t3⟩ := R2.dat (i := j) (v := v2) (d := d2) (by rw [e1, e2]; exact q2.mono t2)
          exact ⟨v1, v2, rfl, h1 _ H1 R3 (t2.trans t3)⟩
/-! loops -/
theorem gs_for {mi : Sg → Rs (List Dat)} {iter : Expr} (hp : PassesOwn (model X.prog X.w) X.A X.env X.xe) (hc : X.calm = true) (hi : PI X tg iter (tG cm X.K W (rIt cm X.K) mi)) (hg : PG X tg (tGt cm X.K W g)) (hb : PSs X sts (tS cm X.K W s1))
    (hs : ∀ x, foldedSetIterable iter X.env x = pure x := by intro _; rfl) : PS X (.For tg iter sts [] pos) (tS cm X.K W (mFor mi g s1)) :=
  PS.weak (ps_for hp hc hi hg hb hs) fun D σ H ⟨F, S, e1, e2, R, h⟩ => tG_bindS e1 e2 R h fun F J H1 ds S1 e1 e2 R1 s1' p1 h1 => by
    obtain ⟨j1, j2, j3⟩ := p1
    refine ⟨fun i m σ' H' => i + m = ds.length ∧ ∃ F' S', F'.cm = cm ∧ F'.K = X.K ∧ Rel F' S' σ' H' ∧ Same (vis F S1 σ H1) (vis F' S' σ' H') ∧ outS F' W (vis F' S' σ' H') D (loopS g s1 (ds.drop i) S'), ⟨ds.length, by omega, F, S1, e1, e2, R1, .refl _, h1⟩, ?_⟩
    rintro i m σ' H' ⟨em, F', S', f1, f2, R', s', h'⟩
    have sH : L2.Same (vis F S1 σ H1) H' := s'.h.trans hid_le
    by_cases hi : i < ds.length
    · refine .inr ⟨j1 i H' sH hi, fun σ2 H2 => ∃ F2 S2, F2.cm = cm ∧ F2.K = X.K ∧ Rel F2 S2 σ2 H2 ∧ Same (vis F S1 σ H1) (vis F2 S2 σ2 H2) ∧ outS F2 W (vis F2 S2 σ2 H2) D (loopS g s1 (ds.drop (i + 1)) S2), fun σ2 H2 ⟨F2, S2, c1, c2, b1, b2, b3⟩ => ⟨m - 1, by omega, by omega, F2, S2, c1, c2, b1, b2, b3⟩, fun x H2 hy => ?_⟩
      obtain ⟨sy, d, hd, pd⟩ := j3 i H' x H2 _ s' R'.live hy hi
      have R2 := R'.grow sy
      have s2 : Same (vis F' S' σ' H') (vis F' S' σ' H2) := vis_grow sy
      have e3 : ds.drop i = d :: ds.drop (i + 1) := by
        rw [List.drop_eq_getElem_cons hi]
        rw [List.getElem?_eq_getElem hi] at hd
        rw [Option.some.inj hd]
      rw [e3] at h'
      refine ⟨F', S', d, f1, f2, R2, pd, ?_⟩
      have h2 : outS F' W (vis F' S' σ' H2) D ((g d S').bind fun _ S1 => match s1 S1 with
        | .ok .nx S2 => loopS g s1 (ds.drop (i + 1)) S2
        | .ok .ct S2 => loopS g s1 (ds.drop (i + 1)) S2
        | .ok .bk S2 => .ok .nx S2
        | r => r) := outS_same s2 h'
      cases hgd : g d S' with
      | bad => rw [hgd] at h2; exact h2
      | exc c fs S3 => rw [hgd] at h2; exact h2
      | ok u S3 =>
        rw [hgd, Rs.bind_ok] at h2
        intro F3 σ3 H3 R3 s3 t3
        refine ⟨F3, S3, t3.cm.trans f1, t3.K.trans f2, R3, ?_⟩
        have h3 := outS_to t3 (outS_same s3 h2)
        have st : Same (vis F S1 σ H1) (vis F3 S3 σ3 H3) := (s'.trans s2).trans s3
        cases hb : s1 S3 with
        | bad => rw [hb] at h3; exact h3
        | exc c fs S4 => rw [hb] at h3; exact h3
        | ok f S4 =>
          rw [hb] at h3
          cases f with
          | nx => exact fun F4 σ4 H4 R4 s4 t4 => ⟨F4, S4, (t4.cm.trans t3.cm).trans f1, (t4.K.trans t3.K).trans f2, R4, st.trans s4, outS_to t4 (outS_same s4 h3)⟩
          | ct => exact fun F4 σ4 H4 R4 s4 t4 => ⟨F4, S4, (t4.cm.trans t3.cm).trans f1, (t4.K.trans t3.K).trans f2, R4, st.trans s4, outS_to t4 (outS_same s4 h3)⟩
          | bk => exact h3
          | rt d => exact h3
    · have ei : i = ds.length := by omega
      refine .inl ⟨by rw [ei]; exact j2 H' sH, ?_⟩
      rw [List.drop_of_length_le (by omega)] at h'
      exact h' σ' H' R' (.refl _)
theorem whileN_more {c : MT} {b : MS} : ∀ {n k : Nat} {S : Sg}, n ≤ k → whileN c b n S ≠ .bad → whileN c b k S = whileN c b n S
  | 0, k, S, _, h => absurd rfl h
  | n + 1, 0, S, h, _ => by omega
  | n + 1, k + 1, S, hk, h => by
    cases hc : c S with
    | bad => simp only [whileN, hc, Rs.bind_bad]
    | exc _ _ _ => simp only [whileN, hc, Rs.bind_exc]
    | ok t S1 =>
      cases t with
      | false => simp only [whileN, hc, Rs.bind_ok]; rfl
      | true =>
        simp only [whileN, hc, Rs.bind_ok, if_pos] at h ⊢
        cases hb : b S1 with
        | bad => rfl
        | exc _ _ _ => rfl
        | ok f S2 =>
          rw [hb] at h
          cases f with
          | nx => exact whileN_more (by omega) h
          | ct => exact whileN_more (by omega) h
          | bk => rfl
          | rt d => rfl
open Classical in
theorem mWhile_of {c : MT} {b : MS} {n : Nat} {S : Sg} (h : whileN c b n S ≠ .bad) : mWhile c b S = whileN c b n S := by
  have hx : ∃ n, whileN c b n S ≠ .bad := ⟨n, h⟩
  unfold mWhile
  rw [dif_pos hx]
  have hy := choose_spec hx
  rcases Nat.le_total (choose hx) n with z | z
  · exact (whileN_more z hy).symm
  · exact whileN_more z h
open Classical in
theorem mWhile_is {c : MT} {b : MS} {S : Sg} (h : mWhile c b S ≠ .bad) : ∃ n, mWhile c b S = whileN c b n S := by
  unfold mWhile at h ⊢
  by_cases hx : ∃ n, whileN c b n S ≠ .bad
  · rw [dif_pos hx]; exact ⟨_, rfl⟩
  · rw [dif_neg hx] at h; exact absurd rfl h
theorem gs_while (hp : PassesOwn (model X.prog X.w) X.A X.env X.xe) (hc : PT X c (tT cm X.K W ca)) (hb : PSs X sts (tS cm X.K W s1)) : PS X (.While c sts [] pos) (tS cm X.K W (mWhile ca s1)) :=
  PS.weak (ps_while hp hc hb) fun D σ H ⟨F, S, e1, e2, R, h⟩ => by
    have nb : mWhile ca s1 S ≠ .bad := fun z => by rw [z] at h; exact h
    obtain ⟨n, hn⟩ := mWhile_is nb
    rw [hn] at h
    refine ⟨fun m σ' H' => ∃ F' S', F'.cm = cm ∧ F'.K = X.K ∧ Rel F' S' σ' H' ∧ outS F' W (vis F' S' σ' H') D (whileN ca s1 m S'), ⟨n, F, S, e1, e2, R, h⟩, ?_⟩
    rintro m σ' H' ⟨F, S', e1, e2, R', h'⟩
    cases m with
    | zero => exact False.elim h'
    | succ m =>
      unfold whileN at h'
      refine tG_bindS e1 e2 R' h' fun F x H1 t S1 e1 e2 R1 t1 p1 h1 => ?_
      cases p1
      cases x with
      | false => exact h1 σ' H1 R1 (.refl _)
      | true =>
        rw [if_pos rfl] at h1 ⊢
        refine ⟨fun σ2 H2 => ∃ F2 S2, F2.cm = cm ∧ F2.K = X.K ∧ Rel F2 S2 σ2 H2 ∧ outS F2 W (vis F2 S2 σ2 H2) D (whileN ca s1 m S2), fun σ2 H2 q => ⟨m, Nat.lt_succ_self m, q⟩, F, S1, e1, e2, R1, ?_⟩
        cases hb : s1 S1 with
        | bad => rw [hb] at h1; exact h1
        | exc c fs S4 => rw [hb] at h1; exact h1
        | ok f S4 =>
          rw [hb] at h1
          cases f with
          | nx => exact fun F4 σ4 H4 R4 s4 t4 => ⟨F4, S4, t4.cm.trans e1, t4.K.trans e2, R4, outS_to t4 (outS_same s4 h1)⟩
          | ct => exact fun F4 σ4 H4 R4 s4 t4 => ⟨F4, S4, t4.cm.trans e1, t4.K.trans e2, R4, outS_to t4 (outS_same s4 h1)⟩
          | bk => exact h1
          | rt d => exact h1
end
end Mir
/-! MirG: what is walked; comprehensions -/
namespace Mir
open PySem L2
/-! ### iterables -/
def itemsD : Dat → Option (List Dat)
  | .lst ds => some ds
  | .ro ds => some ds
  | .tup ds => some ds
  | _ => none
def range1 : List Dat → Option (List Dat)
  | [.int j] => if -(2 ^ 62) ≤ j ∧ j < 2 ^ 62 then some ((List.range j.toNat).map fun (k : Nat) => Dat.int (0 + (k : Int))) else none
  | _ => none
def range2 : List Dat → Option (List Dat)
  | [.int i, .int j] => if -(2 ^ 62) ≤ i ∧ i < 2 ^ 62 ∧ -(2 ^ 62) ≤ j ∧ j < 2 ^ 62 then some ((List.range (j - i).toNat).map fun (k : Nat) => Dat.int (i + (k : Int))) else none
  | _ => none
def enumFrom (n : Nat) : List Dat → List Dat
  | [] => []
  | d :: ds => .tup [.int (n : Int), d] :: enumFrom (n + 1) ds
def enumD : List Dat → Option (List Dat)
  | [.lst ds] => some (enumFrom 0 ds)
  | _ => none
def mItems (m : ME) : Sg → Rs (List Dat) := fun S => (m S).bind fun d S1 => Rs.of (itemsD d) S1
def mIts (f : List Dat → Option (List Dat)) (m : MA) : Sg → Rs (List Dat) := fun S => (m S).bind fun d S1 => Rs.of (f d) S1
section
variable {X : Cx} {cm : CM} {W : WX} {a b e tg : Expr} {es : List Expr} {ma : ME} {mr : MA} {p pos : Pos}
theorem out_of' {F : Fm} {S : Sg} {σ : St} {H : Hp} {β α : Type} {R : Rep β α} {Q : β → Hp → Prop} {o : Option α} (h : out F W σ (vis F S σ H) R Q (Rs.of o S)) : ∃ d, o = some d ∧ out F W σ (vis F S σ H) R Q (.ok d S) := by
  cases o with
  | none => exact False.elim h
  | some d => exact ⟨d, rfl, h⟩
theorem it_list {σ : St} {G : VH} {a : Addr} {vs : List V} {ds : List Dat} {K : PySem.W.Frag} (h : SqL K G a vs) (r : RpAll cm K G vs ds) : rIt cm K σ G (Itl K a) ds := by
  refine ⟨fun i H s hi => ?_, fun H s => ⟨vs, s.seq h, by rw [r.length]; exact Nat.le_refl _⟩, fun i H x H' M s lv y hi => ?_⟩
  · have hi' : i < vs.length := by rw [r.length]; exact hi
    exact ⟨vs, vs[i], s.seq h, List.getElem?_eq_getElem hi'⟩
  · obtain ⟨rfl, y⟩ := y
    obtain ⟨d, e1, e2⟩ := r.get' (y vs ((s.h.trans hid_le).seq h))
    exact ⟨.refl _, d, e1, e2.mono s⟩
theorem it_tup {σ : St} {G : VH} {a : Addr} {vs : List V} {ds : List Dat} {K : PySem.W.Frag} (h : SqT K G a vs) (r : RpAll cm K G vs ds) : rIt cm K σ G (Itt K a) ds := by
  refine ⟨fun i H s hi => ?_, fun H s => ⟨vs, sqT_same s h, by rw [r.length]; exact Nat.le_refl _⟩, fun i H x H' M s lv y hi => ?_⟩
  · have hi' : i < vs.length := by rw [r.length]; exact hi
    exact ⟨vs, vs[i], sqT_same s h, List.getElem?_eq_getElem hi'⟩
  · obtain ⟨rfl, y⟩ := y
    obtain ⟨d, e1, e2⟩ := r.get' (y vs (sqT_same (s.h.trans hid_le) h))
    exact ⟨.refl _, d, e1, e2.mono s⟩
theorem it_range {σ : St} {G : VH} {K : PySem.W.Frag} (lo : Int) (n : Nat) : rIt cm K σ G (Itr lo n) ((List.range n).map fun (k : Nat) => Dat.int (lo + (k : Int))) := by
  have el : ((List.range n).map fun (k : Nat) => Dat.int (lo + (k : Int))).length = n := by rw [List.length_map, List.length_range]
  refine ⟨fun i H s hi => by rw [el] at hi; exact hi, fun H s => by rw [el]; exact Nat.le_refl _, fun i H x H' M s lv y hi => ?_⟩
  obtain ⟨rfl, rfl⟩ := y
  rw [el] at hi
  exact ⟨.refl _, .int (lo + (i : Int)), by rw [List.getElem?_map, List.getElem?_range hi]; rfl, .int _⟩
theorem tG_bind' {β α β' α' : Type} {cm : CM} {K : PySem.W.Frag} {W : WX} {R : Rep β α} {R' : Rep β' α'} {m : Sg → Rs α} {k : α → Sg → Rs α'} {σ : St} {H : Hp} {Q : β' → Hp → Prop} {Q' : β → Hp → Prop} {F : Fm} {S : Sg}
    (e1 : F.cm = cm) (e2 : F.K = K) (r : Rel F S σ H) (h : out F W σ (vis F S σ H) R' Q ((m S).bind k))
    (q : ∀ (F1 : Fm) x H1 a S1, m S = .ok a S1 → F1.cm = cm → F1.K = K → Rel F1 S1 σ H1 → Same (vis F S σ H) (vis F1 S1 σ H1) → R σ (vis F1 S1 σ H1) x a → out F1 W σ (vis F1 S1 σ H1) R' Q (k a S1) → Q' x H1) : tG cm K W R m σ H Q' := by
  refine ⟨F, S, e1, e2, r, ?_⟩
  cases hm : m S with
  | ok a S1 => rw [hm] at h; exact fun F1 v H1 a1 a2 a3 t => q F1 v H1 a S1 hm (t.cm.trans e1) (t.K.trans e2) a1 a2 a3 (out_to t (out_same a2 h))
  | exc c fs S1 => rw [hm] at h; exact h
  | bad => rw [hm] at h; exact h
theorem gi_seq (h : PE X e (tE cm X.K W ma)) : PI X tg e (tG cm X.K W (rIt cm X.K) (mItems ma)) := by
  refine ⟨fun pins s σ H R I ⟨F, S, e1, e2, Rl, ho⟩ => ?_⟩
  by_cases ht : ∃ ds S1, ma S = .ok (.tup ds) S1
  · obtain ⟨ds, S1, ht⟩ := ht
    refine (pi_tup h).run pins s σ H R I (tG_bind' e1 e2 Rl ho fun F x H1 da S2 hm e1 e2 R1 s1 p1 h1 => ?_)
    rw [ht] at hm
    cases hm
    cases p1 with
    | tup hs hr => exact ⟨_, rfl, ⟨_, sqT_same hid_le hs⟩, h1 _ H1 R1 (.refl _) (it_tup hs hr)⟩
  · refine (pi_list h).run pins s σ H R I (tG_bind' e1 e2 Rl ho fun F x H1 da S2 hm e1 e2 R1 s1 p1 h1 => ?_)
    obtain ⟨d, hd, h1⟩ := out_of' h1
    cases p1 with
    | lst hs hr => cases hd; exact ⟨_, rfl, ⟨_, SqL.of (hid_le _ _ hs)⟩, h1 _ H1 R1 (.refl _) (it_list (SqL.of hs) hr)⟩
    | ro hs hr => cases hd; exact ⟨_, rfl, ⟨_, L2.Same.seq hid_le hs⟩, h1 _ H1 R1 (.refl _) (it_list hs hr)⟩
    | tup hs hr => exact absurd ⟨_, _, hm⟩ ht
    | _ => cases hd
theorem gi_range1 (hg : Gl X "range") (hm : X.mg "range" = none) (ha : PA X [a] (tA cm X.K W mr)) (hs : starEach [a] X.env = [(false, eval a X.env)] := by rfl) : PI X tg (.Call (.Name "range" p) [a] [] pos) (tG cm X.K W (rIt cm X.K) (mIts range1 mr)) :=
  PI.weak (pi_range1 hg hm ha hs) fun σ H Q ⟨F, S, e1, e2, R, h⟩ => tG_bind' e1 e2 R h fun F x H1 da S2 hm e1 e2 R1 s1 p1 h1 => by
    obtain ⟨d, hd, h1⟩ := out_of' h1
    cases p1 with
    | nil => cases hd
    | cons q1 q2 =>
      cases q2 with
      | cons _ _ => cases q1 <;> cases hd
      | nil =>
        cases q1 with
        | int j =>
          unfold range1 at hd
          dsimp only at hd
          by_cases hz : -(2 ^ 62) ≤ j ∧ j < 2 ^ 62
          · rw [if_pos hz] at hd; cases hd
            exact ⟨j, rfl, hz.1, hz.2, h1 _ H1 R1 (.refl _) (it_range 0 j.toNat)⟩
          · rw [if_neg hz] at hd; cases hd
        | _ => cases hd
theorem gi_range2 (hg : Gl X "range") (hm : X.mg "range" = none) (ha : PA X [a, b] (tA cm X.K W mr)) (hs : starEach [a, b] X.env = [(false, eval a X.env), (false, eval b X.env)] := by rfl) (hs2 : starEach [b] X.env = [(false, eval b X.env)] := by rfl) :
    PI X tg (.Call (.Name "range" p) [a, b] [] pos) (tG cm X.K W (rIt cm X.K) (mIts range2 mr)) :=
  PI.weak (pi_range2 hg hm ha hs hs2) fun σ H Q ⟨F, S, e1, e2, R, h⟩ => tG_bind' e1 e2 R h fun F x H1 da S2 hm e1 e2 R1 s1 p1 h1 => by
    obtain ⟨d, hd, h1⟩ := out_of' h1
    cases p1 with
    | nil => cases hd
    | cons q1 q2 =>
      cases q2 with
      | nil => cases q1 <;> cases hd
      | cons q2 q3 =>
        cases q3 with
        | cons _ _ => cases q1 <;> cases q2 <;> cases hd
        | nil =>
          cases q1 with
          | int i =>
            cases q2 with
            | int j =>
              unfold range2 at hd
              dsimp only at hd
              by_cases hz : -(2 ^ 62) ≤ i ∧ i < 2 ^ 62 ∧ -(2 ^ 62) ≤ j ∧ j < 2 ^ 62
              · rw [if_pos hz] at hd; cases hd
                exact ⟨i, j, rfl, hz, h1 _ H1 R1 (.refl _) (it_range i (j - i).toNat)⟩
              · rw [if_neg hz] at hd; cases hd
            | _ => cases hd
          | _ => cases hd
theorem enum_get : ∀ (ds : List Dat) (n i : Nat) (d : Dat), ds[i]? = some d → (enumFrom n ds)[i]? = some (.tup [.int ((n + i : Nat) : Int), d])
  | [], n, i, d, h => by simp at h
  | x :: ds, n, 0, d, h => by simp at h; subst h; rfl
  | x :: ds, n, i + 1, d, h => by
    have q := enum_get ds (n + 1) i d (by simpa using h)
    show (enumFrom (n + 1) ds)[i]? = _
    rw [q, show n + 1 + i = n + (i + 1) by omega]
theorem enum_len : ∀ (ds : List Dat) (n : Nat), (enumFrom n ds).length = ds.length
  | [], n => rfl
  | x :: ds, n => congrArg Nat.succ (enum_len ds (n + 1))
theorem gi_enum {elts : List Expr} {kk : Nat} {tpos : Pos} (hg : Gl X "enumerate") (hm : X.mg "enumerate" = none) (ha : PA X [e] (tA cm X.K W mr)) (hs : starEach [e] X.env = [(false, eval e X.env)] := by rfl) :
    PI X (.Tuple elts kk tpos) (.Call (.Name "enumerate" p) [e] [] pos) (tG cm X.K W (rIt cm X.K) (mIts enumD mr)) :=
  PI.weak (pi_enum hg hm ha hs) fun σ H Q ⟨F, S, e1, e2, R, h⟩ => tG_bind' e1 e2 R h fun F x H1 da S2 hm e1 e2 R1 s1 p1 h1 => by
    obtain ⟨d, hd, h1⟩ := out_of' h1
    cases p1 with
    | nil => cases hd
    | cons q1 q2 =>
      cases q2 with
      | cons _ _ => cases q1 <;> cases hd
      | nil =>
        cases q1 with
        | @lst a vs ds hs hr =>
          cases hd
          refine ⟨_, _, rfl, SqL.of (hid_le _ _ hs), h1 _ H1 R1 (.refl _) ⟨fun i H' s hi => ?_, fun H' s => ⟨vs, s.seq (SqL.of hs), by rw [hr.length, enum_len]; exact Nat.le_refl _⟩, fun i H' x H2 M s lv y hi => ?_⟩⟩
          · have hi' : i < vs.length := by rw [hr.length]; rw [enum_len] at hi; exact hi
            exact ⟨vs, vs[i], s.seq (SqL.of hs), List.getElem?_eq_getElem hi'⟩
          · obtain ⟨T, z, rfl, nT, rfl, y⟩ := y
            obtain ⟨d, k1, k2⟩ := hr.get' (y vs ((s.h.trans hid_le).seq (SqL.of hs)))
            refine ⟨same_new nT, _, enum_get ds 0 i d k1, .tup (SqT.of (hid_new lv nT)) (.cons ?_ (.cons ((k2.mono s).mono (hid_grow (same_new nT))) .nil))⟩
            rw [Nat.zero_add]
            exact .int _
        | _ => cases hd
end
/-! ### comprehensions -/
def wipeS (S : Sg) : List Nat → Sg
  | [] => S
  | v :: vs => (wipeS S vs).set v .no
def Rs.calm {α : Type} : Rs α → Rs α
  | .exc _ _ _ => .bad
  | r => r
@[simp] theorem Rs.calm_ok {α : Type} (a : α) (S : Sg) : (Rs.ok a S).calm = .ok a S := rfl
@[simp] theorem Rs.calm_bad {α : Type} : (Rs.bad : Rs α).calm = .bad := rfl
def loopC (g : Dat → Sg → Option Sg) (c : MT) (e : ME) (vs : List Nat) : List Dat → List Dat → Sg → Rs (List Dat)
  | [], acc, S => .ok acc S
  | d :: ds, acc, S => (Rs.of (g d S) S).bind fun S1 _ => (c S1).calm.bind fun t S2 => if t = true then (e S2).calm.bind fun y S3 => if acc.length < lim then loopC g c e vs ds (acc ++ [y]) (wipeS S3 vs) else .bad else loopC g c e vs ds acc (wipeS S2 vs)
def mLc (mi : Sg → Rs (List Dat)) (g : Dat → Sg → Option Sg) (c : MT) (e : ME) (vs : List Nat) : ME := fun S => (mi S).bind fun ds S1 => (loopC g c e vs ds [] (wipeS S1 vs)).bind fun acc S2 => .ok (.lst acc) S2
def cYes : MT := fun S => .ok true S
def cgN (j : Nat) : Dat → Sg → Option Sg := fun d S => some (S.set j (.dat d))
abbrev W0 : WX := fun _ _ _ _ => False
section
variable {F : Fm} {S : Sg} {σ : St} {H : Hp}
theorem Rel.wipe (R : Rel F S σ H) : ∀ vs : List Nat, Rel F (wipeS S vs) (L2.wipe σ vs) H ∧ Same (vis F S σ H) (vis F (wipeS S vs) (L2.wipe σ vs) H)
  | [] => ⟨R, .refl _⟩
  | v :: vs => by
    obtain ⟨a, b⟩ := Rel.wipe R vs
    obtain ⟨c, d⟩ := a.no (i := v) (v := none)
    exact ⟨c, b.trans d⟩
theorem wipeS_no : ∀ (vs : List Nat) {v : Nat} {s : Slot}, v ∈ vs → (wipeS S vs)[v]? = some s → s = .no
  | [], v, s, h, _ => by cases h
  | w :: vs, v, s, h, e => by
    unfold wipeS at e
    rcases get_set_cases e with ⟨_, z⟩ | ⟨ne, z⟩
    · exact z
    · rcases List.mem_cons.mp h with h | h
      · exact absurd h ne
      · exact wipeS_no vs h z
theorem wipe_get : ∀ (vs : List Nat) {σ : St} {v : Nat}, v ∉ vs → (L2.wipe σ vs)[v]? = σ[v]?
  | [], σ, v, _ => rfl
  | w :: vs, σ, v, h => by
    unfold L2.wipe
    rw [List.getElem?_set_ne (fun z => h (by rw [z]; exact List.mem_cons_self ..)), wipe_get vs fun z => h (List.mem_cons_of_mem _ z)]
theorem wipe_set : ∀ (vs : List Nat) {σ : St} {v : Nat} {x : Option V}, v ∈ vs → L2.wipe (σ.set v x) vs = L2.wipe σ vs
  | [], σ, v, x, h => by cases h
  | w :: vs, σ, v, x, h => by
    unfold L2.wipe
    by_cases hv : v ∈ vs
    · rw [wipe_set vs hv]
    · have e : v = w := (List.mem_cons.mp h).resolve_right hv
      subst e
      refine List.ext_getElem? fun k => ?_
      by_cases ek : k = v
      · subst ek
        rw [List.getElem?_set, List.getElem?_set, if_pos rfl, if_pos rfl, L2.wipe_length, L2.wipe_length, List.length_set]
      · rw [List.getElem?_set_ne (fun z => ek z.symm), List.getElem?_set_ne (fun z => ek z.symm)]
        by_cases hk : k ∈ vs
        · have h1 : ∀ (us : List Nat) (τ : St), k ∈ us → (L2.wipe τ us)[k]? = if k < τ.length then some none else none := by
            intro us
            induction us with
            | nil => intro τ h; cases h
            | cons u us ih =>
              intro τ h
              unfold L2.wipe
              by_cases eu : u = k
              · subst eu
                rw [List.getElem?_set, if_pos rfl, L2.wipe_length]
              · rw [List.getElem?_set_ne eu]
                exact ih τ ((List.mem_cons.mp h).resolve_left fun z => eu z.symm)
          rw [h1 vs _ hk, h1 vs _ hk, List.length_set]
        · rw [wipe_get vs hk, wipe_get vs hk, List.getElem?_set_ne (fun z => ek z.symm)]
/-- what the wiped slots hold does not matter -/
theorem Rel.other {τ : St} (R : Rel F S τ H) (hl : σ.length = τ.length) (h : ∀ (v : Nat) (s : Slot), S[v]? = some s → σ[v]? = τ[v]? ∨ s = Slot.no) : Rel F S σ H ∧ vis F S σ H = vis F S τ H := by
  have key : ∀ (S : Sg) (σ τ : St), σ.length = τ.length → (∀ (v : Nat) (s : Slot), S[v]? = some s → σ[v]? = τ[v]? ∨ s = Slot.no) → locs S σ = locs S τ := by
    intro S
    induction S with
    | nil => intro σ τ _ _; cases σ <;> cases τ <;> rfl
    | cons s S ih =>
      intro σ τ hl h
      cases σ with
      | nil =>
        cases τ with
        | nil => rfl
        | cons _ _ => cases hl
      | cons x σ =>
        cases τ with
        | nil => cases hl
        | cons y τ =>
          have i2 := ih σ τ (by simpa using hl) fun v s e => by
            have := h (v + 1) s (by simpa using e)
            simpa using this
          rcases h 0 s rfl with e | e
          · have exy : x = y := by simpa using e
            subst exy
            cases s with
            | loc ds =>
              cases x with
              | none => exact i2
              | some x =>
                cases x with
                | ref l => simp [locs, i2]
                | _ => exact i2
            | _ => simpa [locs] using i2
          · subst e
            simpa [locs] using i2
  have eL := key S σ τ hl h
  have eV : vis F S σ H = vis F S τ H := by unfold vis; rw [eL]
  refine ⟨⟨by rw [R.len, hl], fun i s v a b => ?_, by rw [eL]; exact R.nd, fun l x => R.new l (by rw [← eL]; exact x), R.ond, R.and_, R.ain, R.liv, fun l x => R.lom l (by rw [← eL]; exact x), R.tmp, R.keep, R.hp⟩, eV⟩
  rw [eV]
  rcases h i s a with e | e
  · exact R.sl i s v a (by rw [← e]; exact b)
  · subst e; exact .no
/-- a target that stores to the block's own names alone -/
def TgOk (cm : CM) (K : PySem.W.Frag) (t : TG) (vs : List Nat) (g : Dat → Sg → Option Sg) : Prop :=
  ∀ (F : Fm) (S : Sg) (σ : St) (H : Hp) (x : V) (d : Dat) (S' : Sg) (Q : St → Hp → Prop), F.cm = cm → F.K = K → Rel F S σ H → Rp cm K (vis F S σ H) x d → g d S = some S' →
    (∀ σ2, L2.wipe σ2 vs = L2.wipe σ vs → Rel F S' σ2 H → Same (vis F S σ H) (vis F S' σ2 H) → Q σ2 H) → t x σ H Q
theorem tg_name {cm : CM} {K : PySem.W.Frag} (j : Nat) : TgOk cm K (L2.gName j) [j] (cgN j) := fun F S σ H x d S' Q e1 e2 R p e k => by
  cases e
  obtain ⟨a, b⟩ := R.dat (i := j) (v := x) (d := d) (by rw [e1, e2]; exact p)
  exact k _ (wipe_set _ (List.mem_cons_self ..)) a b
end
theorem wipe_idem (vs : List Nat) : ∀ (us : List Nat) (τ : St), (∀ v, v ∈ us → v ∈ vs) → L2.wipe (L2.wipe τ us) vs = L2.wipe τ vs
  | [], τ, _ => rfl
  | u :: us, τ, hu => by
    show L2.wipe ((L2.wipe τ us).set u none) vs = _
    rw [wipe_set vs (hu u (List.mem_cons_self ..)), wipe_idem vs us τ fun v hv => hu v (List.mem_cons_of_mem _ hv)]
/-- the reading of a comprehension, from its mirror -/
theorem lc_read {cm : CM} {K : PySem.W.Frag} {W : WX} {mi : Sg → Rs (List Dat)} {t : TG} {g : Dat → Sg → Option Sg} {c : MT} {e : ME} {vs : List Nat} {σ : St} {H : Hp} {Q : VK}
    (tk : TgOk cm K t vs g)
    (h : tG cm K W (rIt cm K) mi σ H fun J H1 => ∃ F ds S1, F.cm = cm ∧ F.K = K ∧ Rel F S1 σ H1 ∧ rIt cm K σ (vis F S1 σ H1) J ds ∧ ∃ acc S2, loopC g c e vs ds [] (wipeS S1 vs) = .ok acc S2 ∧
      ∀ D us H2 Fx, H1 D = none → (F.hide D (.lst us)).to Fx → Rel Fx S2 σ H2 → Same (vis F S1 σ H1) (vis Fx S2 σ H2) → RpAll cm K (vis Fx S2 σ H2) us acc → Q (.ref D) H2) :
    tLc (tG cm K W (rIt cm K) mi) t (tT cm K W0 c) (tE cm K W0 e) vs σ H Q := by
  obtain ⟨F', S', a1, a2, R', h⟩ := h
  refine ⟨F', S', a1, a2, R', out_imp h fun J H1 ⟨F, ds, S1, e1, e2, R1, ⟨j1, j2, j3⟩, acc, S2, hl, hq⟩ D hD => ?_⟩
  have h0D : F.H0 D = none := R1.fresh0 hD
  have hTD := R1.tnew hD
  obtain ⟨Rh, sh⟩ := R1.hide (o := .lst []) hD
  obtain ⟨Rw, sw⟩ := Rel.wipe Rh vs
  refine ⟨fun i m H' => i + m = ds.length ∧ ∃ Fx Sx us ac, (F.hide D (.lst us)).to Fx ∧ Rel Fx Sx (L2.wipe σ vs) H' ∧ (∀ (v : Nat) (s : Slot), v ∈ vs → Sx[v]? = some s → s = .no) ∧ Same (vis F S1 σ H1) (vis Fx Sx (L2.wipe σ vs) H') ∧ RpAll cm K (vis Fx Sx (L2.wipe σ vs) H') us ac ∧ loopC g c e vs (ds.drop i) ac Sx = .ok acc S2,
    ⟨ds.length, by omega, _, _, [], [], Fm.rf _, Rw, fun v s hv => wipeS_no vs hv, sh.trans sw, .nil, hl⟩, ?_⟩
  rintro i m H' ⟨em, Fx, Sx, us, ac, tx, Rx, nx, sx, rx, lx⟩
  have f1 : Fx.cm = cm := tx.cm.trans e1
  have f2 : Fx.K = K := tx.K.trans e2
  have sH : L2.Same (vis F S1 σ H1) H' := sx.h.trans hid_le
  by_cases hi : i < ds.length
  · refine .inr ⟨j1 i H' sH hi, fun H2 => ∃ Fx Sx us ac, (F.hide D (.lst us)).to Fx ∧ Rel Fx Sx (L2.wipe σ vs) H2 ∧ (∀ (v : Nat) (s : Slot), v ∈ vs → Sx[v]? = some s → s = .no) ∧ Same (vis F S1 σ H1) (vis Fx Sx (L2.wipe σ vs) H2) ∧ RpAll cm K (vis Fx Sx (L2.wipe σ vs) H2) us ac ∧ loopC g c e vs (ds.drop (i + 1)) ac Sx = .ok acc S2,
      fun H2 q => ⟨m - 1, by omega, by omega, q⟩, fun x H2 hy => ?_⟩
    obtain ⟨sy, d, hd, pd⟩ := j3 i H' x H2 _ sx Rx.live hy hi
    have R2 := Rx.grow sy
    have s2 : Same (vis Fx Sx (L2.wipe σ vs) H') (vis Fx Sx (L2.wipe σ vs) H2) := vis_grow sy
    have e3 : ds.drop i = d :: ds.drop (i + 1) := by
      rw [List.drop_eq_getElem_cons hi]
      rw [List.getElem?_eq_getElem hi] at hd
      rw [Option.some.inj hd]
    rw [e3] at lx
    unfold loopC at lx
    cases hg : g d Sx with
    | none => rw [hg] at lx; cases lx
    | some S3 =>
      rw [hg, Rs.of_some, Rs.bind_ok] at lx
      refine tk Fx Sx (L2.wipe σ vs) H2 x d S3 _ f1 f2 R2 pd hg fun σ2 ew R3 s3 => ?_
      have ew2 : L2.wipe σ2 vs = L2.wipe σ vs := by
        rw [ew]
        exact wipe_idem vs vs σ fun v hv => hv
      refine ⟨ew2, Fx, S3, f1, f2, R3, ?_⟩
      have st3 : Same (vis Fx Sx (L2.wipe σ vs) H') (vis Fx S3 σ2 H2) := s2.trans s3
      cases hc : c S3 with
      | bad => rw [hc] at lx; cases lx
      | exc _ _ _ => rw [hc] at lx; cases lx
      | ok tt S4 =>
        rw [hc, Rs.calm_ok, Rs.bind_ok] at lx
        intro F4 bv H4 R4 s4 eb t4
        have eb' : bv = tt := eb
        subst eb'
        have st4 := st3.trans s4
        cases bv with
        | false =>
          rw [if_neg Bool.false_ne_true] at lx ⊢
          obtain ⟨R5, s5⟩ := Rel.wipe R4 vs
          rw [ew2] at R5 s5
          exact ⟨F4, _, us, ac, tx.trans t4, R5, fun v s hv => wipeS_no vs hv, (sx.trans st4).trans s5, (rx.mono st4).mono s5, lx⟩
        | true =>
          rw [if_pos rfl] at lx ⊢
          refine ⟨F4, S4, t4.cm.trans f1, t4.K.trans f2, R4, ?_⟩
          cases he : e S4 with
          | bad => rw [he] at lx; cases lx
          | exc _ _ _ => rw [he] at lx; cases lx
          | ok y S5 =>
            rw [he, Rs.calm_ok, Rs.bind_ok] at lx
            intro F5 yv H5 R5 s5 py t5
            have tt5 : (F.hide D (.lst us)).to F5 := (tx.trans t4).trans t5
            have st5 := st4.trans s5
            by_cases hz : ac.length < lim
            · rw [if_pos hz] at lx
              have hD5 : H5 D = some (.lst us) := (R5.tmp (D, .lst us) (by rw [tt5.T]; exact List.mem_cons_self ..)).1
              refine ⟨us, hD5, by rw [rx.length]; exact lim_lt hz, ?_⟩
              obtain ⟨R6, s6⟩ := Rel.wipe R5 vs
              rw [ew2] at R6 s6
              obtain ⟨R7, eG⟩ := R6.hidden (o' := .lst (us ++ [yv])) tt5 h0D hTD
              refine ⟨_, _, us ++ [yv], ac ++ [y], tt5.hid, R7, fun v s hv => wipeS_no vs hv, ?_, ?_, lx⟩
              · rw [eG]; exact (sx.trans st5).trans s6
              · rw [eG]
                have py' : Rp cm K (vis F5 S5 σ2 H5) yv y := py
                exact ((rx.mono st5).mono s6).append (.cons (py'.mono s6) .nil)
            · rw [if_neg hz] at lx; cases lx
  · have ei : i = ds.length := by omega
    rw [List.drop_of_length_le (by omega)] at lx
    cases lx
    refine .inl ⟨by rw [ei]; exact j2 H' sH, ?_⟩
    have lw : σ.length = (L2.wipe σ vs).length := (L2.wipe_length σ vs).symm
    obtain ⟨R8, eV⟩ := Rx.other (σ := σ) lw fun v s hs => by
      by_cases hv : v ∈ vs
      · exact .inr (nx v s hv hs)
      · exact .inl (wipe_get vs hv).symm
    exact hq D us H' Fx hD tx R8 (by rw [eV]; exact sx) (by rw [eV]; exact rx)
section
variable {X : Cx} {cm : CM} {W : WX} {elt tg iter : Expr} {ifs : List Expr} {scope : Scope} {own : List (Str × Nat)} {pos : Pos} {mi : Sg → Rs (List Dat)} {t : TG} {g : Dat → Sg → Option Sg} {c : MT} {e : ME}
theorem lc_end {F Fx : Fm} {S1 S2 : Sg} {σ : St} {H1 H2 : Hp} {D : Addr} {us : List V} {acc : List Dat} {K : PySem.W.Frag} (R1 : Rel F S1 σ H1) (hD : H1 D = none) (t : (F.hide D (.lst us)).to Fx) (R : Rel Fx S2 σ H2) (r : RpAll cm K (vis Fx S2 σ H2) us acc) :
    F.to (Fx.unhide D) ∧ Rel (Fx.unhide D) S2 σ H2 ∧ Same (vis Fx S2 σ H2) (vis (Fx.unhide D) S2 σ H2) ∧ Rp cm K (vis (Fx.unhide D) S2 σ H2) (.ref D) (.lst acc) := by
  obtain ⟨R3, s3⟩ := Rel.unhide R1 hD t R
  refine ⟨t.unh (R1.freshM hD), R3, s3, .lst ?_ (r.mono s3)⟩
  have hx := R.tmp (D, .lst us) (by rw [t.T]; exact List.mem_cons_self ..)
  unfold vis
  rw [hid_out]
  · exact hx.1
  · intro z
    rcases Hd.mem_app.mp z with z | z
    · exact (unh_mem.mp z).2 rfl
    · exact R.lom D z hx.2.1
theorem pts_of {X : Cx} {cm : CM} {K : PySem.W.Frag} (hK : X.K = K) : PTs X [] (tT cm K W0 cYes) := ⟨fun pins s σ H Q I ⟨F, S, e1, e2, R, h⟩ => (pts_nil (X := X)).run pins s σ H Q I (h true H R (.refl _) rfl)⟩
theorem ge_lc (hc : X.calm = true) (hN : X.N.Nodup) (hi : PI X tg iter (tG cm X.K W (rIt cm X.K) mi)) (ok : BlkOk X.N X.env.scope scope own) (tk : TgOk cm X.K t (own.map (·.2)) g)
    (hg : ∀ (s : Shared) (H : Hp) (C : Addr) (cl : List (Str × Addr)) (fp : List Addr), PG (X.blk s H scope (compEnvC scope cl C X.env) fp) tg t)
    (ht : ∀ (s : Shared) (H : Hp) (C : Addr) (cl : List (Str × Addr)) (fp : List Addr), PTs (X.blk s H scope (compEnvC scope cl C X.env) fp) ifs (tT cm X.K W0 c))
    (he : ∀ (s : Shared) (H : Hp) (C : Addr) (cl : List (Str × Addr)) (fp : List Addr), PE (X.blk s H scope (compEnvC scope cl C X.env) fp) elt (tE cm X.K W0 e)) (hs : ∀ x, foldedSetIterable iter X.env x = pure x := by intro _; rfl) :
    PE X (.ListComp elt [⟨tg, iter, ifs, 0⟩] scope pos) (tE cm X.K W (mLc mi g c e (own.map (·.2)))) :=
  PE.weak (pe_lc hc hN hi ok hg ht he hs) fun σ H Q ⟨F, S, e1, e2, R, h⟩ => lc_read tk (tG_bind' e1 e2 R h fun F J H1 ds S1 hm e1 e2 R1 s1 p1 h1 => ⟨F, ds, S1, e1, e2, R1, p1, by
    cases hl : loopC g c e (own.map (·.2)) ds [] (wipeS S1 (own.map (·.2))) with
    | bad => rw [hl] at h1; exact False.elim h1
    | exc _ _ _ =>
      exfalso
      have no : ∀ (ds ac : List Dat) (S : Sg) c0 fs S', loopC g c e (own.map (·.2)) ds ac S ≠ .exc c0 fs S' := by
        intro ds
        induction ds with
        | nil => intro ac S c0 fs S' z; cases z
        | cons d ds ih =>
          intro ac S c0 fs S' z
          unfold loopC at z
          cases h1 : g d S with
          | none => rw [h1] at z; cases z
          | some S1 =>
            rw [h1, Rs.of_some, Rs.bind_ok] at z
            cases h2 : c S1 with
            | bad => rw [h2] at z; cases z
            | exc _ _ _ => rw [h2] at z; cases z
            | ok t S2 =>
              rw [h2, Rs.calm_ok, Rs.bind_ok] at z
              cases t with
              | false => exact ih _ _ _ _ _ z
              | true =>
                rw [if_pos rfl] at z
                cases h3 : e S2 with
                | bad => rw [h3] at z; cases z
                | exc _ _ _ => rw [h3] at z; cases z
                | ok y S3 =>
                  rw [h3, Rs.calm_ok, Rs.bind_ok] at z
                  by_cases hz : ac.length < lim
                  · rw [if_pos hz] at z; exact ih _ _ _ _ _ z
                  · rw [if_neg hz] at z; cases z
      exact no _ _ _ _ _ _ hl
    | ok acc S2 =>
      rw [hl, Rs.bind_ok] at h1
      refine ⟨acc, S2, rfl, fun D us H2 Fx hD tx R2 s2 r2 => ?_⟩
      obtain ⟨t3, R3, s3, r3⟩ := lc_end (cm := cm) R1 hD tx R2 r2
      exact h1 _ H2 R3 (s2.trans s3) r3 t3⟩)
end
end Mir
/-! MirH: defs as functions on trees; their calls -/
namespace Mir
open PySem PySem.Spec PyProof.Rows L2
/-- what a def is given: a value, or a thing that is lent to it -/
inductive FA where
  | dat (d : Dat)
  | own (o : Own)
inductive RF where
  | ok (d : Dat) (outs : List Own)
  | exc (c : Str) (fs : List (Str × Dat)) (outs : List Own)
  | bad
inductive ArgsOk (cm : CM) (K : PySem.W.Frag) (G : VH) (H : Hp) : List V → List FA → List Addr → Prop
  | nil : ArgsOk cm K G H [] [] []
  | dat {v : V} {d : Dat} {vs : List V} {as : List FA} {ls : List Addr} : Rp cm K G v d → ArgsOk cm K G H vs as ls → ArgsOk cm K G H (v :: vs) (.dat d :: as) ls
  | own {l : Addr} {o : Own} {vs : List V} {as : List FA} {ls : List Addr} : OwnOk cm K G H l o → ArgsOk cm K G H vs as ls → ArgsOk cm K G H (.ref l :: vs) (.own o :: as) (l :: ls)
inductive OutsOk (cm : CM) (K : PySem.W.Frag) (G : VH) (H : Hp) : List Addr → List Own → Prop
  | nil : OutsOk cm K G H [] []
  | cons {l : Addr} {o : Own} {ls : List Addr} {os : List Own} : OwnOk cm K G H l o → OutsOk cm K G H ls os → OutsOk cm K G H (l :: ls) (o :: os)
theorem OutsOk.get {cm : CM} {K : PySem.W.Frag} {G : VH} {H : Hp} : ∀ {ls : List Addr} {os : List Own}, OutsOk cm K G H ls os → ∀ {t : Nat} {l : Addr}, ls[t]? = some l → ∃ o, os[t]? = some o ∧ OwnOk cm K G H l o
  | _, _, .nil, t, l, e => by simp at e
  | _, _, .cons a b, 0, l, e => by simp at e; subst e; exact ⟨_, rfl, a⟩
  | _, _, .cons a b, t + 1, l, e => OutsOk.get b (t := t) (by simpa using e)
theorem OutsOk.length {cm : CM} {K : PySem.W.Frag} {G : VH} {H : Hp} : ∀ {ls : List Addr} {os : List Own}, OutsOk cm K G H ls os → ls.length = os.length
  | _, _, .nil => rfl
  | _, _, .cons _ b => congrArg Nat.succ (OutsOk.length b)
def outF (cm : CM) (K : PySem.W.Frag) (M : Hd) (ls : List Addr) (H : Hp) (Q : VK) (E : XK) : RF → Prop
  | .ok d outs => ∀ v H', (∀ a o, H a = some o → a ∉ ls → H' a = some o) → OutsOk cm K (hid M H') H' ls outs → Rp cm K (hid M H') v d → Q v H'
  | .exc c fs outs => ∀ da gs H', (∀ a o, H a = some o → a ∉ ls → H' a = some o) → OutsOk cm K (hid M H') H' ls outs → hid M H' da = some (.xd gs) → RpF cm K (hid M H') gs fs → E (.ref (cm c)) (some da) H'
  | .bad => False
/-- a def's promise, by its function on trees -/
def spF (cm : CM) (K : PySem.W.Frag) (Fn : List FA → RF) : Sp := fun vs H Q E => ∃ M as ls, live M H ∧ (∀ l, l ∈ ls → l ∈ M) ∧ ls.Nodup ∧ ArgsOk cm K (hid M H) H vs as ls ∧ outF cm K M ls H Q E (Fn as)
def mkSlots : Nat → List FA → Sg
  | _, [] => []
  | j, .dat d :: r => .dat d :: mkSlots j r
  | j, .own o :: r => .own j o :: mkSlots (j + 1) r
def findOwn (j : Nat) : Sg → Option Own
  | [] => none
  | .own k o :: S => if k = j then some o else findOwn j S
  | _ :: S => findOwn j S
def outsFrom (j : Nat) : Nat → Sg → Option (List Own)
  | 0, _ => some []
  | n + 1, S => match findOwn j S, outsFrom (j + 1) n S with
    | some o, some r => some (o :: r)
    | _, _ => none
def nOwn : List FA → Nat
  | [] => 0
  | .dat _ :: r => nOwn r
  | .own _ :: r => nOwn r + 1
def endF (k : Nat) : Rs Fl → RF
  | .ok (.rt d) S => match outsFrom 0 k S with
    | some outs => .ok d outs
    | none => .bad
  | .ok .nx S => match outsFrom 0 k S with
    | some outs => .ok .non outs
    | none => .bad
  | .exc c fs S => match outsFrom 0 k S with
    | some outs => .exc c fs outs
    | none => .bad
  | _ => .bad
/-- np parameters, n names -/
def runDef (np n : Nat) (m : MS) (as : List FA) : RF := if as.length = np then endF (nOwn as) (m (mkSlots 0 as ++ List.replicate (n - np) .no)) else .bad
section
variable {cm : CM} {K : PySem.W.Frag} {G : VH} {H : Hp}
theorem ArgsOk.length : ∀ {vs : List V} {as : List FA} {ls : List Addr}, ArgsOk cm K G H vs as ls → vs.length = as.length
  | _, _, _, .nil => rfl
  | _, _, _, .dat _ b => congrArg Nat.succ (ArgsOk.length b)
  | _, _, _, .own _ b => congrArg Nat.succ (ArgsOk.length b)
theorem ArgsOk.nown : ∀ {vs : List V} {as : List FA} {ls : List Addr}, ArgsOk cm K G H vs as ls → nOwn as = ls.length
  | _, _, _, .nil => rfl
  | _, _, _, .dat (as := as) _ b => by show nOwn as = _; exact ArgsOk.nown b
  | _, _, _, .own _ b => congrArg Nat.succ (ArgsOk.nown b)
theorem mkSlots_len : ∀ (j : Nat) (as : List FA), (mkSlots j as).length = as.length
  | _, [] => rfl
  | j, .dat d :: r => congrArg Nat.succ (mkSlots_len j r)
  | j, .own o :: r => congrArg Nat.succ (mkSlots_len (j + 1) r)
theorem mkSlots_ok {F : Fm} (e1 : F.cm = cm) (e2 : F.K = K) : ∀ {vs : List V} {as : List FA} {ls : List Addr} (j : Nat), ArgsOk cm K G H vs as ls → (∀ t l, ls[t]? = some l → F.A0[j + t]? = some l) → ∀ {i : Nat} {s : Slot} {v : V}, (mkSlots j as)[i]? = some s → vs[i]? = some v → SlotOk F G H s (some v)
  | _, _, _, j, .nil, _, i, s, v, h, _ => by simp [mkSlots] at h
  | _, _, _, j, .dat a b, hl, 0, s, v, h, h' => by
    simp [mkSlots] at h h'; subst h; subst h'
    exact .dat (by rw [e1, e2]; exact a)
  | _, _, _, j, .own a b, hl, 0, s, v, h, h' => by
    simp [mkSlots] at h h'; subst h; subst h'
    exact .own (by have := hl 0 _ rfl; simpa using this) (by rw [e1, e2]; exact a)
  | _, _, _, j, .dat a b, hl, i + 1, s, v, h, h' => mkSlots_ok e1 e2 j b hl (i := i) (by simpa [mkSlots] using h) (by simpa using h')
  | _, _, _, j, .own a b, hl, i + 1, s, v, h, h' => mkSlots_ok e1 e2 (j + 1) b (fun t l e => by have := hl (t + 1) l (by simpa using e); rw [show j + 1 + t = j + (t + 1) by omega]; exact this) (i := i) (by simpa [mkSlots] using h) (by simpa using h')
theorem mkSlots_owns : ∀ (j : Nat) (as : List FA) (k : Nat), k ∈ owns (mkSlots j as) → j ≤ k
  | _, [], k, h => by simp [mkSlots, owns] at h
  | j, .dat d :: r, k, h => mkSlots_owns j r k (by simpa [mkSlots, owns] using h)
  | j, .own o :: r, k, h => by
    rcases List.mem_cons.mp (show k ∈ j :: owns (mkSlots (j + 1) r) from h) with e | e
    · omega
    · have := mkSlots_owns (j + 1) r k e; omega
theorem mkSlots_nd : ∀ (j : Nat) (as : List FA), (owns (mkSlots j as)).Nodup
  | _, [] => by simp [mkSlots, owns]
  | j, .dat d :: r => by have := mkSlots_nd j r; simpa [mkSlots, owns] using this
  | j, .own o :: r => List.nodup_cons.mpr ⟨fun z => by have := mkSlots_owns (j + 1) r j z; omega, mkSlots_nd (j + 1) r⟩
theorem owns_append : ∀ (S T : Sg), owns (S ++ T) = owns S ++ owns T
  | [], T => rfl
  | s :: S, T => by
    have ih := owns_append S T
    cases s <;> simp [owns, ih]
theorem owns_no : ∀ n : Nat, owns (List.replicate n Slot.no) = []
  | 0 => rfl
  | n + 1 => by rw [List.replicate_succ]; exact owns_no n
theorem locs_none : ∀ {S : Sg}, (∀ s, s ∈ S → s.isLoc = false) → ∀ σ : L2.St, locs S σ = []
  | [], _, σ => by cases σ <;> rfl
  | s :: S, h, [] => by cases s <;> rfl
  | s :: S, h, v :: σ => by
    have hs := h s (List.mem_cons_self ..)
    have ih := locs_none (S := S) (fun t ht => h t (List.mem_cons_of_mem _ ht)) σ
    cases s with
    | loc ds => cases hs
    | _ => simpa [locs] using ih
theorem mkSlots_loc : ∀ (j : Nat) (as : List FA) s, s ∈ mkSlots j as → s.isLoc = false
  | _, [], s, h => by simp [mkSlots] at h
  | j, .dat d :: r, s, h => by
    rcases List.mem_cons.mp (show s ∈ Slot.dat d :: mkSlots j r from h) with e | e
    · rw [e]; rfl
    · exact mkSlots_loc j r s e
  | j, .own o :: r, s, h => by
    rcases List.mem_cons.mp (show s ∈ Slot.own j o :: mkSlots (j + 1) r from h) with e | e
    · rw [e]; rfl
    · exact mkSlots_loc (j + 1) r s e
theorem no_heap : ∀ (j : Nat) (as : List FA) {n : Nat} (i : Nat) (T : Ths), (mkSlots j as ++ List.replicate n Slot.no)[i]? ≠ some (.heap T)
  | j, [], n, i, T, h => by
    have h : (List.replicate n Slot.no)[i]? = some (.heap T) := h
    rw [List.getElem?_replicate] at h
    split at h
    · cases h
    · cases h
  | j, .dat d :: r, n, 0, T, h => by cases h
  | j, .own o :: r, n, 0, T, h => by cases h
  | j, .dat d :: r, n, i + 1, T, h => no_heap j r i T (by simpa [mkSlots] using h)
  | j, .own o :: r, n, i + 1, T, h => no_heap (j + 1) r i T (by simpa [mkSlots] using h)
theorem findOwn_mem : ∀ {S : Sg} {j : Nat} {o : Own}, findOwn j S = some o → ∃ i : Nat, S[i]? = some (.own j o)
  | [], j, o, h => by cases h
  | s :: S, j, o, h => by
    cases s with
    | own k u =>
      unfold findOwn at h
      by_cases e : k = j
      · rw [if_pos e] at h; cases h; subst e; exact ⟨0, rfl⟩
      · rw [if_neg e] at h
        obtain ⟨i, hi⟩ := findOwn_mem h
        exact ⟨i + 1, by simpa using hi⟩
    | _ =>
      obtain ⟨i, hi⟩ := findOwn_mem (S := S) (j := j) (o := o) (by simpa [findOwn] using h)
      exact ⟨i + 1, by simpa using hi⟩
theorem Rel.outs {F : Fm} {S : Sg} {σ : L2.St} {H : Hp} (R : Rel F S σ H) : ∀ (ls : List Addr) (j : Nat) (outs : List Own), (∀ t l, ls[t]? = some l → F.A0[j + t]? = some l) → outsFrom j ls.length S = some outs → OutsOk F.cm F.K (hid F.M H) H ls outs
  | [], j, outs, _, h => by cases h; exact .nil
  | l :: ls, j, outs, hl, h => by
    have h' : (match findOwn j S, outsFrom (j + 1) ls.length S with | some o, some r => some (o :: r) | _, _ => none) = some outs := h
    cases h1 : findOwn j S with
    | none => rw [h1] at h'; cases h'
    | some o =>
      cases h2 : outsFrom (j + 1) ls.length S with
      | none => rw [h1, h2] at h'; cases h'
      | some r =>
        rw [h1, h2] at h'; cases h'
        obtain ⟨i, hi⟩ := findOwn_mem h1
        have hlt : i < σ.length := by rw [← R.len]; exact (List.getElem?_eq_some_iff.mp hi).1
        have hv : σ[i]? = some σ[i] := List.getElem?_eq_getElem hlt
        have q := R.sl i _ _ hi hv
        have hj : F.A0[j]? = some l := by have := hl 0 l rfl; simpa using this
        refine .cons ?_ (Rel.outs R ls (j + 1) r (fun t x e => by have := hl (t + 1) x (by simpa using e); rw [show j + 1 + t = j + (t + 1) by omega]; exact this) h2)
        generalize σ[i] = w at hv q
        cases q with
        | own e0 ok =>
          rw [hj] at e0; cases e0
          exact ok.mono (hid_sub fun a h => Hd.mem_left _ h) fun _ z => z
end
structure FnG (P : Program) (w : World) (K : PySem.W.Frag) (mg : Str → Option Value) (base : Heap) (CX : CXT) (k : Nat) (f : Addr) (fd : FuncData) (ps : List Str) (sp : Sp) : Prop where
  len : ∀ vs H Q E, sp vs H Q E → vs.length = ps.length
  run : ∀ (A : Around) (outer : List Env) (s : Shared) (H : Hp) (args : Args) (us : List Value) (vs : List V) (Q : VK) (E : XK), Room k A → A.guards = some [] → Env0 P w K mg base A outer s H → BindsTo s fd args (ps.zip us) → Vals vs us → sp vs H Q E →
    codeAny (model P w) A (.call (.ref f) args) (CR CX outer P w H s Q E) s
theorem FnG.mono {P : Program} {w : World} {K : PySem.W.Frag} {mg : Str → Option Value} {base : Heap} {CX : CXT} {j k : Nat} {f : Addr} {fd : FuncData} {ps : List Str} {sp : Sp} (F : FnG P w K mg base CX j f fd ps sp) (h : j ≤ k) : FnG P w K mg base CX k f fd ps sp :=
  ⟨F.len, fun A outer s H args us vs Q E hr => F.run A outer s H args us vs Q E (hr.mono h)⟩
theorem guards_deeper {A : Around} {env : Env} (h : A.guards = some []) : (A.deeper env).guards = some [] := h
section
variable {P : Program} {w : World} {K : PySem.W.Frag} {mg : Str → Option Value} {base : Heap} {cm : CM}
/-- a def by its body's mirror -/
theorem fnG_of {x qual : Str} {params : Arguments} {body : List Stmt} {scope : Scope} {dvs : List V} {kws : List (Str × V)} {f : Addr} {fd : FuncData} {N ps : List Str} {k n np : Nat} {m : MS} (F : FunD K x qual params body scope dvs kws f fd) (S : FnScope N ps scope) (hn : N.length = n) (hp : ps.length = np)
    (hbody : ∀ (cdv : Value) (A : Around) (outer : List Env) (s : Shared) (H : Hp) (E : XK), Room k (A.deeper (envOfC qual scope s.heap.objs.size f cdv)) → (A.deeper (envOfC qual scope s.heap.objs.size f cdv)).guards = some [] →
      PSs (cxOf (L2.CX P w) P w K mg base N qual scope f cdv A outer s H E) body (tS cm K (fun cls d _ H' => E cls d H') m)) : FnG P w K mg base (L2.CX P w) (k + 1) f fd ps (spF cm K (runDef np n m)) := by
  have len : ∀ vs H Q E, spF cm K (runDef np n m) vs H Q E → vs.length = ps.length := fun vs H Q E ⟨M, as, ls, _, _, _, a, o⟩ => by
    unfold runDef at o
    by_cases hl : as.length = np
    · rw [a.length, hl, hp]
    · rw [if_neg hl] at o; exact o.elim
  obtain ⟨oc, od, dV, kV, doc, pm, an, cdv, ct, osl, rfl, lk, hcd, _, _⟩ := F.ex
  refine ⟨len, fun A outer s H args us vs Q E hr hg e0 hb r hsp => ?_⟩
  have hl := len _ _ _ _ hsp
  have KX : K.In s.heap := e0.mod.kin.keeps fun b o e => (e0.bs b o e).1
  have lim0 : s.heap.NoLimit := e0.mod.nolimit.keeps fun b o e => (e0.bs b o e).1
  refine codeAny_call_function hr.depth (KX _ _ lk) rfl S.co S.gen rfl (PySem.W.codeRec_of KX hcd) (hb _ _ _ _ (wpAny_newFunctionEnv_cells S.kind (fun ⟨nm, v⟩ hy => ?_) fun env he s1 y => ?_))
  · rcases S.par nm (List.of_mem_zip hy).1 with q | q
    · exact Or.inl q
    · exact Or.inr ⟨q, PySem.W.cellsFrom_some _ _ _ (Or.inl q)⟩
  · subst he
    refine ⟨lim0.keeps y.toInCall.keep, codeAny_func ?_⟩
    have I : L2.Inv (cxOf (L2.CX P w) P w K mg base N qual scope f cdv A outer s H E) [] (L2.start N vs) H s1 := inv_start S hr.hd e0 hl r y
    have ht := hbody cdv A outer s H E (hr.deeper _) (guards_deeper hg)
    obtain ⟨M, as, ls, lv, lm, ln, ao, of⟩ := hsp
    have hla : as.length = np := by rw [← ao.length, hl, hp]
    unfold runDef at of
    rw [if_pos hla, ao.nown] at of
    -- the frame at the entry
    have F0 : Rel (Fm.at cm K M H ls) (mkSlots 0 as ++ List.replicate (n - np) .no) (L2.start N vs) H := by
      have lc : ∀ σ : L2.St, locs (mkSlots 0 as ++ List.replicate (n - np) .no) σ = [] := locs_none fun s hs => by
        rcases List.mem_append.mp hs with h | h
        · exact mkSlots_loc 0 as s h
        · rw [(List.mem_replicate.mp h).2]; rfl
      refine ⟨?_, fun i s v a b => ?_, ?_, fun l h => ?_, ?_, ln, lm, lv.v, fun l h => ?_, fun p h => ?_, fun a o q _ => q, HpOk.start lv (no_heap 0 as)⟩
      · unfold L2.start
        rw [List.length_append, List.length_append, List.length_map, mkSlots_len, List.length_replicate, List.length_replicate, hn, ao.length, hla]
      · have eV : vis (Fm.at cm K M H ls) (mkSlots 0 as ++ List.replicate (n - np) .no) (L2.start N vs) H = hid M H := by
          unfold vis; rw [lc, Hd.app_nil]
        rw [eV]
        unfold L2.start at b
        by_cases hi : i < as.length
        · have hi' : i < vs.length := by rw [ao.length]; exact hi
          rw [List.getElem?_append_left (by rw [mkSlots_len]; exact hi)] at a
          rw [List.getElem?_append_left (by rw [List.length_map]; exact hi'), List.getElem?_map, List.getElem?_eq_getElem hi'] at b
          cases b
          exact mkSlots_ok (F := (Fm.at cm K M H ls)) rfl rfl 0 ao (fun t l e => by rw [Nat.zero_add]; exact e) a (List.getElem?_eq_getElem hi')
        · rw [List.getElem?_append_right (by rw [mkSlots_len]; omega), List.getElem?_replicate] at a
          split at a
          · cases a; exact .no
          · cases a
      · rw [lc]; exact List.nodup_nil
      · rw [lc] at h; cases h
      · rw [owns_append, owns_no, List.append_nil]; exact mkSlots_nd 0 as
      · rw [lc] at h; cases h
      · cases h
    have la : ∀ (t : Nat) (l : Addr), ls[t]? = some l → (Fm.at cm K M H ls).A0[0 + t]? = some l := fun t l e => by rw [Nat.zero_add]; exact e
    have hq : tS cm K (fun cls d _ H' => E cls d H') m { nx := fun _ H' => Q .non H', rt := Q } (L2.start N vs) H := by
      refine ⟨Fm.at cm K M H ls, _, rfl, rfl, F0, ?_⟩
      cases hm : m (mkSlots 0 as ++ List.replicate (n - np) .no) with
      | bad => rw [hm] at of; exact of
      | exc c fs S' =>
        rw [hm] at of
        intro σ' F' da gs H' R' _ hda hgs t
        obtain rfl := t.pure rfl
        unfold endF at of
        dsimp only at of
        cases ho : outsFrom 0 ls.length S' with
        | none => rw [ho] at of; exact of.elim
        | some outs =>
          rw [ho] at of
          exact of da gs H' (fun a o e n => R'.keep a o e n) (Rel.outs R' ls 0 outs la ho) ((hid_sub fun a h => Hd.mem_left _ h).h _ _ hda) (hgs.mono (hid_sub fun a h => Hd.mem_left _ h))
      | ok fl S' =>
        rw [hm] at of
        cases fl with
        | nx =>
          intro F' σ' H' R' _ t
          obtain rfl := t.pure rfl
          unfold endF at of
          dsimp only at of
          cases ho : outsFrom 0 ls.length S' with
          | none => rw [ho] at of; exact of.elim
          | some outs =>
            rw [ho] at of
            exact of .non H' (fun a o e n => R'.keep a o e n) (Rel.outs R' ls 0 outs la ho) .non
        | rt d =>
          intro F' v σ' H' R' _ rv t
          obtain rfl := t.pure rfl
          unfold endF at of
          dsimp only at of
          cases ho : outsFrom 0 ls.length S' with
          | none => rw [ho] at of; exact of.elim
          | some outs =>
            rw [ho] at of
            exact of v H' (fun a o e n => R'.keep a o e n) (Rel.outs R' ls 0 outs la ho) (rv.mono (hid_sub fun a h => Hd.mem_left _ h))
        | bk => exact of.elim
        | ct => exact of.elim
    refine wpAny_mono (ht.run [] s1 (L2.start N vs) H _ I hq) (fun fl s' hs => ?_) fun e s' hs => hs
    cases fl with
    | ret u => obtain ⟨v, σ', H', J, rv, q⟩ := hs; exact ⟨v, H', J.os, J.bare, J.base, J.hok, rv, q⟩
    | next => obtain ⟨σ', H', J, q⟩ := hs; exact ⟨V.non, H', J.os, J.bare, J.base, J.hok, (rfl : Value.none = Value.none), q⟩
    | brk => obtain ⟨_, _, _, q⟩ := hs; exact q.elim
    | cont => obtain ⟨_, _, _, q⟩ := hs; exact q.elim
end
end Mir
/-! MirI: calls of defs -/
namespace Mir
open PySem PySem.Spec L2
/-- an argument: a value, or what a slot holds, lent -/
inductive AV where
  | dat (d : Dat)
  | slot (i : Nat)
abbrev MAv := Sg → Rs (List AV)
inductive AvsOk (cm : CM) (K : PySem.W.Frag) (σ : L2.St) (G : VH) : List V → List AV → Prop
  | nil : AvsOk cm K σ G [] []
  | dat {v : V} {d : Dat} {vs : List V} {as : List AV} : Rp cm K G v d → AvsOk cm K σ G vs as → AvsOk cm K σ G (v :: vs) (.dat d :: as)
  | slot {v : V} {i : Nat} {vs : List V} {as : List AV} : σ[i]? = some (some v) → AvsOk cm K σ G vs as → AvsOk cm K σ G (v :: vs) (.slot i :: as)
theorem AvsOk.mono {cm : CM} {K : PySem.W.Frag} {σ : L2.St} {G G' : VH} (e : Same G G') : ∀ {vs : List V} {as : List AV}, AvsOk cm K σ G vs as → AvsOk cm K σ G' vs as
  | _, _, .nil => .nil
  | _, _, .dat a b => .dat (a.mono e) (AvsOk.mono e b)
  | _, _, .slot a b => .slot a (AvsOk.mono e b)
theorem AvsOk.length {cm : CM} {K : PySem.W.Frag} {σ : L2.St} {G : VH} : ∀ {vs : List V} {as : List AV}, AvsOk cm K σ G vs as → vs.length = as.length
  | _, _, .nil => rfl
  | _, _, .dat _ b => congrArg Nat.succ (AvsOk.length b)
  | _, _, .slot _ b => congrArg Nat.succ (AvsOk.length b)
abbrev rAv (cm : CM) (K : PySem.W.Frag) : Rep (List V) (List AV) := fun σ G vs as => AvsOk cm K σ G vs as
abbrev tAv (cm : CM) (K : PySem.W.Frag) (W : WX) (m : MAv) : TA := tG cm K W (rAv cm K) m
def isLent (i : Nat) (S : Sg) : Bool := match S[i]? with
  | some (.loc _) => true
  | some (.own _ _) => true
  | _ => false
def vNil : MAv := fun S => .ok [] S
def vDat (ma : ME) (mr : MAv) : MAv := fun S => (ma S).bind fun d S1 => (mr S1).bind fun r S2 => .ok (.dat d :: r) S2
def vSlot (i : Nat) (mr : MAv) : MAv := fun S => if isLent i S then (mr S).bind fun r S2 => .ok (.slot i :: r) S2 else .bad
def fetch (S : Sg) : List AV → Option (List FA × List Nat)
  | [] => some ([], [])
  | .dat d :: r => match fetch S r with
    | some (fs, is) => some (.dat d :: fs, is)
    | none => none
  | .slot i :: r => match S[i]?, fetch S r with
    | some (.own _ o), some (fs, is) => some (.own o :: fs, i :: is)
    | some (.loc ds), some (fs, is) => some (.own (.lst ds) :: fs, i :: is)
    | _, _ => none
def putS (s : Slot) (o : Own) : Option Slot := match s with
  | .own j _ => some (.own j o)
  | .loc _ => match o with
    | .lst ds => some (.loc ds)
    | _ => none
  | _ => none
def wb : Sg → List Nat → List Own → Option Sg
  | S, [], [] => some S
  | S, i :: is, o :: os => match S[i]? with
    | some s => match putS s o with
      | some s' => wb (S.set i s') is os
      | none => none
    | none => none
  | _, _, _ => none
def nodupB : List Nat → Bool
  | [] => true
  | i :: is => !is.contains i && nodupB is
theorem nodupB_ok : ∀ {is : List Nat}, nodupB is = true → is.Nodup
  | [], _ => List.nodup_nil
  | i :: is, h => by
    unfold nodupB at h
    rw [Bool.and_eq_true] at h
    refine List.nodup_cons.mpr ⟨fun z => ?_, nodupB_ok h.2⟩
    have := h.1
    simp [z] at this
def applyF (Fn : List FA → RF) (as : List AV) (S : Sg) : Rs Dat := match fetch S as with
  | none => .bad
  | some (fs, is) => if nodupB is then (match Fn fs with
    | .ok d outs => (match wb S is outs with
      | some S' => .ok d S'
      | none => .bad)
    | .exc c es outs => (match wb S is outs with
      | some S' => .exc c es S'
      | none => .bad)
    | .bad => .bad) else .bad
theorem nd_of_get {α : Type} : ∀ {xs : List α}, (∀ (t u : Nat) (l : α), xs[t]? = some l → xs[u]? = some l → t = u) → xs.Nodup
  | [], _ => List.nodup_nil
  | x :: xs, h => List.nodup_cons.mpr ⟨fun z => by
      obtain ⟨t, ht, e⟩ := List.getElem_of_mem z
      have := h 0 (t + 1) x rfl (by rw [List.getElem?_cons_succ, List.getElem?_eq_getElem ht, e])
      omega, nd_of_get fun t u l a b => by
      have := h (t + 1) (u + 1) l (by rw [List.getElem?_cons_succ]; exact a) (by rw [List.getElem?_cons_succ]; exact b)
      omega⟩
def LentAt (F : Fm) (S : Sg) (σ : L2.St) (i : Nat) (l : Addr) : Prop := σ[i]? = some (some (.ref l)) ∧ ((∃ ds, S[i]? = some (.loc ds)) ∨ ∃ j o, S[i]? = some (.own j o) ∧ F.A0[j]? = some l)
section
variable {F : Fm} {S S' : Sg} {σ : L2.St} {H H' : Hp}
theorem Rel.lentAt (R : Rel F S σ H) {i : Nat} (h : isLent i S = true) : ∃ l, LentAt F S σ i l := by
  unfold isLent at h
  cases hs : S[i]? with
  | none => rw [hs] at h; cases h
  | some s =>
    have hl : i < σ.length := by rw [← R.len]; exact (List.getElem?_eq_some_iff.mp hs).1
    have hv : σ[i]? = some σ[i] := List.getElem?_eq_getElem hl
    have q := R.sl i s _ hs hv
    generalize σ[i] = w at hv q
    cases q with
    | no => rw [hs] at h; cases h
    | dat _ => rw [hs] at h; cases h
    | exn _ _ _ => rw [hs] at h; cases h
    | heap _ _ => rw [hs] at h; cases h
    | loc _ _ => exact ⟨_, hv, .inl ⟨_, hs⟩⟩
    | own e0 _ => exact ⟨_, hv, .inr ⟨_, _, hs, e0⟩⟩
theorem Rel.lent1 (R : Rel F S σ H) {i k : Nat} {l : Addr} (a : LentAt F S σ i l) (b : LentAt F S σ k l) : i = k := by
  obtain ⟨a0, a1⟩ := a
  obtain ⟨b0, b1⟩ := b
  rcases a1 with ⟨ds, a1⟩ | ⟨j, o, a1, a2⟩
  · rcases b1 with ⟨es, b1⟩ | ⟨j', o', b1, b2⟩
    · exact locs_one R.nd a1 a0 b1 b0
    · exact absurd (R.ain l (List.mem_of_getElem? b2)) (R.lom l (mem_locs.mpr ⟨i, ds, a1, a0⟩))
  · rcases b1 with ⟨es, b1⟩ | ⟨j', o', b1, b2⟩
    · exact absurd (R.ain l (List.mem_of_getElem? a2)) (R.lom l (mem_locs.mpr ⟨k, es, b1, b0⟩))
    · have ej : j = j' := nd_ix R.and_ a2 b2
      subst ej
      exact owns_one R.ond a1 b1
theorem Rel.lentIn (R : Rel F S σ H) {i : Nat} {l : Addr} (a : LentAt F S σ i l) : l ∈ F.M ++ locs S σ := by
  obtain ⟨a0, a1⟩ := a
  rcases a1 with ⟨ds, a1⟩ | ⟨j, o, a1, a2⟩
  · exact List.mem_append_right _ (mem_locs.mpr ⟨i, ds, a1, a0⟩)
  · exact List.mem_append_left _ (R.ain l (List.mem_of_getElem? a2))
theorem locs_set_own {i j : Nat} {o u : Own} (h : S[i]? = some (.own j o)) : locs (S.set i (.own j u)) σ = locs S σ := by
  have key : ∀ (S : Sg) (σ : L2.St) (i : Nat), S[i]? = some (.own j o) → locs (S.set i (.own j u)) σ = locs S σ := by
    intro S
    induction S with
    | nil => intro σ i h; simp at h
    | cons s S ih =>
      intro σ i h
      cases σ with
      | nil =>
        have : ∀ T : Sg, locs T [] = [] := fun T => by cases T with
          | nil => rfl
          | cons x r => cases x <;> rfl
        simp [this]
      | cons v σ =>
        cases i with
        | zero => simp at h; subst h; rfl
        | succ i =>
          have := ih σ i (by simpa using h)
          show locs (s :: S.set i _) (v :: σ) = locs (s :: S) (v :: σ)
          cases s with
          | loc ds =>
            cases v with
            | none => exact this
            | some v =>
              cases v with
              | ref l => simp [locs, this]
              | _ => exact this
          | _ => simpa [locs] using this
  exact key S σ i h
theorem wb_spec : ∀ {is : List Nat} {os : List Own} {S S' : Sg}, is.Nodup → wb S is os = some S' → S'.length = S.length ∧ locs S' σ = locs S σ ∧ owns S' = owns S ∧ (∀ k : Nat, k ∉ is → S'[k]? = S[k]?) ∧
    ∀ (t k : Nat), is[t]? = some k → ∃ s o s', S[k]? = some s ∧ os[t]? = some o ∧ putS s o = some s' ∧ S'[k]? = some s'
  | [], [], S, S', _, h => by cases h; exact ⟨rfl, rfl, rfl, fun _ _ => rfl, fun t k e => by simp at e⟩
  | [], _ :: _, S, S', _, h => by cases h
  | _ :: _, [], S, S', _, h => by cases h
  | i :: is, o :: os, S, S', nd, h => by
    obtain ⟨n1, n2⟩ := List.nodup_cons.mp nd
    unfold wb at h
    cases hs : S[i]? with
    | none => rw [hs] at h; cases h
    | some s =>
      rw [hs] at h
      dsimp only at h
      cases hp : putS s o with
      | none => rw [hp] at h; cases h
      | some s1 =>
        rw [hp] at h
        obtain ⟨a1, a2, a3, a4, a5⟩ := wb_spec n2 h
        have hi : i < S.length := (List.getElem?_eq_some_iff.mp hs).1
        have el : locs (S.set i s1) σ = locs S σ ∧ owns (S.set i s1) = owns S := by
          unfold putS at hp
          cases s with
          | no => cases hp
          | dat d => cases hp
          | exn c fs => cases hp
          | heap T => cases hp
          | loc ds =>
            cases o with
            | lst es =>
              cases hp
              refine ⟨locs_set_same hs, ?_⟩
              have key : ∀ (S : Sg) (i : Nat), S[i]? = some (.loc ds) → owns (S.set i (.loc es)) = owns S := by
                intro S
                induction S with
                | nil => intro i h; simp at h
                | cons s S ih =>
                  intro i h
                  cases i with
                  | zero => simp at h; subst h; rfl
                  | succ i =>
                    have := ih i (by simpa using h)
                    show owns (s :: S.set i _) = owns (s :: S)
                    cases s with
                    | own j o => simp [owns, this]
                    | _ => simpa [owns] using this
              exact key S i hs
            | obj _ _ => cases hp
            | dic _ => cases hp
            | dit _ => cases hp
            | gone _ => cases hp
          | own j u => cases hp; exact ⟨locs_set_own hs, owns_set_same hs⟩
        refine ⟨by rw [a1, List.length_set], by rw [a2, el.1], by rw [a3, el.2], fun k hk => ?_, fun t k e => ?_⟩
        · rw [a4 k fun z => hk (List.mem_cons_of_mem _ z), List.getElem?_set_ne fun z => hk (by rw [z]; exact List.mem_cons_self ..)]
        · cases t with
          | zero =>
            simp at e; subst e
            refine ⟨s, o, s1, hs, rfl, hp, ?_⟩
            rw [a4 i n1, List.getElem?_set, if_pos rfl, if_pos hi]
          | succ t =>
            have e' : is[t]? = some k := by simpa using e
            obtain ⟨s2, o2, s3, b1, b2, b3, b4⟩ := a5 t k e'
            have hne : i ≠ k := fun z => n1 (by rw [z]; exact List.mem_of_getElem? e')
            rw [List.getElem?_set_ne hne] at b1
            exact ⟨s2, o2, s3, b1, by simpa using b2, b3, b4⟩
/-- behind a call to which some slots' things were lent -/
theorem Rel.lent (R : Rel F S σ H) {is : List Nat} {ls : List Addr} {outs : List Own} (nd : is.Nodup) (ha : ∀ (t i : Nat), is[t]? = some i → ∃ l, ls[t]? = some l ∧ LentAt F S σ i l) (hb : ∀ (t : Nat) (l : Addr), ls[t]? = some l → ∃ i : Nat, is[t]? = some i)
    (keep : ∀ a o, H a = some o → a ∉ ls → H' a = some o) (oo : OutsOk F.cm F.K (hid (F.M ++ locs S σ) H') H' ls outs) (hw : wb S is outs = some S') : Rel F S' σ H' ∧ Same (vis F S σ H) (vis F S' σ H') := by
  obtain ⟨a1, a2, a3, a4, a5⟩ := wb_spec (σ := σ) nd hw
  have eV : vis F S' σ H' = hid (F.M ++ locs S σ) H' := by unfold vis; rw [a2]
  have mem : ∀ l, l ∈ ls → ∃ i, i ∈ is ∧ LentAt F S σ i l := fun l hl => by
    obtain ⟨t, ht, e⟩ := List.getElem_of_mem hl
    have et : ls[t]? = some l := by rw [List.getElem?_eq_getElem ht, e]
    obtain ⟨i, hi⟩ := hb t l et
    obtain ⟨l', e2, q⟩ := ha t i hi
    rw [et] at e2; cases e2
    exact ⟨i, List.mem_of_getElem? hi, q⟩
  have g : Same (vis F S σ H) (vis F S' σ H') := by
    rw [eV]
    exact hid_same fun a o na q => keep a o q fun z => by
      obtain ⟨i, _, q⟩ := mem a z
      exact na (R.lentIn q)
  have outl : ∀ l, l ∈ ls → Lv (H' l) := fun l hl => by
    obtain ⟨t, ht, e⟩ := List.getElem_of_mem hl
    obtain ⟨o, _, ok⟩ := oo.get (show ls[t]? = some l by rw [List.getElem?_eq_getElem ht, e])
    exact ok.lv
  have lvH : ∀ a, H a ≠ none → H' a ≠ none := fun a h => by
    by_cases hl : a ∈ ls
    · exact (outl a hl).ne
    · cases q : H a with
      | none => exact absurd q h
      | some o => rw [keep a o q hl]; simp
  have back : ∀ (k : Nat) (s' : Slot), S'[k]? = some s' → S[k]? = some s' ∨ (∃ ds ds', S[k]? = some (.loc ds) ∧ s' = .loc ds') ∨ ∃ j u u', S[k]? = some (.own j u) ∧ s' = .own j u' := fun k s' hk => by
    by_cases hi : k ∈ is
    · obtain ⟨t, ht, e⟩ := List.getElem_of_mem hi
      obtain ⟨s0, o, s1, b1, b2, b3, b4⟩ := a5 t k (by rw [List.getElem?_eq_getElem ht, e])
      rw [hk] at b4; cases b4
      unfold putS at b3
      cases s0 with
      | loc ds =>
        cases o with
        | lst es => cases b3; exact .inr (.inl ⟨_, _, b1, rfl⟩)
        | _ => cases b3
      | own j u => cases b3; exact .inr (.inr ⟨_, _, _, b1, rfl⟩)
      | _ => cases b3
    · rw [a4 k hi] at hk; exact .inl hk
  refine ⟨⟨by rw [a1, R.len], fun k s v hs hv => ?_, by rw [a2]; exact R.nd, fun l h => R.new l (by rw [← a2]; exact h), by rw [a3]; exact R.ond, R.and_, R.ain, fun a h => ?_, fun l h => R.lom l (by rw [← a2]; exact h), fun p h => ?_, fun a o q n => ?_, R.hp.of (fun i T z => ?_) (fun j m u z => ?_) lvH⟩, g⟩
  · rw [eV]
    by_cases hk : k ∈ is
    · obtain ⟨t, ht, e⟩ := List.getElem_of_mem hk
      have et : is[t]? = some k := by rw [List.getElem?_eq_getElem ht, e]
      obtain ⟨s0, o, s1, b1, b2, b3, b4⟩ := a5 t k et
      rw [hs] at b4; cases b4
      obtain ⟨l, el, lv, lk⟩ := ha t k et
      rw [hv] at lv; cases lv
      obtain ⟨o', eo, ok⟩ := oo.get el
      rw [b2] at eo; cases eo
      rcases lk with ⟨ds, lk⟩ | ⟨j, u, lk, lj⟩
      · rw [b1] at lk; cases lk
        cases o with
        | lst es =>
          cases b3
          cases ok with
          | lst h r => exact .loc h r
        | obj _ _ => cases b3
        | dic _ => cases b3
        | dit _ => cases b3
        | gone _ => cases b3
      · rw [b1] at lk; cases lk
        cases b3
        exact .own lj ok
    · rw [a4 k hk] at hs
      have y := R.sl k s v hs hv
      rw [← eV]
      refine y.mono g fun l x hd q => keep l x q fun z => ?_
      obtain ⟨i, hi, l0, lk⟩ := mem l z
      have e : i = k := by
        rcases lk with ⟨ds, lk⟩ | ⟨j, u, lk, lj⟩
        · exact R.apart lk l0 hs hv rfl hd
        · exact R.apart lk l0 hs hv rfl hd
      exact hk (by rw [← e]; exact hi)
  · by_cases hl : a ∈ ls
    · exact outl a hl
    · have y := R.liv a h
      cases q : H a with
      | none => exact absurd q y.ne
      | some o => rw [keep a o q hl]; rw [q] at y; exact y
  · obtain ⟨t1, t2, t3⟩ := R.tmp p h
    refine ⟨keep _ _ t1 fun z => ?_, t2, t3⟩
    obtain ⟨i, _, l0, lk⟩ := mem p.1 z
    rcases lk with ⟨ds, lk⟩ | ⟨j, u, lk, lj⟩
    · exact R.lom p.1 (mem_locs.mpr ⟨i, ds, lk, l0⟩) t2
    · exact t3 (List.mem_of_getElem? lj)
  · refine keep a o (R.keep a o q n) fun z => ?_
    obtain ⟨i, _, l0, lk⟩ := mem a z
    rcases lk with ⟨ds, lk⟩ | ⟨j, u, lk, lj⟩
    · rw [R.new a (mem_locs.mpr ⟨i, ds, lk, l0⟩)] at q; cases q
    · exact n (List.mem_of_getElem? lj)
  · rcases back i _ z with z | ⟨_, _, _, z⟩ | ⟨_, _, _, _, z⟩
    · exact z
    · cases z
    · cases z
  · rcases back j _ z with z | ⟨_, _, _, z⟩ | ⟨_, _, _, y, z⟩
    · exact ⟨_, z⟩
    · cases z
    · cases z; exact ⟨_, y⟩
theorem fetch_ok {cm : CM} {K : PySem.W.Frag} (e1 : F.cm = cm) (e2 : F.K = K) (R : Rel F S σ H) : ∀ {vs : List V} {as : List AV} {fs : List FA} {is : List Nat}, AvsOk cm K σ (vis F S σ H) vs as → fetch S as = some (fs, is) →
    ∃ ls, ArgsOk cm K (vis F S σ H) H vs fs ls ∧ (∀ (t i : Nat), is[t]? = some i → ∃ l, ls[t]? = some l ∧ LentAt F S σ i l) ∧ ∀ (t : Nat) (l : Addr), ls[t]? = some l → ∃ i : Nat, is[t]? = some i
  | _, _, fs, is, .nil, h => by cases h; exact ⟨[], .nil, fun t i e => by simp at e, fun t l e => by simp at e⟩
  | _, _, fs, is, .dat (as := as) a b, h => by
    unfold fetch at h
    cases hf : fetch S as with
    | none => rw [hf] at h; cases h
    | some q =>
      obtain ⟨q1, q2⟩ := q
      rw [hf] at h; cases h
      obtain ⟨ls, c1, c2, c3⟩ := fetch_ok e1 e2 R b hf
      exact ⟨ls, .dat a c1, c2, c3⟩
  | _, _, fs, is, .slot (i := i) (as := as) a b, h => by
    unfold fetch at h
    cases hs : S[i]? with
    | none => rw [hs] at h; cases h
    | some s =>
      have y := R.sl i s _ hs a
      cases hf : fetch S as with
      | none => rw [hs, hf] at h; cases s <;> cases h
      | some q =>
        obtain ⟨q1, q2⟩ := q
        rw [hs, hf] at h
        obtain ⟨ls, c1, c2, c3⟩ := fetch_ok e1 e2 R b hf
        have fin : ∀ {l : Addr} {o : Own}, LentAt F S σ i l → OwnOk cm K (vis F S σ H) H l o → (FA.own o :: q1, i :: q2) = (fs, is) → ∃ ls, ArgsOk cm K (vis F S σ H) H (V.ref l :: _) fs ls ∧ (∀ (t i : Nat), is[t]? = some i → ∃ l, ls[t]? = some l ∧ LentAt F S σ i l) ∧ ∀ (t : Nat) (l : Addr), ls[t]? = some l → ∃ i : Nat, is[t]? = some i := fun {l o} la ok e => by
          cases e
          refine ⟨l :: ls, .own ok c1, fun t k e => ?_, fun t x e => ?_⟩
          · cases t with
            | zero => simp at e; subst e; exact ⟨l, rfl, la⟩
            | succ t => obtain ⟨x, d1, d2⟩ := c2 t k (by simpa using e); exact ⟨x, by simpa using d1, d2⟩
          · cases t with
            | zero => exact ⟨i, rfl⟩
            | succ t => obtain ⟨k, d⟩ := c3 t x (by simpa using e); exact ⟨k, by simpa using d⟩
        cases y with
        | no => cases h
        | dat _ => cases h
        | exn _ _ _ => cases h
        | heap _ _ => cases h
        | loc eh r => exact fin ⟨a, .inl ⟨_, hs⟩⟩ (.lst eh (by rw [← e1, ← e2]; exact r)) (Option.some.inj h)
        | own e0 ok => exact fin ⟨a, .inr ⟨_, _, hs, e0⟩⟩ (by rw [← e1, ← e2]; exact ok) (Option.some.inj h)
theorem apply_ok {cm : CM} {K : PySem.W.Frag} {W : WX} {Fn : List FA → RF} {vs : List V} {as : List AV} {Q : VK} (e1 : F.cm = cm) (e2 : F.K = K) (R : Rel F S σ H) (av : AvsOk cm K σ (vis F S σ H) vs as) (h : out F W σ (vis F S σ H) (rE cm K) Q (applyF Fn as S)) :
    spF cm K Fn vs H Q (WE W σ) := by
  unfold applyF at h
  cases hf : fetch S as with
  | none => rw [hf] at h; exact h.elim
  | some q =>
    obtain ⟨fs, is⟩ := q
    rw [hf] at h
    dsimp only at h
    by_cases hn : nodupB is = true
    · rw [if_pos hn] at h
      have nd := nodupB_ok hn
      obtain ⟨ls, c1, c2, c3⟩ := fetch_ok e1 e2 R av hf
      have lin : ∀ l, l ∈ ls → l ∈ F.M ++ locs S σ := fun l hl => by
        obtain ⟨t, ht, e⟩ := List.getElem_of_mem hl
        have et : ls[t]? = some l := by rw [List.getElem?_eq_getElem ht, e]
        obtain ⟨i, hi⟩ := c3 t l et
        obtain ⟨l', e3, q⟩ := c2 t i hi
        rw [et] at e3; cases e3
        exact R.lentIn q
      have lnd : ls.Nodup := nd_of_get fun t u l ht hl => by
        obtain ⟨i, hi⟩ := c3 u l hl
        obtain ⟨k, hk⟩ := c3 t l ht
        obtain ⟨l1, d1, d2⟩ := c2 u i hi
        obtain ⟨l2, d3, d4⟩ := c2 t k hk
        rw [hl] at d1; cases d1
        rw [ht] at d3; cases d3
        have ik := R.lent1 d2 d4
        subst ik
        exact nd_ix nd hk hi
      refine ⟨F.M ++ locs S σ, fs, ls, R.live, lin, lnd, c1, ?_⟩
      cases hF : Fn fs with
      | bad => rw [hF] at h; exact h
      | ok d outs =>
        rw [hF] at h
        intro v H' kp oo rv
        dsimp only at h
        cases hw : wb S is outs with
        | none => rw [hw] at h; exact h.elim
        | some S' =>
          rw [hw] at h
          obtain ⟨R', s'⟩ := R.lent nd c2 c3 kp (by rw [e1, e2]; exact oo) hw
          refine h v H' R' s' ?_
          have eV : vis F S' σ H' = hid (F.M ++ locs S σ) H' := by unfold vis; rw [(wb_spec (σ := σ) nd hw).2.1]
          rw [eV]
          exact rv
      | exc c es outs =>
        rw [hF] at h
        intro da gs H' kp oo hda rg
        dsimp only at h
        cases hw : wb S is outs with
        | none => rw [hw] at h; exact h.elim
        | some S' =>
          rw [hw] at h
          obtain ⟨R', s'⟩ := R.lent nd c2 c3 kp (by rw [e1, e2]; exact oo) hw
          have eV : vis F S' σ H' = hid (F.M ++ locs S σ) H' := by unfold vis; rw [(wb_spec (σ := σ) nd hw).2.1]
          have z := h da gs H' R' s' (by rw [eV]; exact hda) (by rw [eV, e1, e2]; exact rg)
          rw [e1] at z
          exact z
    · rw [if_neg hn] at h; exact h.elim
end
end Mir
/-! MirJ: the forms of calls -/
namespace Mir
open PySem PySem.Spec L2
inductive AvOk (cm : CM) (K : PySem.W.Frag) (σ : L2.St) (G : VH) : V → AV → Prop
  | dat {v : V} {d : Dat} : Rp cm K G v d → AvOk cm K σ G v (.dat d)
  | slot {v : V} {i : Nat} : σ[i]? = some (some v) → AvOk cm K σ G v (.slot i)
section
variable {cm : CM} {K : PySem.W.Frag} {σ : L2.St} {G : VH}
theorem AvsOk.cons {v : V} {a : AV} {vs : List V} {as : List AV} (h : AvOk cm K σ G v a) (r : AvsOk cm K σ G vs as) : AvsOk cm K σ G (v :: vs) (a :: as) := by
  cases h with
  | dat p => exact .dat p r
  | slot p => exact .slot p r
theorem AvsOk.at : ∀ {vs : List V} {as : List AV}, AvsOk cm K σ G vs as → ∀ i : Nat, AvOk cm K σ G (vs.getD i .non) (as.getD i (.dat .non))
  | _, _, .nil, i => by simpa using AvOk.dat Rp.non
  | _, _, .dat a b, 0 => .dat a
  | _, _, .slot a b, 0 => .slot a
  | _, _, .dat a b, i + 1 => by have := AvsOk.at b i; simpa using this
  | _, _, .slot a b, i + 1 => by have := AvsOk.at b i; simpa using this
end
theorem Vals.at : ∀ {vs : List V} {us : List Value}, Vals vs us → ∀ i : Nat, RelV (vs.getD i .non) (us.getD i .none)
  | _, _, .nil, i => by simp [RelV]
  | _, _, .cons a b, 0 => a
  | _, _, .cons a b, i + 1 => by have := Vals.at b i; simpa using this
/-- how a call's arguments come to the parameters, by values and by trees -/
structure Arr (K : PySem.W.Frag) (n m : Nat) (gV : List V → List V → List V) (arr : List AV → List AV → List AV) : Prop where
  ok : ∀ {cm : CM} {σ : L2.St} {G : VH} {vs zs : List V} {as bs : List AV}, vs.length = n → zs.length = m → AvsOk cm K σ G vs as → AvsOk cm K σ G zs bs → AvsOk cm K σ G (gV vs zs) (arr as bs)
def mCallF (Fn : List FA → RF) (n m : Nat) (arr : List AV → List AV → List AV) (ma mk : MAv) : ME := fun S => (ma S).bind fun as S1 => (mk S1).bind fun bs S2 => if as.length = n ∧ bs.length = m then applyF Fn (arr as bs) S2 else .bad
/-! ### binding -/
section
variable {K : PySem.W.Frag} {x qual : Str} {params : Arguments} {body : List Stmt} {scope : Scope} {dvs : List V} {kws : List (Str × V)} {f : Addr} {fd : FuncData} {ps : List Str}
theorem kb_plain (F : FunD K x qual params body scope [] kws f fd) (n : Nat) (ks : List Str) (g : List Value → List Value → List Value) (gV : List V → List V → List V)
    (hrel : ∀ {vs : List V} {us : List Value} {zs : List V} {ws : List Value}, Vals vs us → Vals zs ws → Vals (gV vs zs) (g us ws))
    (h : ∀ (kV doc pm : Value) (an : Option Addr) (cdv ct : Value) (us ws : List Value), us.length = n → ws.length = ks.length → bindArgs (PySem.W.fnOf x qual params body scope .none kV doc pm an cdv ct) ⟨us, ks.zip ws⟩ = pure (ps.zip (g us ws))) : ∃ g, KBn K fd ps n ks g gV := by
  obtain ⟨oc, od, dV, kV, doc, pm, an, cdv, ct, osl, rfl, lk, hcd, hD, hK⟩ := F.ex
  rcases hD with ⟨_, rfl⟩ | ⟨e, _⟩
  · exact ⟨g, ⟨fun s us ws _ l1 l2 => .of_eq (h kV doc pm an cdv ct us ws l1 l2), hrel⟩⟩
  · exact absurd rfl e
theorem kb_dfl (F : FunD K x qual params body scope dvs kws f fd) (n : Nat) (ks : List Str) (g : {α : Type} → List α → List α → List α → List α) (hd : dvs ≠ [])
    (hrel : ∀ {vs ds zs : List V} {us its ws : List Value}, Vals vs us → Vals ds its → Vals zs ws → Vals (g vs ds zs) (g us its ws))
    (h : ∀ (T : Addr) (kV doc pm : Value) (an : Option Addr) (cdv ct : Value) (us its ws : List Value), us.length = n → its.length = dvs.length → ws.length = ks.length →
      ∃ k, bindArgs (PySem.W.fnOf x qual params body scope (.ref T) kV doc pm an cdv ct) ⟨us, ks.zip ws⟩ = seqItems? (.ref T) >>= k ∧ k (some its.toArray) = pure (ps.zip (g us its ws))) : ∃ g', KBn K fd ps n ks g' (fun vs zs => g vs dvs zs) := by
  obtain ⟨its, q⟩ := F.kbindsD n ks g hd hrel h
  exact ⟨_, q⟩
end
/-! ### arguments -/
section
variable {X : Cx} {cm : CM} {W : WX} {e o : Expr} {es : List Expr} {ma : ME} {mr mk : MAv} {pos p : Pos} {kwl : List Keyword}
theorem gv_nil : PA X [] (tAv cm X.K W vNil) := PA.weak pa_nil fun σ H Q ⟨F, S, e1, e2, R, h⟩ => h [] H R (.refl _) .nil
theorem gv_dat (ha : PE X e (tE cm X.K W ma)) (hr : PA X es (tAv cm X.K W mr)) (hs : starEach (e :: es) X.env = (false, eval e X.env) :: starEach es X.env := by rfl) : PA X (e :: es) (tAv cm X.K W (vDat ma mr)) :=
  PA.weak (pa_cons ha hr hs) fun σ H Q ⟨F, S, e1, e2, R, h⟩ => tG_bind e1 e2 R h fun F x H1 da S1 e1 e2 R1 s1 p1 h1 => tG_bind e1 e2 R1 h1 fun F y H2 db S2 e1 e2 R2 s2 p2 h2 => h2 _ H2 R2 (.refl _) (.dat (Rp.mono s2 p1) p2)
theorem gv_slot {i : Nat} (ho : PE X e (tVar i)) (hr : PA X es (tAv cm X.K W mr)) (hs : starEach (e :: es) X.env = (false, eval e X.env) :: starEach es X.env := by rfl) : PA X (e :: es) (tAv cm X.K W (vSlot i mr)) :=
  PA.weak (pa_cons ho hr hs) fun σ H Q ⟨F, S, e1, e2, R, h⟩ => by
    unfold vSlot at h
    by_cases hz : isLent i S = true
    · rw [if_pos hz] at h
      obtain ⟨l, hl, _⟩ := R.lentAt hz
      exact ⟨_, hl, tG_bind e1 e2 R h fun F y H2 db S2 e1 e2 R2 s2 p2 h2 => h2 _ H2 R2 (.refl _) (.slot hl p2)⟩
    · rw [if_neg hz] at h; exact h.elim
theorem PK.weak {kws : List Keyword} {t t' : TA} (h : PK X kws t) (i : ∀ σ H Q, t' σ H Q → t σ H Q) : PK X kws t' := ⟨fun pos pins s σ H Q I q => h.run pos pins s σ H Q I (i σ H Q q)⟩
theorem gk_nil : PK X [] (tAv cm X.K W vNil) := PK.weak pk_nil fun σ H Q ⟨F, S, e1, e2, R, h⟩ => h [] H R (.refl _) .nil
theorem gk_dat {kpos : Pos} {nm : Option Str} (ha : PE X e (tE cm X.K W ma)) (hr : PK X kwl (tAv cm X.K W mr)) : PK X (⟨nm, e, kpos⟩ :: kwl) (tAv cm X.K W (vDat ma mr)) :=
  PK.weak (pk_cons ha hr) fun σ H Q ⟨F, S, e1, e2, R, h⟩ => tG_bind e1 e2 R h fun F x H1 da S1 e1 e2 R1 s1 p1 h1 => tG_bind e1 e2 R1 h1 fun F y H2 db S2 e1 e2 R2 s2 p2 h2 => h2 _ H2 R2 (.refl _) (.dat (Rp.mono s2 p1) p2)
/-! ### calls -/
variable {k n m : Nat} {f : Addr} {fd : FuncData} {ps ks : List Str} {Fn : List FA → RF} {x : Str} {gV : List V → List V → List V} {arr : List AV → List AV → List AV}
theorem run_g {sp : Sp} {pins : List (Addr × Obj)} {σ : L2.St} {H : Hp} {s : Shared} {Q : VK} {us : List Value} {kw : List (Str × Value)} {ys : List Value} {xs : List V} (Fk : FnG X.prog X.w X.K X.mg X.base (L2.CX X.prog X.w) k f fd ps sp) (hr : Room k X.A) (hgd : X.A.guards = some []) (tk : Takes X W)
    (I : L2.Inv X pins σ H s) (hb : BindsTo s fd ⟨us, kw⟩ (ps.zip ys)) (r : Vals xs ys) (h : sp xs H Q (WE W σ)) : wpAny (model X.prog X.w) X.A (call (.ref f) us kw) (EP X pins σ Q) X.xe s := by
  refine wpAny_call (codeAny_mono (Fk.run X.A X.stack s H ⟨us, kw⟩ ys xs Q (WE W σ) hr hgd I.env0 hb r h) fun res s' hq => ?_)
  rcases res with e | fl
  · exact passAt tk σ pins H s e s' I hq
  · rcases fl with _ | _ | _ | u
    · exact False.elim hq
    · exact False.elim hq
    · exact False.elim hq
    · exact I.after hq
/-- f(e, ..) -/
theorem ge_callF (Fk : FnG X.prog X.w X.K X.mg X.base (L2.CX X.prog X.w) k f fd ps (spF cm X.K Fn)) (hr : Room k X.A) (hgd : X.A.guards = some []) (tk : Takes X W) (hg : Gl X x) (hm : X.mg x = some (.ref f)) (hk : PySem.W.keepIn X.K (.ref f) = true) (hb : ∃ g, KBn X.K fd ps n [] g gV) (hA : Arr X.K n 0 gV arr)
    (ha : PA X (e :: es) (tAv cm X.K W mr)) (hdb : (x == ("__debug__" : Str)) = false := by decide) (he : starEach (e :: es) X.env = (false, eval e X.env) :: starEach es X.env := by rfl) (hpl : (backTo pos (starEach es X.env)).any (·.1) = false := by rfl) :
    PE X (.Call (.Name x p) (e :: es) [] pos) (tE cm X.K W (mCallF Fn n 0 arr mr vNil)) := by
  obtain ⟨g, hb⟩ := hb
  refine ⟨fun pins s σ H Q I ⟨F, S, e1, e2, R, h⟩ => wpAny_Call_Name_kw (ld_glob I hg hm (PySem.W.callWith_K (h₀ := X.base) I.ok.mod.kin hk (thn (ha.run pos pins s σ H (fun vs H1 => ∃ F : Fm, ∃ as S1, F.cm = cm ∧ F.K = X.K ∧ Rel F S1 σ H1 ∧ AvsOk cm X.K σ (vis F S1 σ H1) vs as ∧ as.length = n ∧ out F W σ (vis F S1 σ H1) (rE cm X.K) Q (applyF Fn (arr as []) S1)) I
      (tG_bind e1 e2 R h fun F vs H1 as S1 e1 e2 R1 s1 p1 h1 => ?_)) fun us s1 ⟨vs, H1, I1, r, F, as, S1, e1, e2, R1, p1, hl, h1⟩ => ⟨I1.kIn, ?_⟩) he hpl) hdb)⟩
  · have h1' : out F W σ (vis F S1 σ H1) (rE cm X.K) Q (if as.length = n ∧ ([] : List AV).length = 0 then applyF Fn (arr as []) S1 else .bad) := h1
    by_cases hz : as.length = n
    · rw [if_pos ⟨hz, rfl⟩] at h1'
      exact ⟨F, as, S1, e1, e2, R1, p1, hz, h1'⟩
    · rw [if_neg fun z => hz z.1] at h1'; exact h1'.elim
  · have lv : vs.length = n := by rw [AvsOk.length p1]; exact hl
    exact run_g (us := us) (kw := []) Fk hr hgd tk I1 (hb.to s1 us [] I1.kIn (by rw [← r.length]; exact lv) rfl) (hb.rel r .nil) (apply_ok e1 e2 R1 (hA.ok lv rfl p1 .nil) h1)
/-! ### new objects -/
/-- C(..): __init__ gets a new instance of the class -/
def makeF (c : Str) (Fn : List FA → RF) (as : List AV) (S : Sg) : Rs Dat := match fetch S as with
  | none => .bad
  | some (fs, is) => if nodupB is then (match Fn (.own (.obj c []) :: fs) with
    | .ok .non (.obj c' gs :: os) => if c' = c then (match wb S is os with
      | some S' => .ok (.ins c gs) S'
      | none => .bad) else .bad
    | .exc c' es (_ :: os) => (match wb S is os with
      | some S' => .exc c' es S'
      | none => .bad)
    | _ => .bad) else .bad
def datsOf : List AV → Option (List FA)
  | [] => some []
  | .dat d :: r => match datsOf r with
    | some fs => some (.dat d :: fs)
    | none => none
  | _ => none
def mMake (c : Str) (Fn : List FA → RF) (n m : Nat) (arr : List AV → List AV → List AV) (ma mk : MAv) : ME := fun S => (ma S).bind fun as S1 => (mk S1).bind fun bs S2 => if as.length = n ∧ bs.length = m then makeF c Fn (arr as bs) S2 else .bad
theorem OwnOk.grow {K : PySem.W.Frag} {G G' : VH} {H H' : Hp} (e : Same G G') (e' : L2.Same H H') {l : Addr} {o : Own} (h : OwnOk cm K G H l o) : OwnOk cm K G' H' l o := h.mono e fun _ q => e' _ _ q
theorem ArgsOk.grow {K : PySem.W.Frag} {G G' : VH} {H H' : Hp} (e : Same G G') (e' : L2.Same H H') : ∀ {vs : List V} {fs : List FA} {ls : List Addr}, ArgsOk cm K G H vs fs ls → ArgsOk cm K G' H' vs fs ls
  | _, _, _, .nil => .nil
  | _, _, _, .dat a b => .dat (a.mono e) (ArgsOk.grow e e' b)
  | _, _, _, .own a b => .own (a.grow e e') (ArgsOk.grow e e' b)
theorem OutsOk.grow {K : PySem.W.Frag} {G G' : VH} {H : Hp} (e : Same G G') : ∀ {ls : List Addr} {os : List Own}, OutsOk cm K G H ls os → OutsOk cm K G' H ls os
  | _, _, .nil => .nil
  | _, _, .cons a b => .cons (a.grow e (.refl _)) (OutsOk.grow e b)
theorem make_ok {c : Str} {F : Fm} {S : Sg} {σ : L2.St} {H : Hp} {K : PySem.W.Frag} {vs : List V} {as : List AV} {Q : VK} (e1 : F.cm = cm) (e2 : F.K = K) (R : Rel F S σ H) (av : AvsOk cm K σ (vis F S σ H) vs as) (h : out F W σ (vis F S σ H) (rE cm K) Q (makeF c Fn as S)) (x dx : Addr) (hx : H x = none) (hdx : H dx = none) (hne : dx ≠ x) :
    spF cm K Fn (.ref x :: vs) (upd (upd H dx (.own x)) x (.ins (cm c) dx [])) (fun v H2 => v = .non ∧ Q (.ref x) H2) (WE W σ) := by
  unfold makeF at h
  cases hf : fetch S as with
  | none => rw [hf] at h; exact h.elim
  | some q =>
  obtain ⟨fs, is⟩ := q
  rw [hf] at h
  dsimp only at h
  by_cases hn : nodupB is = true
  · rw [if_pos hn] at h
    have nd := nodupB_ok hn
    obtain ⟨ls, c1, c2, c3⟩ := fetch_ok e1 e2 R av hf
    have lin : ∀ l, l ∈ ls → l ∈ F.M ++ locs S σ := fun l hl => by
      obtain ⟨t, ht, e⟩ := List.getElem_of_mem hl
      have et : ls[t]? = some l := by rw [List.getElem?_eq_getElem ht, e]
      obtain ⟨i, hi⟩ := c3 t l et
      obtain ⟨l', e3, q⟩ := c2 t i hi
      rw [et] at e3; cases e3
      exact R.lentIn q
    have lnd : ls.Nodup := nd_of_get fun t u l ht hl => by
      obtain ⟨i, hi⟩ := c3 u l hl
      obtain ⟨k, hk⟩ := c3 t l ht
      obtain ⟨l1, d1, d2⟩ := c2 u i hi
      obtain ⟨l2, d3, d4⟩ := c2 t k hk
      rw [hl] at d1; cases d1
      rw [ht] at d3; cases d3
      have ik := R.lent1 d2 d4
      subst ik
      exact nd_ix nd hk hi
    have hx1 : (upd H dx (.own x)) x = none := by rw [upd_ne (Ne.symm hne)]; exact hx
    have s1 : L2.Same H (upd (upd H dx (.own x)) x (.ins (cm c) dx [])) := (same_new hdx).trans (same_new hx1)
    have fr := R.fresh hx
    have xls : x ∉ ls := fun z => fr (lin x z)
    have gM : Same (vis F S σ H) (hid ((F.M ++ locs S σ).cons x) (upd (upd H dx (.own x)) x (.ins (cm c) dx []))) := hid_to (fun a o ha q => ⟨fun z => (Hd.mem_cons.mp z).elim (ne_of_none q hx) ha, s1 a o q⟩) fun _ _ z => z
    have lv : live ((F.M ++ locs S σ).cons x) (upd (upd H dx (.own x)) x (.ins (cm c) dx [])) := ⟨fun m hm => by
      rcases Hd.mem_cons.mp hm with e | e
      · rw [e, upd_same]; exact trivial
      · exact (R.hlv e).upd.upd⟩
    refine ⟨(F.M ++ locs S σ).cons x, .own (.obj c []) :: fs, x :: ls, lv, fun l hl => (List.mem_cons.mp hl).elim (fun z => Hd.mem_cons.mpr (.inl z)) fun z => Hd.mem_cons.mpr (.inr (lin l z)), List.nodup_cons.mpr ⟨xls, lnd⟩, .own (.obj upd_same .nil) (ArgsOk.grow gM s1 c1), ?_⟩
    have keepH : ∀ {H' : Hp}, (∀ a o, (upd (upd H dx (.own x)) x (.ins (cm c) dx [])) a = some o → a ∉ x :: ls → H' a = some o) → ∀ a o, H a = some o → a ∉ ls → H' a = some o := fun kp a o q hl => kp a o (s1 a o q) fun z => (List.mem_cons.mp z).elim (ne_of_none q hx) hl
    have sb : ∀ {H' : Hp}, Same (hid ((F.M ++ locs S σ).cons x) H') (hid (F.M ++ locs S σ) H') := fun {H'} => hid_sub fun a ha => Hd.mem_cons.mpr (.inr ha)
    cases hF : Fn (.own (.obj c []) :: fs) with
    | bad => rw [hF] at h; exact h
    | exc c' es outs =>
      rw [hF] at h
      intro da gs H' kp oo hda rg
      cases outs with
      | nil => exact False.elim h
      | cons o1 os =>
        cases oo with
        | cons ox oo =>
        dsimp only at h
        cases hw : wb S is os with
        | none => rw [hw] at h; exact h.elim
        | some S' =>
          rw [hw] at h
          obtain ⟨R', s'⟩ := R.lent nd c2 c3 (keepH kp) (by rw [e1, e2]; exact OutsOk.grow sb oo) hw
          have eV : vis F S' σ H' = hid (F.M ++ locs S σ) H' := by unfold vis; rw [(wb_spec (σ := σ) nd hw).2.1]
          have z := h da gs H' R' s' (by rw [eV]; exact sb _ _ hda) (by rw [eV, e1, e2]; exact rg.mono sb)
          rw [e1] at z
          exact z
    | ok d outs =>
      rw [hF] at h
      cases d with
      | non =>
        intro v H' kp oo rv
        cases rv
        refine ⟨rfl, ?_⟩
        cases outs with
        | nil => exact False.elim h
        | cons o1 os =>
          cases oo with
          | cons ox oo =>
          cases o1 with
          | lst _ => exact False.elim h
          | dic _ => exact False.elim h
          | dit _ => exact False.elim h
          | gone _ => exact False.elim h
          | obj c' gs =>
            dsimp only at h
            by_cases hz : c' = c
            · rw [if_pos hz] at h
              subst hz
              cases hw : wb S is os with
              | none => rw [hw] at h; exact h.elim
              | some S' =>
                rw [hw] at h
                obtain ⟨R', s'⟩ := R.lent nd c2 c3 (keepH kp) (by rw [e1, e2]; exact OutsOk.grow sb oo) hw
                have eV : vis F S' σ H' = hid (F.M ++ locs S σ) H' := by unfold vis; rw [(wb_spec (σ := σ) nd hw).2.1]
                refine h (.ref x) H' R' s' ?_
                rw [eV]
                cases ox with
                | obj hh hr => exact .ins (by rw [hid_out fr]; exact hh) (hr.mono sb)
            · rw [if_neg hz] at h; exact h.elim
      | _ => exact False.elim h
  · rw [if_neg hn] at h; exact h.elim
theorem run_mk {sp : Sp} {C : Addr} {pins : List (Addr × Obj)} {σ : L2.St} {H : Hp} {s : Shared} {Q : VK} {us : List Value} {kw : List (Str × Value)} {xs : Addr → List V} (M : Mk X.K C f) (Fk : FnG X.prog X.w X.K X.mg X.base (L2.CX X.prog X.w) k f fd ps sp) (hr : Room (k + 1) X.A) (hgd : X.A.guards = some []) (tk : Takes X W)
    (I : L2.Inv X pins σ H s) (hb : ∀ (s' : Shared) (a : Addr), X.K.In s'.heap → ∃ ys, BindsTo s' fd ⟨.ref a :: us, kw⟩ (ps.zip ys) ∧ Vals (xs a) ys)
    (h : ∀ x dx, H x = none → H dx = none → dx ≠ x → sp (xs x) (upd (upd H dx (.own x)) x (.ins C dx [])) (fun v H2 => v = .non ∧ Q (.ref x) H2) (WE W σ)) : wpAny (model X.prog X.w) X.A (call (.ref C) us kw) (EP X pins σ Q) X.xe s := by
  have hq := h (s.heap.objs.size + 1) s.heap.objs.size (I.hok.fresh (Nat.le_succ _)) (I.hok.fresh (Nat.le_refl _)) (Nat.ne_of_lt (Nat.lt_succ_self _))
  have I2 := L2.Inv.made (C := C) I
  obtain ⟨ys, hbi, r⟩ := hb _ (s.heap.objs.size + 1) I2.kIn
  have gd : (X.A.under (.builtin "type.__call__" ⟨.ref C :: us, kw⟩)).guards = some [] := by
    simp [Around.under, Code.guards, Code.isGuard, guardIds, hgd, pushGuards]
  refine wpAny_call (make_map (f := f) I.kIn M.makes M.init (beq_iff_eq.mp M.fn) (codeAny_mono (Fk.run _ X.stack _ _ ⟨Value.ref (s.heap.objs.size + 1) :: us, kw⟩ ys _ _ (WE W σ) (hr.make C us kw) gd (I2.env0.make C us kw) hbi r hq) fun res s' hq' => ?_))
  rcases res with e | fl
  · exact passAt tk σ pins _ _ e s' I2 hq'
  · rcases fl with _ | _ | _ | u
    · exact False.elim hq'
    · exact False.elim hq'
    · exact False.elim hq'
    · obtain ⟨v, H', I3, rv, ev, q3⟩ := I2.after hq'
      subst ev
      exact ⟨rv, ⟨V.ref (s.heap.objs.size + 1), H', I3, rfl, q3⟩⟩
end
end Mir
/-! MirK: objects, isinstance, texts -/
namespace Mir
open PySem PySem.Spec L2
/-- what the written part says of a class of the program -/
structure ClsF (K : PySem.W.Frag) (C : Addr) : Prop where
  cl : Cls K C
  kc : PySem.W.findIn K (.ref C) "__class__" = some (some (.builtin "object.__class__"))
  sp : PySem.W.specialIn K (.builtin "object.__class__") "__get__" = some (some (.builtin "getset_descriptor.__get__"))
  tk : PySem.W.takesIn K (.builtin "object.__class__") = some true
  mo : PySem.W.mroIn K C (.type "object") = some true
section
variable {X : Cx} {cm : CM} {W : WX} {e o : Expr} {es : List Expr} {ma : ME} {mr mk : MAv} {pos p : Pos} {kwl : List Keyword} {k n m : Nat} {f : Addr} {fd : FuncData} {ps ks : List Str} {Fn : List FA → RF} {x c nm : Str} {gV gW : List V → List V → List V} {arr : List AV → List AV → List AV}
theorem outMk {F : Fm} {S2 : Sg} {σ : L2.St} {H2 : Hp} {Q : VK} {as bs : List AV} {K : PySem.W.Frag} (h2 : out F W σ (vis F S2 σ H2) (rE cm K) Q (if as.length = n ∧ bs.length = m then makeF c Fn (arr as bs) S2 else .bad)) :
    (as.length = n ∧ bs.length = m) ∧ out F W σ (vis F S2 σ H2) (rE cm K) Q (makeF c Fn (arr as bs) S2) := by
  by_cases hz : as.length = n ∧ bs.length = m
  · rw [if_pos hz] at h2; exact ⟨hz, h2⟩
  · rw [if_neg hz] at h2; exact h2.elim
/-- C(e, .., k = v, ..) -/
theorem ge_makeK (M : Mk X.K (cm c) f) (Fk : FnG X.prog X.w X.K X.mg X.base (L2.CX X.prog X.w) k f fd ps (spF cm X.K Fn)) (hr : Room (k + 1) X.A) (hgd : X.A.guards = some []) (tk : Takes X W) (hg : Gl X x) (hm : X.mg x = some (.ref (cm c))) (hb : ∃ g, KBn X.K fd ps (n + 1) ks g gV) (hS : ∀ a vs zs, gV (.ref a :: vs) zs = .ref a :: gW vs zs) (hA : Arr X.K n ks.length gW arr)
    (ha : PA X (e :: es) (tAv cm X.K W mr)) (hkw : PK X kwl (tAv cm X.K W mk)) (hall : (backToKw pos (keywordEach kwl X.env)).all (·.1.isSome) = true := by rfl) (hks : (backToKw pos (keywordEach kwl X.env)).filterMap (·.1) = ks := by rfl)
    (hdb : (x == ("__debug__" : Str)) = false := by decide) (he : starEach (e :: es) X.env = (false, eval e X.env) :: starEach es X.env := by rfl)
    (hpl : ((backTo pos (starEach (e :: es) X.env)).any (·.1) || (backToKw pos (keywordEach kwl X.env)).any (·.1.isNone)) = false := by rfl) :
    PE X (.Call (.Name x p) (e :: es) kwl pos) (tE cm X.K W (mMake c Fn n ks.length arr mr mk)) := by
  obtain ⟨g, hb⟩ := hb
  refine ⟨fun pins s σ H Q I ⟨F, S, e1, e2, R, h⟩ => wpAny_Call_Name_kw (ld_glob I hg hm (PySem.W.callWith_KW (h₀ := X.base) I.ok.mod.kin M.kp hall (thn (ha.run pos pins s σ H (fun vs H1 => ∃ F : Fm, ∃ as S1, F.cm = cm ∧ F.K = X.K ∧ Rel F S1 σ H1 ∧ AvsOk cm X.K σ (vis F S1 σ H1) vs as ∧ out F W σ (vis F S1 σ H1) (rE cm X.K) Q ((mk S1).bind fun bs S2 => if as.length = n ∧ bs.length = ks.length then makeF c Fn (arr as bs) S2 else .bad)) I
      (tG_bind e1 e2 R h fun F vs H1 as S1 e1 e2 R1 s1 p1 h1 => ⟨F, as, S1, e1, e2, R1, p1, h1⟩)) fun us s1 ⟨vs, H1, I1, r, F, as, S1, e1, e2, R1, p1, h1⟩ =>
        thn (hkw.run pos pins s1 σ H1 (fun zs H2 => ∃ F : Fm, ∃ bs S2, F.cm = cm ∧ F.K = X.K ∧ Rel F S2 σ H2 ∧ AvsOk cm X.K σ (vis F S2 σ H2) vs as ∧ AvsOk cm X.K σ (vis F S2 σ H2) zs bs ∧ out F W σ (vis F S2 σ H2) (rE cm X.K) Q (if as.length = n ∧ bs.length = ks.length then makeF c Fn (arr as bs) S2 else .bad)) I1 (tG_bind e1 e2 R1 h1 fun F zs H2 bs S2 e1 e2 R2 s2 p2 h2 => ⟨F, bs, S2, e1, e2, R2, AvsOk.mono s2 p1, p2, h2⟩)) fun ws s2 ⟨zs, H2, I2, rz, F, bs, S2, e1, e2, R2, q1, q2, h2⟩ => ⟨I2.kIn, ?_⟩) hpl he) hdb)⟩
  rw [hks]
  obtain ⟨hz, h2⟩ := outMk h2
  have lv : vs.length = n := by rw [AvsOk.length q1]; exact hz.1
  have lz : zs.length = ks.length := by rw [AvsOk.length q2]; exact hz.2
  refine run_mk (us := us) (xs := fun a => .ref a :: gW vs zs) M Fk hr hgd tk I2 (fun s' a kin => ⟨g (.ref a :: us) ws, hb.to s' (.ref a :: us) ws kin (by rw [List.length_cons, ← r.length, lv]) (by rw [← rz.length]; exact lz), ?_⟩) (make_ok e1 e2 R2 (hA.ok lv lz q1 q2) h2)
  rw [← hS a vs zs]
  exact hb.rel (.cons rfl r) rz
/-! ### attributes -/
/-- self.f = e, self lent -/
def stF (cs : List Str) (i : Nat) (nm : Str) (d : Dat) (S : Sg) : Rs Unit := match S[i]? with
  | some (.own j (.obj c fs)) => if cs.contains c ∧ fs.length < 1000 then .ok () (S.set i (.own j (.obj c (putD nm d fs)))) else .bad
  | _ => .bad
def mStF (cs : List Str) (i : Nat) (nm : Str) (m : ME) : MS := fun S => (m S).bind fun d S1 => (stF cs i nm d S1).bind fun _ S2 => .ok .nx S2
theorem st_ok {cs : List Str} {i : Nat} (hc : ∀ c, c ∈ cs → Cls X.K (cm c) ∧ NoAttr X.K (cm c) nm) {F : Fm} {S : Sg} {σ : L2.St} {H : Hp} {v : V} {d : Dat} {r : Rs Unit} (e1 : F.cm = cm) (e2 : F.K = X.K) (R : Rel F S σ H) (rv : Rp cm X.K (vis F S σ H) v d) (hr : stF cs i nm d S = r) (hb : r ≠ .bad) :
    ∃ a C dx fs S', r = .ok () S' ∧ σ[i]? = some (some (.ref a)) ∧ H a = some (.ins C dx fs) ∧ Cls X.K C ∧ NoAttr X.K C nm ∧ fs.length < 1000 ∧ Rel F S' σ (upd H a (.ins C dx (putF nm v fs))) ∧ Same (vis F S σ H) (vis F S' σ (upd H a (.ins C dx (putF nm v fs)))) := by
  unfold stF at hr
  cases hs : S[i]? with
  | none => rw [hs] at hr; exact absurd hr.symm hb
  | some s =>
    rw [hs] at hr
    have hl : i < σ.length := by rw [← R.len]; exact (List.getElem?_eq_some_iff.mp hs).1
    have hv : σ[i]? = some σ[i] := List.getElem?_eq_getElem hl
    have q := R.sl i s _ hs hv
    generalize σ[i] = w at hv q
    cases q with
    | no => exact absurd hr.symm hb
    | dat _ => exact absurd hr.symm hb
    | exn _ _ _ => exact absurd hr.symm hb
    | heap _ _ => exact absurd hr.symm hb
    | loc _ _ => exact absurd hr.symm hb
    | own e0 ok =>
      cases ok with
      | lst _ _ => exact absurd hr.symm hb
      | dic _ _ => exact absurd hr.symm hb
      | dit a b => exact absurd hr.symm hb
      | gone _ _ _ => exact absurd hr.symm hb
      | @obj c dx gs fs hh hrf =>
        dsimp only at hr
        by_cases hz : cs.contains c = true ∧ fs.length < 1000
        · rw [if_pos hz] at hr
          obtain ⟨k1, k2⟩ := hc c (by simpa using hz.1)
          obtain ⟨R', s'⟩ := R.setOwn (u := .obj c (putD nm d fs)) (ho := .ins (cm c) dx (putF nm v gs)) hs hv e0 (.obj (by rw [upd_same, e1]) (hrf.put (by rw [e1, e2]; exact rv)))
          exact ⟨_, _, dx, gs, _, hr.symm, hv, by rw [← e1]; exact hh, k1, k2, by rw [hrf.length]; exact hz.2, R', s'⟩
        · rw [if_neg hz] at hr; exact absurd hr.symm hb
/-! ### properties and methods -/
def mProp (cs : List Str) (Fn : List FA → RF) (m : ME) : ME := fun S => (m S).bind fun d S1 => match d with
  | .ins c fs => if cs.contains c then (applyF Fn [.dat (.ins c fs)] S1).calm else .bad
  | _ => .bad
end
end Mir
/-! MirL: isinstance, texts, methods -/
namespace Mir
open PySem PySem.Spec L2
/-- isinstance by tables: built-in types, own classes -/
def isiT (tab : List (String × Bool)) (ct : List (Str × Bool)) : Dat → Option Dat
  | .non => (tab.lookup "NoneType").map Dat.bl
  | .bl _ => (tab.lookup "bool").map Dat.bl
  | .int _ => (tab.lookup "int").map Dat.bl
  | .str _ => (tab.lookup "str").map Dat.bl
  | .lst _ => (tab.lookup "list").map Dat.bl
  | .tup _ => (tab.lookup "tuple").map Dat.bl
  | .dic _ => (tab.lookup "dict").map Dat.bl
  | .ins c _ => (ct.lookup c).map Dat.bl
  | .ro _ => none
  | .ptr _ => none
def joinD : Dat → Dat → Option Dat
  | .str a, .lst ds => match strsOf ds with
    | some ys => if (ys.map (·.length)).sum + ys.length * a.length ≤ 16777216 then some (.str (Txt.join a ys)) else none
    | none => none
  | _, _ => none
def mJn (ma mb : ME) : ME := fun S => (ma S).bind fun a S1 => match a with
  | .str x => (mb S1).bind fun b S2 => Rs.of (joinD (.str x) b) S2
  | _ => .bad
def fmtR (d : Dat) : Option Dat := (reprS d).map Dat.str
/-- the parts of an f-string -/
def joinM : List ME → Str → Sg → Rs Str
  | [], acc, S => .ok acc S
  | m :: ms, acc, S => (m S).bind fun d S1 => match d with
    | .str y => if (acc ++ y).length ≤ sizeLine then joinM ms (acc ++ y) S1 else .bad
    | _ => .bad
def mFStr (ms : List ME) : ME := fun S => (joinM ms Str.empty S).bind fun x S1 => .ok (.str x) S1
theorem mem_lookup {α β : Type} [BEq α] [LawfulBEq α] : ∀ {l : List (α × β)} {a : α} {b : β}, l.lookup a = some b → (a, b) ∈ l
  | [], a, b, h => by cases h
  | (x, y) :: l, a, b, h => by
    simp only [List.lookup] at h
    cases e : (a == x) with
    | true => rw [e] at h; cases h; rw [eq_of_beq e]; exact List.mem_cons_self ..
    | false => rw [e] at h; exact List.mem_cons_of_mem _ (mem_lookup h)
section
variable {X : Cx} {cm : CM} {W : WX} {a b e o : Expr} {es : List Expr} {ma mb : ME} {mr mk : MAv} {pos p : Pos} {kwl : List Keyword} {k n m : Nat} {f : Addr} {fd : FuncData} {ps ks : List Str} {Fn : List FA → RF} {x c nm : Str} {gV gW : List V → List V → List V} {arr : List AV → List AV → List AV}
theorem isi_ty {tab : List (String × Bool)} {ct : List (Str × Bool)} {u : Value} {G : VH} {y : V} {d : Dat} {t : Bool} (ht : ∀ q, q ∈ tab → PySem.W.kitOne X.K (.type q.1) u = some q.2) (hc : ∀ q, q ∈ ct → ClsF X.K (cm q.1) ∧ PySem.W.kitOne X.K (.ref (cm q.1)) u = some q.2)
    (r : Rp cm X.K G y d) (h : isiT tab ct d = some (.bl t)) : ∃ ty, TyX X.K G y ty ∧ PySem.W.kitOne X.K ty u = some t := by
  have key : ∀ {T : String}, (tab.lookup T).map Dat.bl = some (.bl t) → PySem.W.kitOne X.K (.type T) u = some t := fun {T} h => by
    cases hl : tab.lookup T with
    | none => rw [hl] at h; cases h
    | some q =>
      rw [hl] at h
      have e : q = t := by injection h with h; injection h
      subst e
      exact ht (T, q) (mem_lookup hl)
  cases r with
  | non => exact ⟨_, .base .non, key h⟩
  | bl b => exact ⟨_, .base (.bl b), key h⟩
  | int i => exact ⟨_, .base (.int i), key h⟩
  | str z => exact ⟨_, .base (.str z), key h⟩
  | lst hh _ => exact ⟨_, .base (.lst hh), key h⟩
  | ro _ _ => cases h
  | ptr _ => cases h
  | tup hh _ =>
    refine ⟨.type "tuple", ?_, key h⟩
    rcases hh with (hh | ⟨ob, hh⟩) | ⟨ob, its, n, h1, h2, _⟩
    · exact .base (.tup hh)
    · exact .fTuple hh
    · exact .kTuple h1 h2
  | dic hh _ => exact ⟨_, .base (.dK hh), key h⟩
  | @ins a dx c gs fs hh _ =>
    have h' : (ct.lookup c).map Dat.bl = some (.bl t) := h
    cases hl : ct.lookup c with
    | none => rw [hl] at h'; cases h'
    | some q =>
      rw [hl] at h'
      have e : q = t := by injection h' with h'; injection h'
      subst e
      obtain ⟨c1, c2⟩ := hc (c, q) (mem_lookup hl)
      exact ⟨_, .base (.ins hh c1.cl c1.kc c1.sp c1.tk c1.mo), c2⟩
theorem tyX_mono {K : PySem.W.Frag} {G H : Hp} {y : V} {t : Value} (s : L2.Same G H) (h : TyX K G y t) : TyX K H y t := by
  cases h with
  | base b =>
    refine .base ?_
    cases b with
    | non => exact .non
    | bl x => exact .bl x
    | int x => exact .int x
    | str x => exact .str x
    | flt x => exact .flt x
    | lst h => exact .lst (s _ _ h)
    | frz h => exact .frz (s _ _ h)
    | tup h => exact .tup (s _ _ h)
    | dK h => exact .dK (s _ _ h)
    | dT h => exact .dT (s _ _ h)
    | ins h a b c d e => exact .ins (s _ _ h) a b c d e
  | byt b => exact .byt b
  | set h => exact .set (s _ _ h)
  | kList a b => exact .kList a b
  | kTuple a b => exact .kTuple a b
  | kDict a b => exact .kDict a b
  | fTuple h => exact .fTuple (s _ _ h)
  | fDict h => exact .fDict (s _ _ h)
theorem isi_bl {tab : List (String × Bool)} {ct : List (Str × Bool)} {d r : Dat} (h : isiT tab ct d = some r) : ∃ t, r = .bl t := by
  have key : ∀ {o : Option Bool}, o.map Dat.bl = some r → ∃ t, r = .bl t := fun {o} h => by
    cases o with
    | none => cases h
    | some t => cases h; exact ⟨t, rfl⟩
  cases d <;> first | exact key h | exact (Option.noConfusion h) | cases h
/-- isinstance(e, T), T a name -/
theorem ge_isi {tab : List (String × Bool)} {ct : List (Str × Bool)} {cv : V} {u : Value} (hm : X.mg "isinstance" = none) (hg : Gl X "isinstance") (he : PE X e (tE cm X.K W ma)) (hT : PE X b (tC cv)) (hu : ClsV cv u) (ht : ∀ q, q ∈ tab → PySem.W.kitOne X.K (.type q.1) u = some q.2)
    (hc : ∀ q, q ∈ ct → ClsF X.K (cm q.1) ∧ PySem.W.kitOne X.K (.ref (cm q.1)) u = some q.2) (hv : bootBuiltins ("isinstance" : Str) = some (.builtin "isinstance") := by decide +kernel)
    (h1 : starEach [e, b] X.env = (false, eval e X.env) :: starEach [b] X.env := by rfl) (h2 : starEach [b] X.env = (false, eval b X.env) :: starEach [] X.env := by rfl) (hpl : (backTo pos (starEach [b] X.env)).any (·.1) = false := by rfl) :
    PE X (.Call (.Name "isinstance" p) [e, b] [] pos) (tE cm X.K W (m1 (isiT tab ct) ma)) :=
  PE.weak (pe_callB call_isi hg hm hv (pa_cons he (pa_cons hT pa_nil h2) h1) (by decide) (by decide) h1 hpl) fun σ H Q ⟨F, S, e1, e2, R, h⟩ => tG_bind e1 e2 R h fun F x H1 da S1 e1 e2 R1 s1 p1 h1 => by
    obtain ⟨d, hd, hq⟩ := out_of R1 h1
    obtain ⟨t, rfl⟩ := isi_bl hd
    obtain ⟨ty, t1, t2⟩ := isi_ty ht hc p1 hd
    exact ⟨x, cv, ty, u, t, rfl, hu, tyX_mono hid_le t1, t2, hq _ H1 (.refl _) (.bl t)⟩
/-- {e!r} -/
theorem ge_fmtR (hg : X.A.guards = some []) (hu : X.A.units + 64 < cLine) (he : PE X e (tE cm X.K W ma)) : PE X (.FormattedValue e 114 none pos) (tE cm X.K W (m1 fmtR ma)) := by
  refine ⟨fun pins s σ H Q I ⟨F, S, e1, e2, R, h⟩ => wpAny_FormattedValue_repr (thn (he.run pins s σ H (fun x H1 => ∃ d z M, Rp cm X.K (hid M H1) x d ∧ reprS d = some z ∧ Q (.str z) H1) I (tG_bind e1 e2 R h fun F x H1 da S1 e1 e2 R1 s1 p1 h1 => ?_)) fun u s1 ⟨x, H1, I1, rx, d, z, M, p1, hz, q⟩ => ?_)⟩
  · obtain ⟨d, hd, hq⟩ := out_of R1 h1
    unfold fmtR at hd
    cases hf : reprS da with
    | none => rw [hf] at hd; cases hd
    | some z =>
      rw [hf] at hd; cases hd
      exact ⟨da, z, _, p1, hf, hq (.str z) H1 (.refl _) (.str z)⟩
  · unfold reprS at hz
    cases hp : toPy d with
    | none =>
      rw [hp] at hz
      obtain ⟨rfl, rfl⟩ := dic0_ok hz
      cases p1 with
      | @dic a gs fs hh rk =>
        cases rk
        obtain rfl : u = Value.ref a := rx
        obtain ⟨as, rd, ns⟩ := dic0_reads I1 (hid_le _ _ hh)
        rw [← dic0_shown] at q
        have k4 : (PyData.shown (.dict [])).length ≤ sizeLine := by rw [dic0_shown]; decide +kernel
        have dep : (PyData.dict []).depth ≤ 60 := by decide +kernel
        have un : X.A.units + (PyData.dict []).depth < cLine := by omega
        exact pyReprObj_of_reads rd (by decide +kernel) (fun _ => ns) hg un (fun _ _ z => z) (fun h' t tk kk => wpAny_formatField_str ⟨.str (PyData.shown (.dict [])), H1, I1.kept kk, ⟨t, rfl⟩, q⟩ ⟨.str (PyData.shown (.dict [])), H1, (I1.kept kk).tok _, ⟨_, rfl⟩, q⟩ k4) k4
    | some py =>
      rw [hp] at hz
      obtain ⟨k1, k2, k3, k4, rfl⟩ := showP_ok hz
      have dp := dp_of (p1.mono hid_le') hp
      obtain ⟨as, rd⟩ := Dp.reads I1 py x u dp rx
      have fin : ∀ {s2 : Shared} {t : Tok}, L2.Inv X pins σ H1 s2 → wpAny (model X.prog X.w) X.A (formatField (.str py.shown t) Str.empty) (EP X pins σ Q) X.xe s2 := fun {s2 t} I2 =>
        wpAny_formatField_str ⟨.str py.shown, H1, I2, ⟨t, rfl⟩, q⟩ ⟨.str py.shown, H1, I2.tok _, ⟨_, rfl⟩, q⟩ k4
      have ref : ∀ a, u = .ref a → wpAny (model X.prog X.w) X.A (pyReprObj u) (fun r s₂ => wpAny (model X.prog X.w) X.A (formatField r Str.empty) (EP X pins σ Q) X.xe s₂) X.xe s1 := fun a ea => by
        subst ea
        exact pyReprObj_of_reads rd k1 (PyData.noDict_hsm k2) hg (by omega) (fun _ _ z => z) (fun h' t tk kk => fin (I1.kept kk)) k4
      cases dp with
      | non =>
        obtain rfl : u = Value.none := rx
        exact pyReprObj_none (fin (I1.tok _))
      | bl b =>
        obtain rfl : u = Value.bool b := rx
        have eb : PyData.shown (.bool b) = if b = true then Str.ofString "True" else Str.ofString "False" := by cases b <;> rfl
        have f2 := @fin
        rw [eb] at f2
        exact pyReprObj_bool (f2 (I1.tok _))
      | int i =>
        obtain ⟨t, rfl⟩ := rx
        exact pyReprObj_int (of_decide_eq_true (by simpa [PyData.showable] using k1)) (fin (I1.tok _))
      | str i =>
        obtain ⟨t, rfl⟩ := rx
        exact pyReprObj_str (fin (I1.tok _)) k4
      | lst hs _ =>
        obtain rfl : u = Value.ref _ := rx
        exact ref _ rfl
      | tup hs _ =>
        obtain rfl : u = Value.ref _ := rx
        exact ref _ rfl
theorem js_read {F : Fm} {σ : L2.St} {Q : Str → Hp → Prop} (e1 : F.cm = cm) (e2 : F.K = X.K) : ∀ (ms : List ME) (acc : Str) (S : Sg) (H : Hp), Rel F S σ H → out F W σ (vis F S σ H) (fun _ _ (y : Str) z => y = z) Q (joinM ms acc S) → tJs (ms.map fun m => tE cm X.K W m) acc σ H Q
  | [], acc, S, H, R, h => h acc H R (.refl _) rfl
  | m :: ms, acc, S, H, R, h => tG_bind e1 e2 R h fun F x H1 da S1 e1 e2 R1 s1 p1 h1 => by
    cases p1 with
    | str y =>
      dsimp only at h1
      by_cases hz : (acc ++ y).length ≤ sizeLine
      · rw [if_pos hz] at h1
        exact ⟨y, rfl, hz, js_read e1 e2 ms (acc ++ y) S1 H1 R1 h1⟩
      · rw [if_neg hz] at h1; exact h1.elim
    | _ => exact False.elim h1
theorem pj_nil : PJ X [] (([] : List ME).map fun m => tE cm X.K W m) := .nil
theorem pj_cons {m : ME} {ms : List ME} (h : PE X e (tE cm X.K W m)) (r : PJ X es (ms.map fun m => tE cm X.K W m)) : PJ X (e :: es) ((m :: ms).map fun m => tE cm X.K W m) := .cons h r
/-- f'..' of two parts or more -/
theorem ge_fstr {v1 v2 : Expr} {ms : List ME} (h : PJ X (v1 :: v2 :: es) (ms.map fun m => tE cm X.K W m)) : PE X (.JoinedStr (v1 :: v2 :: es) pos) (tE cm X.K W (mFStr ms)) :=
  PE.weak (pe_joined h) fun σ H Q ⟨F, S, e1, e2, R, h⟩ => js_read e1 e2 ms Str.empty S H R (by
    have h' : out F W σ (vis F S σ H) (rE cm X.K) Q ((joinM ms Str.empty S).bind fun x S1 => .ok (.str x) S1) := h
    cases hj : joinM ms Str.empty S with
    | bad => rw [hj] at h'; exact h'
    | exc c fs S1 => rw [hj] at h'; exact h'
    | ok z S1 =>
      rw [hj, Rs.bind_ok] at h'
      intro F' y H1 R1 s1 ey t
      have ey' : y = z := ey
      subst ey'
      exact h' _ H1 R1 s1 (.str y) t)
/-! ### methods -/
end
end Mir
/-! MirM: own == and repr; fresh lists; the law's end -/
namespace Mir
open PySem PySem.Spec PyProof.Rows L2
/-! ### a def as a function of values alone -/
def callD (Fn : List FA → RF) (ds : List Dat) : Option Dat := match Fn (ds.map .dat) with
  | .ok d [] => some d
  | _ => none
section
variable {X : Cx} {cm : CM} {W : WX} {k : Nat} {f : Addr} {fd : FuncData} {ps : List Str} {Fn : List FA → RF} {gV : List V → List V → List V} {pins : List (Addr × Obj)} {σ : L2.St} {H : Hp} {s : Shared}
/-! ### own == and != -/
def tyN : Dat → Option String
  | .non => some "NoneType"
  | .bl _ => some "bool"
  | .int _ => some "int"
  | .str _ => some "str"
  | .lst _ => some "list"
  | .tup _ => some "tuple"
  | .dic _ => some "dict"
  | _ => none
/-- what the right side may be -/
def rightOk (cs : List Str) : Dat → Bool
  | .ins c _ => cs.contains c
  | d => (tyN d).isSome
def eqO (c : Str) (cs : List Str) (Fn : List FA → RF) (a b : Dat) : Option Dat := match a with
  | .ins c' fs => if c' = c ∧ rightOk cs b = true then (match callD Fn [.ins c' fs, b] with
    | some (.bl t) => some (.bl t)
    | _ => none) else none
  | a => eqD a b
/-- what the text says of a class with an own == -/
structure EqF (K : PySem.W.Frag) (C f : Addr) : Prop where
  eq : PySem.W.findIn K (.ref C) "__eq__" = some (some (.ref f))
  fn : PySem.W.isFn K (.ref f) = true
  ne : PySem.W.findIn K (.ref C) "__ne__" = some (some (.builtin "object.__ne__"))
  mo : PySem.W.mroIn K C (.type "object") = some true
/-! ### repr by an own __repr__ -/
end
end Mir
/-! MirN: a look into an own list; fresh lists; the law's end -/
namespace Mir
open PySem PySem.Spec PyProof.Rows L2
def listAt (i : Nat) (S : Sg) : Option (List Dat) := match S[i]? with
  | some (.loc ds) => some ds
  | some (.own _ (.lst ds)) => some ds
  | _ => none
def scal : Dat → Bool
  | .non => true
  | .bl _ => true
  | .int _ => true
  | .str _ => true
  | _ => false
theorem scal_rp {cm : CM} {K : PySem.W.Frag} {G G' : VH} {v : V} {d : Dat} (h : scal d = true) (r : Rp cm K G v d) : Rp cm K G' v d := by
  cases r with
  | non => exact .non
  | bl b => exact .bl b
  | int i => exact .int i
  | str x => exact .str x
  | _ => cases h
def Hd.wo (M : Hd) (l : Addr) : Hd := ⟨M.as.filter (fun a => decide (a ≠ l)), M.ρ⟩
theorem Hd.mem_wo {M : Hd} {l a : Addr} : a ∈ M.wo l ↔ a ∈ M ∧ a ≠ l := by
  show a ∈ M.as.filter (fun a => decide (a ≠ l)) ↔ a ∈ M.as ∧ a ≠ l
  rw [List.mem_filter]
  simp
theorem Rel.peek {F : Fm} {S : Sg} {σ : L2.St} {H : Hp} {i : Nat} (R : Rel F S σ H) (h : isMut i S = true) : ∃ l ds vs M, σ[i]? = some (some (.ref l)) ∧ listAt i S = some ds ∧ H l = some (.lst vs) ∧ RpAll F.cm F.K (vis F S σ H) vs ds ∧ Mir.live M H ∧ Same (vis F S σ H) (hid M H) ∧ Rp F.cm F.K (hid M H) (.ref l) (.lst ds) := by
  obtain ⟨l, vs, ds, hl, eh, r, hs⟩ := slot_mut R h
  have la : listAt i S = some ds := by
    unfold listAt
    rcases hs with hs | ⟨j, hs, _⟩ <;> rw [hs]
  have sm : Same (vis F S σ H) (hid ((F.M ++ locs S σ).wo l) H) := hid_sub (fun a ha => (Hd.mem_wo.mp ha).1) rfl
  refine ⟨l, ds, vs, (F.M ++ locs S σ).wo l, hl, la, eh, r, ⟨fun m hm => R.hlv (Hd.mem_wo.mp hm).1⟩, sm, .lst ?_ (RpAll.mono sm r)⟩
  rw [hid_out fun z => (Hd.mem_wo.mp z).2 rfl]
  exact eh
section
variable {X : Cx} {cm : CM} {W : WX} {a b e o : Expr} {es : List Expr} {ma mb : ME} {mr mk : MAv} {mrA : MA} {pos p : Pos} {kwl : List Keyword} {k n m : Nat} {f : Addr} {fd : FuncData} {ps ks : List Str} {Fn : List FA → RF} {x c nm : Str} {gV gW : List V → List V → List V} {arr : List AV → List AV → List AV}
def mIxS (i : Nat) (mi : ME) : ME := fun S => if isMut i S = true then (mi S).bind fun k S1 => (match listAt i S1 with
  | some ds => Rs.of (ixD (.lst ds) k) S1
  | none => .bad) else m2 ixD (mVar i) mi S
theorem var_read {F : Fm} {S : Sg} {σ : L2.St} {H : Hp} {β : Type} {R' : Rep β Dat} {i : Nat} {k : Dat → Sg → Rs Dat} {Q : β → Hp → Prop} (e1 : F.cm = cm) (e2 : F.K = X.K) (R : Rel F S σ H) (h : out F W σ (vis F S σ H) R' Q ((mVar i S).bind k)) {Q' : VK} (q : ∀ (F1 : Fm) x H1 d S1, F1.cm = cm → F1.K = X.K → Rel F1 S1 σ H1 → Same (vis F S σ H) (vis F1 S1 σ H1) → Rp cm X.K (vis F1 S1 σ H1) x d → out F1 W σ (vis F1 S1 σ H1) R' Q (k d S1) → Q' x H1) : tVar i σ H Q' := by
  have key := tG_bind (m := mVar i) (R := rE cm X.K) e1 e2 R h q
  obtain ⟨F', S', a1, a2, a3, a4⟩ := key
  unfold mVar at a4
  cases hs : S'[i]? with
  | none => rw [hs] at a4; exact a4.elim
  | some s =>
    rw [hs] at a4
    have hl : i < σ.length := by rw [← a3.len]; exact (List.getElem?_eq_some_iff.mp hs).1
    have hv : σ[i]? = some σ[i] := List.getElem?_eq_getElem hl
    have sl := a3.sl i s _ hs hv
    generalize σ[i] = w at hv sl
    cases s with
    | no => exact a4.elim
    | own j u => exact a4.elim
    | exn c fs => exact a4.elim
    | heap T => exact a4.elim
    | dat d =>
      cases sl with
      | dat r => exact ⟨_, hv, a4 _ H a3 (.refl _) (by rw [← a1, ← a2]; exact r)⟩
    | loc ds =>
      obtain ⟨v, hv', q1, q2, q3⟩ : ∃ v, σ[i]? = some (some v) ∧ Rel F' (S'.set i (.dat (.lst ds))) σ H ∧ Same (vis F' S' σ H) (vis F' (S'.set i (.dat (.lst ds))) σ H) ∧ Rp F'.cm F'.K (vis F' (S'.set i (.dat (.lst ds))) σ H) v (.lst ds) := by
        cases sl with
        | loc eh r =>
          obtain ⟨z1, z2, z3⟩ := a3.freeze hs hv
          exact ⟨_, hv, z1, z2, z3⟩
      exact ⟨v, hv', a4 _ H q1 q2 (by rw [← a1, ← a2]; exact q3)⟩
theorem ge_ixS {i : Nat} (ho : PE X o (tVar i)) (hi : PE X e (tE cm X.K W ma)) (hm : PlainIx e) : PE X (.Subscript o e pos) (tE cm X.K W (mIxS i ma)) :=
  PE.weak (pe_ix (ix_list.or i_ix) ho hi hm) fun σ H Q ⟨F, S, e1, e2, R, h⟩ => by
    unfold mIxS at h
    by_cases hz : isMut i S = true
    · rw [if_pos hz] at h
      obtain ⟨l, ds, vs, M, hl, la, eh, r, _⟩ := R.peek hz
      refine ⟨_, hl, tG_bind e1 e2 R h fun F y H1 k S1 e1 e2 R1 s1 p1 h1 => ?_⟩
      cases hd : listAt i S1 with
      | none => rw [hd] at h1; exact h1.elim
      | some ds1 =>
        rw [hd] at h1
        have hz1 : isMut i S1 = true := by
          unfold listAt at hd
          unfold isMut
          cases hs : S1[i]? with
          | none => rw [hs] at hd; cases hd
          | some s =>
            rw [hs] at hd
            cases s with
            | loc _ => rfl
            | own j u => cases u with
              | lst _ => rfl
              | obj _ _ => cases hd
              | dic _ => cases hd
              | dit _ => cases hd
              | gone _ => cases hd
            | _ => cases hd
        obtain ⟨l', ds', vs', M', hl', la', eh', r', _⟩ := R1.peek hz1
        rw [hl] at hl'; cases hl'
        rw [hd] at la'; cases la'
        obtain ⟨d, hx, hq⟩ := out_of R1 h1
        cases k with
        | int j =>
          cases p1
          obtain ⟨v, w1, w2⟩ := at_rp r' (show atI ds1 j = some d from hx)
          exact .inl ⟨l, vs', j, v, rfl, rfl, SqL.of eh', w1, hq v H1 (.refl _) (by rw [← e1, ← e2]; exact w2)⟩
        | _ => cases hx
    · rw [if_neg hz] at h
      exact var_read e1 e2 R h fun F x H1 d S1 e1 e2 R1 s1 p1 h1 => tG_bind e1 e2 R1 h1 fun F y H2 db S2 e1 e2 R2 s2 p2 h2 => by
        obtain ⟨c, e, q⟩ := out_of R2 h2
        exact .inr ⟨_, d, db, c, R2.live, p1.mono s2, p2, e, q⟩
/-- f(x), x an own list, the result a plain value -/
def mCallP (g : List Dat → Option Dat) (i : Nat) : ME := fun S => if isMut i S = true then (match listAt i S with
  | some ds => (match g [.lst ds] with
    | some d => if scal d = true then .ok d S else .bad
    | none => .bad)
  | none => .bad) else mCall g (mCons (mVar i) mNil) S
theorem peek_call {i : Nat} {g : List Dat → Option Dat} {σ : L2.St} {H : Hp} {Q : VK} (h : tE cm X.K W (mCallP g i) σ H Q) : tCons (tVar i) tNil σ H fun vs H1 => rDs cm X.K g vs H1 Q := by
  obtain ⟨F, S, e1, e2, R, h⟩ := h
  unfold mCallP at h
  by_cases hz : isMut i S = true
  · rw [if_pos hz] at h
    obtain ⟨l, ds, vs, M, hl, la, eh, r, lv, sm, pr⟩ := R.peek hz
    rw [la] at h
    dsimp only at h
    cases hg : g [.lst ds] with
    | none => rw [hg] at h; exact h.elim
    | some d =>
      rw [hg] at h
      dsimp only at h
      by_cases hs : scal d = true
      · rw [if_pos hs] at h
        exact ⟨_, hl, M, [.lst ds], d, lv, .cons (by rw [← e1, ← e2]; exact pr) .nil, hg, fun v H' s' rv => h v H' (R.grow s') (vis_grow s') (scal_rp hs rv)⟩
      · rw [if_neg hs] at h; exact h.elim
  · rw [if_neg hz] at h
    have h' : out F W σ (vis F S σ H) (rE cm X.K) Q ((mVar i S).bind fun d S1 => Rs.of (g [d]) S1) := by
      have z : mCall g (mCons (mVar i) mNil) S = (mVar i S).bind fun d S1 => Rs.of (g [d]) S1 := by
        unfold mCall mCons mNil
        cases mVar i S <;> rfl
      rw [z] at h; exact h
    exact var_read e1 e2 R h' fun F x H1 d S1 e1 e2 R1 s1 p1 h1 => by
      obtain ⟨c, e, q⟩ := out_of R1 h1
      exact ⟨_, [d], c, R1.live, .cons p1 .nil, e, q⟩
theorem ge_callBP {i : Nat} {id : String} {g : List Dat → Option Dat} (hc : CallR X (.builtin id) (rDs cm X.K g)) (hg : Gl X x) (hm : X.mg x = none) (hv : bootBuiltins x = some (.builtin id)) (ho : PE X e (tVar i))
    (hn : x ≠ "__name__" := by decide) (hdb : (x == ("__debug__" : Str)) = false := by decide) (he : starEach [e] X.env = (false, eval e X.env) :: starEach [] X.env := by rfl) (hpl : (backTo pos (starEach [] X.env)).any (·.1) = false := by rfl) :
    PE X (.Call (.Name x p) [e] [] pos) (tE cm X.K W (mCallP g i)) :=
  PE.weak (pe_callB hc hg hm hv (pa_cons ho pa_nil he) hn hdb he hpl) fun σ H Q h => peek_call h
/-- x == e, x an own list -/
def mOpP (g : Dat → Dat → Option Dat) (i : Nat) (mb : ME) : ME := fun S => if isMut i S = true then (mb S).bind fun b S1 => (match listAt i S1 with
  | some ds => (match g (.lst ds) b with
    | some d => if scal d = true then .ok d S1 else .bad
    | none => .bad)
  | none => .bad) else m2 g (mVar i) mb S
end
end Mir
/-! MirO: fresh lists; the law's end -/
namespace Mir
open PySem PySem.Spec PyProof.Rows L2
/-- a value that is a new list -/
def outL (F : Fm) (W : WX) (σ : L2.St) (G : VH) (Q : VK) : Rs (List Dat) → Prop
  | .ok ds S => ∀ ⦃F' : Fm⦄ l xs H, Rel F' S σ H → Same G (vis F' S σ H) → H l = none → RpAll F'.cm F'.K (vis F' S σ H) xs ds → (_ : F.to F' := by exact Fm.rf _) → Q (.ref l) (upd H l (.lst xs))
  | .exc c fs S => outX F W σ G c fs S
  | .bad => False
def tL (cm : CM) (K : PySem.W.Frag) (W : WX) (m : Sg → Rs (List Dat)) : TE := fun σ H Q => ∃ F S, F.cm = cm ∧ F.K = K ∧ Rel F S σ H ∧ outL F W σ (vis F S σ H) Q (m S)
theorem outL_same {F : Fm} {W : WX} {σ : L2.St} {G G' : VH} {Q : VK} {r : Rs (List Dat)} (e : Same G G') (h : outL F W σ G Q r) : outL F W σ G' Q r := by
  cases r with
  | ok a S => exact fun _ l xs H a b c d t => h l xs H a (e.trans b) c d t
  | exc c fs S => exact outX_same e h
  | bad => exact h
theorem outL_to {F F1 : Fm} {W : WX} {σ : L2.St} {G : VH} {Q : VK} {r : Rs (List Dat)} (e : F.to F1) (h : outL F W σ G Q r) : outL F1 W σ G Q r := by
  cases r with
  | ok a S => exact fun _ l xs H a b c d t => h l xs H a b c d (e.trans t)
  | exc c fs S => exact outX_to e h
  | bad => exact h
theorem tG_bindL {β α : Type} {cm : CM} {K : PySem.W.Frag} {W : WX} {R : Rep β α} {m : Sg → Rs α} {k : α → Sg → Rs (List Dat)} {σ : L2.St} {H : Hp} {Q : VK} {Q' : β → Hp → Prop} {F : Fm} {S : Sg}
    (e1 : F.cm = cm) (e2 : F.K = K) (r : Rel F S σ H) (h : outL F W σ (vis F S σ H) Q ((m S).bind k))
    (q : ∀ (F1 : Fm) x H1 a S1, F1.cm = cm → F1.K = K → Rel F1 S1 σ H1 → Same (vis F S σ H) (vis F1 S1 σ H1) → R σ (vis F1 S1 σ H1) x a → outL F1 W σ (vis F1 S1 σ H1) Q (k a S1) → Q' x H1) : tG cm K W R m σ H Q' := by
  refine ⟨F, S, e1, e2, r, ?_⟩
  cases hm : m S with
  | ok a S1 => rw [hm] at h; exact fun F1 v H1 a1 a2 a3 t => q F1 v H1 a S1 (t.cm.trans e1) (t.K.trans e2) a1 a2 a3 (outL_to t (outL_same a2 h))
  | exc c fs S1 => rw [hm] at h; exact h
  | bad => rw [hm] at h; exact h
section
variable {X : Cx} {cm : CM} {W : WX} {a b e o : Expr} {es : List Expr} {ma mb : ME} {mr mk : MAv} {mrA : MA} {mL : Sg → Rs (List Dat)} {pos p : Pos} {k n m : Nat} {f : Addr} {fd : FuncData} {ps ks : List Str} {Fn : List FA → RF} {x c nm : Str} {gV gW : List V → List V → List V} {arr : List AV → List AV → List AV}
/-- [e, ..] -/
def lLst (m : MA) : Sg → Rs (List Dat) := fun S => (m S).bind fun ds S1 => if ds.length ≤ lim then .ok ds S1 else .bad
theorem gl_lst (ha : PA X es (tA cm X.K W mrA)) : PE X (.List es pos) (tL cm X.K W (lLst mrA)) :=
  PE.weak (pe_lst ha) fun σ H Q ⟨F, S, e1, e2, R, h⟩ => tG_bindL e1 e2 R h fun F xs H1 ds S1 e1 e2 R1 s1 p1 h1 => by
    by_cases hl : ds.length ≤ lim
    · rw [if_pos hl] at h1
      exact ⟨by rw [RpAll.length p1]; exact lim_line hl, fun q hq => h1 q xs H1 R1 (.refl _) hq (by rw [e1, e2]; exact p1)⟩
    · rw [if_neg hl] at h1; exact h1.elim
/-- list(e) -/
def lList (m : ME) : Sg → Rs (List Dat) := fun S => (m S).bind fun d S1 => match d with
  | .lst ds => .ok ds S1
  | .tup ds => .ok ds S1
  | .ro ds => .ok ds S1
  | _ => .bad
/-- x = a new list: the def's own -/
def mSetF (i : Nat) (mL : Sg → Rs (List Dat)) : MS := fun S => (mL S).bind fun ds S1 => .ok .nx (S1.set i (.loc ds))
theorem gs_setF {i : Nat} {pos' : Pos} (hN : X.N.Nodup) (hi : X.N[i]? = some x) (hx : L2.Loc X.env.scope x) (he : PE X e (tL cm X.K W mL)) (hs : swapsWith e (some (.Name x pos')) pos.line X.env = pure false := by rfl)
    (hf : X.fn x = true ∨ X.env.scope.names.lookup x = some .local := by first | exact .inl rfl | exact .inr rfl | assumption) : PS X (.Assign [.Name x pos'] e pos) (tS cm X.K W (mSetF i mL)) :=
  PS.weak (ps_set hN hi hx he hs hf) fun D σ H ⟨F, S, e1, e2, R, h⟩ => by
    refine ⟨F, S, e1, e2, R, ?_⟩
    unfold mSetF at h
    cases hm : mL S with
    | bad => rw [hm] at h; exact h
    | exc c fs S1 => rw [hm] at h; exact h σ
    | ok ds S1 =>
      rw [hm] at h
      intro F' l xs H1 R1 s1 hl rx t
      obtain ⟨R', s'⟩ := R1.newLoc (i := i) (ds := ds) hl rx
      exact h _ _ R' (s1.trans s') t
/-! ### a def that gives a new list -/
def outSL (F : Fm) (W : WX) (G : VH) (D : Ends) : Rs (List Dat) → Prop
  | .ok ds S => ∀ ⦃F' : Fm⦄ l xs σ H, Rel F' S σ H → Same G (vis F' S σ H) → H l = none → RpAll F'.cm F'.K (vis F' S σ H) xs ds → (_ : F.to F' := by exact Fm.rf _) → D.rt (.ref l) (upd H l (.lst xs))
  | _ => False
def tSL (cm : CM) (K : PySem.W.Frag) (W : WX) (m : Sg → Rs (List Dat)) : TS := fun D σ H => ∃ F S, F.cm = cm ∧ F.K = K ∧ Rel F S σ H ∧ outSL F W (vis F S σ H) D (m S)
theorem gs_retL (he : PE X e (tL cm X.K W mL)) : PS X (.Return (some e) pos) (tSL cm X.K W mL) :=
  PS.weak (ps_ret he) fun D σ H ⟨F, S, e1, e2, R, h⟩ => by
    refine ⟨F, S, e1, e2, R, ?_⟩
    cases hm : mL S with
    | bad => rw [hm] at h; exact h
    | exc c fs S1 => rw [hm] at h; exact False.elim h
    | ok ds S1 =>
      rw [hm] at h
      exact fun _ l xs H1 R1 s1 hl rx t => h l xs σ H1 R1 s1 hl rx t
def mSeqL (s : MS) (m : Sg → Rs (List Dat)) : Sg → Rs (List Dat) := fun S => match s S with
  | .ok .nx S1 => m S1
  | _ => .bad
theorem gs_oneL {st : Stmt} (h : PS X st (tSL cm X.K W mL)) : PSs X [st] (tSL cm X.K W mL) := pss_one h
theorem gs_consL {st : Stmt} {sts : List Stmt} {s1 : MS} (h1 : PS X st (tS cm X.K W s1)) (h2 : PSs X sts (tSL cm X.K W mL)) : PSs X (st :: sts) (tSL cm X.K W (mSeqL s1 mL)) :=
  PSs.weak (pss_cons h1 h2) fun D σ H ⟨F, S, e1, e2, R, h⟩ => ⟨F, S, e1, e2, R, by
    unfold mSeqL at h
    cases hm : s1 S with
    | bad => rw [hm] at h; exact h.elim
    | exc c fs S1 => rw [hm] at h; exact h.elim
    | ok f S1 =>
      rw [hm] at h
      cases f with
      | nx => exact fun F' σ' H' R' s' t => ⟨F', S1, t.cm.trans e1, t.K.trans e2, R', by
          have h : outSL F W (vis F S σ H) D (mL S1) := h
          cases hm2 : mL S1 with
          | bad => rw [hm2] at h; exact h.elim
          | exc c fs S2 => rw [hm2] at h; exact h.elim
          | ok ds S2 => rw [hm2] at h; exact fun _ l xs σ2 H2 R2 s2 y z t2 => h l xs σ2 H2 R2 (s'.trans s2) y z (t.trans t2)⟩
      | _ => exact h.elim⟩
/-- the promise: a new list -/
def spL (cm : CM) (K : PySem.W.Frag) (L : List Dat → Option (List Dat)) : Sp := fun vs H Q E => ∃ M as ds, live M H ∧ RpAll cm K (hid M H) vs as ∧ L as = some ds ∧ ∀ l xs H1, L2.Same H H1 → H1 l = none → RpAll cm K (hid M H1) xs ds → Q (.ref l) (upd H1 l (.lst xs))
def runL (np n : Nat) (m : Sg → Rs (List Dat)) (as : List Dat) : Option (List Dat) := if as.length = np then (match m (as.map Slot.dat ++ List.replicate (n - np) .no) with
  | .ok ds _ => some ds
  | _ => none) else none
end
theorem slots_dats : ∀ (j : Nat) (as : List Dat), mkSlots j (as.map FA.dat) = as.map Slot.dat
  | _, [] => rfl
  | j, d :: r => congrArg (Slot.dat d :: ·) (slots_dats j r)
section
variable {P : Program} {w : World} {K : PySem.W.Frag} {mg : Str → Option Value} {base : Heap} {cm : CM}
theorem rel_start {M : Hd} {as : List Dat} {vs : List V} {H : Hp} {N : List Str} {n np : Nat} (hn : N.length = n) (hla : as.length = np) (lv : live M H) (ao : RpAll cm K (hid M H) vs as) : Rel (Fm.at cm K M H []) (as.map Slot.dat ++ List.replicate (n - np) .no) (L2.start N vs) H := by
  have lc : ∀ σ : L2.St, locs (as.map Slot.dat ++ List.replicate (n - np) .no) σ = [] := locs_none fun s hs => by
    rcases List.mem_append.mp hs with h | h
    · obtain ⟨d, _, rfl⟩ := List.mem_map.mp h; rfl
    · rw [(List.mem_replicate.mp h).2]; rfl
  have eV : vis (Fm.at cm K M H []) (as.map Slot.dat ++ List.replicate (n - np) .no) (L2.start N vs) H = hid M H := by
    unfold vis; rw [lc, Hd.app_nil]
  have hlv := RpAll.length ao
  refine ⟨?_, fun i s v a b => ?_, ?_, fun l h => ?_, ?_, List.nodup_nil, fun l h => (by cases h), lv.v, fun l h => ?_, fun p h => (by cases h), fun a o q _ => q, HpOk.start lv (by rw [← slots_dats 0 as]; exact no_heap 0 _)⟩
  · unfold L2.start
    rw [List.length_append, List.length_append, List.length_map, List.length_map, List.length_replicate, List.length_replicate, hn, hlv, hla]
  · rw [eV]
    unfold L2.start at b
    by_cases hi : i < as.length
    · have hi' : i < vs.length := by rw [hlv]; exact hi
      rw [List.getElem?_append_left (by rw [List.length_map]; exact hi), List.getElem?_map, List.getElem?_eq_getElem hi] at a
      rw [List.getElem?_append_left (by rw [List.length_map]; exact hi'), List.getElem?_map, List.getElem?_eq_getElem hi'] at b
      cases a
      cases b
      obtain ⟨v', z1, z2⟩ := RpAll.get ao (List.getElem?_eq_getElem hi)
      rw [List.getElem?_eq_getElem hi'] at z1
      cases z1
      exact .dat z2
    · rw [List.getElem?_append_right (by rw [List.length_map]; omega), List.getElem?_replicate] at a
      split at a
      · cases a; exact .no
      · cases a
  · rw [lc]; exact List.nodup_nil
  · rw [lc] at h; cases h
  · rw [owns_append, owns_no, List.append_nil]
    have := mkSlots_nd 0 (as.map FA.dat)
    rw [slots_dats] at this
    exact this
  · rw [lc] at h; cases h
theorem fnL_of {x qual : Str} {params : Arguments} {body : List Stmt} {scope : Scope} {dvs : List V} {kws : List (Str × V)} {f : Addr} {fd : FuncData} {N ps : List Str} {k n np : Nat} {m : Sg → Rs (List Dat)} (F : FunD K x qual params body scope dvs kws f fd) (S : FnScope N ps scope) (hn : N.length = n) (hp : ps.length = np)
    (hbody : ∀ (cdv : Value) (A : Around) (outer : List Env) (s : Shared) (H : Hp) (E : XK), Room k (A.deeper (envOfC qual scope s.heap.objs.size f cdv)) → (A.deeper (envOfC qual scope s.heap.objs.size f cdv)).guards = some [] →
      PSs (cxOf (L2.CX P w) P w K mg base N qual scope f cdv A outer s H E) body (tSL cm K (fun cls d _ H' => E cls d H') m)) : FnG P w K mg base (L2.CX P w) (k + 1) f fd ps (spL cm K (runL np n m)) := by
  have len : ∀ vs H Q E, spL cm K (runL np n m) vs H Q E → vs.length = ps.length := fun vs H Q E ⟨M, as, ds, _, a, o, _⟩ => by
    unfold runL at o
    by_cases hl : as.length = np
    · rw [RpAll.length a, hl, hp]
    · rw [if_neg hl] at o; cases o
  obtain ⟨oc, od, dV, kV, doc, pm, an, cdv, ct, osl, rfl, lk, hcd, _, _⟩ := F.ex
  refine ⟨len, fun A outer s H args us vs Q E hr hg e0 hb r hsp => ?_⟩
  have hl := len _ _ _ _ hsp
  have KX : K.In s.heap := e0.mod.kin.keeps fun b o e => (e0.bs b o e).1
  have lim0 : s.heap.NoLimit := e0.mod.nolimit.keeps fun b o e => (e0.bs b o e).1
  refine codeAny_call_function hr.depth (KX _ _ lk) rfl S.co S.gen rfl (PySem.W.codeRec_of KX hcd) (hb _ _ _ _ (wpAny_newFunctionEnv_cells S.kind (fun ⟨nm, v⟩ hy => ?_) fun env he s1 y => ?_))
  · rcases S.par nm (List.of_mem_zip hy).1 with q | q
    · exact Or.inl q
    · exact Or.inr ⟨q, PySem.W.cellsFrom_some _ _ _ (Or.inl q)⟩
  · subst he
    refine ⟨lim0.keeps y.toInCall.keep, codeAny_func ?_⟩
    have I : L2.Inv (cxOf (L2.CX P w) P w K mg base N qual scope f cdv A outer s H E) [] (L2.start N vs) H s1 := inv_start S hr.hd e0 hl r y
    have ht := hbody cdv A outer s H E (hr.deeper _) (guards_deeper hg)
    obtain ⟨M, as, ds, lv, ao, hL, hq⟩ := hsp
    have hla : as.length = np := by rw [← RpAll.length ao, hl, hp]
    unfold runL at hL
    rw [if_pos hla] at hL
    have ha : tSL cm K (fun cls d _ H' => E cls d H') m { nx := fun _ H' => Q .non H', rt := Q } (L2.start N vs) H := by
      refine ⟨Fm.at cm K M H [], _, rfl, rfl, rel_start hn hla lv ao, ?_⟩
      cases hm : m (as.map Slot.dat ++ List.replicate (n - np) .no) with
      | bad => rw [hm] at hL; cases hL
      | exc c fs S' => rw [hm] at hL; cases hL
      | ok ds' S' =>
        rw [hm] at hL
        cases hL
        intro F' l xs σ1 H1 R1 s1 hl rx t
        obtain rfl := t.pure rfl
        exact hq l xs H1 (fun a o q => R1.keep a o q (by simp)) hl (RpAll.mono (hid_sub fun a h => Hd.mem_left _ h) rx)
    refine wpAny_mono (ht.run [] s1 (L2.start N vs) H _ I ha) (fun fl s' hs => ?_) fun e s' hs => hs
    cases fl with
    | ret u => obtain ⟨v, σ', H', J, rv, q⟩ := hs; exact ⟨v, H', J.os, J.bare, J.base, J.hok, rv, q⟩
    | next => obtain ⟨σ', H', J, q⟩ := hs; exact ⟨V.non, H', J.os, J.bare, J.base, J.hok, (rfl : Value.none = Value.none), q⟩
    | brk => obtain ⟨_, _, _, q⟩ := hs; exact q.elim
    | cont => obtain ⟨_, _, _, q⟩ := hs; exact q.elim
end
/-! ### its call, and the new list lent at once -/
def datsA : List AV → Option (List Dat)
  | [] => some []
  | .dat d :: r => (datsA r).map (d :: ·)
  | _ => none
theorem datsA_ok {cm : CM} {K : PySem.W.Frag} {σ : L2.St} {G : VH} : ∀ {vs : List V} {as : List AV} {ds : List Dat}, AvsOk cm K σ G vs as → datsA as = some ds → RpAll cm K G vs ds
  | _, _, _, .nil, h => by cases h; exact .nil
  | _, _, _, .dat (as := as) a b, h => by
    unfold datsA at h
    cases hd : datsA as with
    | none => rw [hd] at h; cases h
    | some r => rw [hd] at h; cases h; exact .cons a (datsA_ok b hd)
  | _, _, _, .slot a b, h => by cases h
section
variable {X : Cx} {cm : CM} {W : WX} {a b e o : Expr} {es : List Expr} {ma mb : ME} {mr mk : MAv} {mrA : MA} {mL : Sg → Rs (List Dat)} {pos p : Pos} {k n m : Nat} {f : Addr} {fd : FuncData} {ps ks : List Str} {Fn : List FA → RF} {L : List Dat → Option (List Dat)} {x c nm : Str} {gV gW : List V → List V → List V} {arr : List AV → List AV → List AV}
def lCall (L : List Dat → Option (List Dat)) (n : Nat) (mr : MAv) : Sg → Rs (List Dat) := fun S => (mr S).bind fun as S1 => if as.length = n then (match datsA as with
  | some ds => Rs.of (L ds) S1
  | none => .bad) else .bad
theorem gl_call (Fk : FnG X.prog X.w X.K X.mg X.base (L2.CX X.prog X.w) k f fd ps (spL cm X.K L)) (hr : Room k X.A) (hgd : X.A.guards = some []) (tk : Takes X W) (hg : Gl X x) (hm : X.mg x = some (.ref f)) (hk : PySem.W.keepIn X.K (.ref f) = true) (hb : ∃ g, KBn X.K fd ps n [] g (fun vs _ => vs))
    (ha : PA X (e :: es) (tAv cm X.K W mr)) (hdb : (x == ("__debug__" : Str)) = false := by decide) (he : starEach (e :: es) X.env = (false, eval e X.env) :: starEach es X.env := by rfl) (hpl : (backTo pos (starEach es X.env)).any (·.1) = false := by rfl) :
    PE X (.Call (.Name x p) (e :: es) [] pos) (tL cm X.K W (lCall L n mr)) := by
  obtain ⟨g, hb⟩ := hb
  refine ⟨fun pins s σ H Q I ⟨F, S, e1, e2, R, h⟩ => wpAny_Call_Name_kw (ld_glob I hg hm (PySem.W.callWith_K (h₀ := X.base) I.ok.mod.kin hk (thn (ha.run pos pins s σ H (fun vs H1 => ∃ F : Fm, ∃ as S1 ds es, F.cm = cm ∧ F.K = X.K ∧ Rel F S1 σ H1 ∧ as.length = n ∧ AvsOk cm X.K σ (vis F S1 σ H1) vs as ∧ datsA as = some ds ∧ L ds = some es ∧ outL F W σ (vis F S1 σ H1) Q (.ok es S1)) I
      (tG_bindL e1 e2 R h fun F vs H1 as S1 e1 e2 R1 s1 p1 h1 => ?_)) fun us s1 ⟨vs, H1, I1, r, F, as, S1, ds, es', e1, e2, R1, hl, p1, hd, hL, h1⟩ => ⟨I1.kIn, ?_⟩) he hpl) hdb)⟩
  · by_cases hz : as.length = n
    · rw [if_pos hz] at h1
      cases hd : datsA as with
      | none => rw [hd] at h1; exact h1.elim
      | some ds =>
        rw [hd] at h1
        dsimp only at h1
        cases hL : L ds with
        | none => rw [hL] at h1; exact h1.elim
        | some es' => rw [hL] at h1; exact ⟨F, as, S1, ds, es', e1, e2, R1, hz, p1, hd, hL, h1⟩
    · rw [if_neg hz] at h1; exact h1.elim
  · have lv : vs.length = n := by rw [AvsOk.length p1]; exact hl
    refine run_g (us := us) (kw := []) Fk hr hgd tk I1 (hb.to s1 us [] I1.kIn (by rw [← r.length]; exact lv) rfl) (hb.rel r .nil) ⟨F.M ++ locs S1 σ, ds, es', R1.live, datsA_ok p1 hd, hL, fun l xs H2 s2 hl2 rx => ?_⟩
    exact h1 l xs H2 (R1.grow s2) (vis_grow s2) hl2 (by rw [e1, e2]; exact rx)
end
/-! ### the end -/
theorem head_call {P : Program} {w : World} {K : PySem.W.Frag} {mg mb : Str → Option Value} {k : Nat} {fa a : Addr} {fd : FuncData} {x : Str} {sp : Sp} {s₁ : Shared} {vs : List Value} {ns : List Int}
    (kin : K.In s₁.heap) (gns : s₁.heap.Ns mainGlobals mg) (bns : s₁.heap.Ns builtinsNs mb) (bfix : ∀ y : Str, y ≠ "__name__" → mb y = bootBuiltins y) (nol : s₁.heap.NoLimit) (gen0 : s₁.gens = #[])
    (at_ : s₁.heap.get? a = some { cls := .type "list", data := .seq vs.toArray }) (hin : IntsAre vs ns) (short : ns.length ≤ sizeLine) (room : Room k callerA)
    (FF : ∀ base : Heap, K.In base → base.Ns mainGlobals mg → FnG P w K mg base (L2.CX P w) k fa fd [x] sp) (bnd : ∀ (s : Shared) (u : Value), BindsTo s fd ⟨[u], []⟩ [(x, u)])
    (good : ∀ H : Hp, Only H → SqL K H a (ns.map V.int) → sp [.ref a] H (fun v _ => v = .bl true) fun _ _ _ => False) :
    codeAny (model P w) callerA (.call (.ref fa) ⟨[.ref a], []⟩) (fun r s' => r = .ok (.ret (.bool true)) ∧ OldK s₁.heap s'.heap ∧ s'.os = s₁.os ∧ AllBare s'.gens) s₁ := by
  have vi := vals_ints hin
  have li := hin.length
  have main : ∀ H : Hp, Only H → SqL K H a (ns.map V.int) → HOk P w H s₁.heap → (∀ y, H y ≠ none → y = a) → (H a ≠ none → K.lookup a = none) →
      codeAny (model P w) callerA (.call (.ref fa) ⟨[.ref a], []⟩) (fun r s' => r = .ok (.ret (.bool true)) ∧ OldK s₁.heap s'.heap ∧ s'.os = s₁.os ∧ AllBare s'.gens) s₁ := fun H only sq hok sole offK => by
    have dictN : ∀ {y : Addr} {o : Obj} {es : Array DictEntry} {ep : Nat}, s₁.heap.get? y = some o → o.data = .dict es ep → H y = none := fun {y o es ep} q1 q2 => by
      cases hq : H y with
      | none => rfl
      | some u =>
        have hy : y = a := sole y (by rw [hq]; simp)
        subst hy
        rw [at_] at q1
        cases q1
        cases (show Data.seq vs.toArray _ = Data.dict es ep from q2)
    have nsH : ∀ {y : Addr} {m : Str → Option Value}, s₁.heap.Ns y m → (hidT s₁.heap H).Ns y m := fun {y m} ⟨o, es, ep, q1, q2, q3⟩ => ⟨o, es, ep, hidT_get q1 (dictN q1 q2), q2, q3⟩
    have kinH : K.In (hidT s₁.heap H) := fun y o q1 => hidT_get (kin y o q1) (by
      cases hq : H y with
      | none => rfl
      | some u =>
        have hy : y = a := sole y (by rw [hq]; simp)
        subst hy
        rw [offK (by rw [hq]; simp)] at q1
        cases q1)
    have modH : Mod K mg (hidT s₁.heap H) := ⟨kinH, nsH gns, ⟨mb, nsH bns, bfix⟩, let ⟨mc, z1, z2⟩ := nol; ⟨mc, nsH z1, z2⟩⟩
    have env : Env0 P w K mg (hidT s₁.heap H) callerA [] s₁ H := ⟨rfl, modH, fun y o q1 => of_hidT q1, Nat.le_of_eq (hidT_size _ _), trivial, fun y hy => (by cases (show y ∈ ([] : List Addr) from hy)), hok, .of_eq gen0⟩
    refine codeAny_mono ((FF _ kinH (nsH gns)).run callerA [] s₁ H ⟨[.ref a], []⟩ [.ref a] [.ref a] _ _ room rfl env (bnd s₁ (.ref a)) (.cons rfl .nil) (good H only sq)) fun r s' z => ?_
    rcases r with er | fl
    · obtain ⟨_, _, _, _, _, _, _, _, _, _, _, _, y⟩ := z
      exact y.elim
    · rcases fl with _ | _ | _ | u
      · exact False.elim z
      · exact False.elim z
      · exact False.elim z
      · obtain ⟨v, H', z1, z2, un, hok', z3, z4⟩ := z
        obtain rfl : v = .bl true := z4
        obtain rfl : u = Value.bool true := z3
        refine ⟨rfl, OldK.of_keep fun y o q1 => ?_, z1, z2⟩
        cases hq : H y with
        | none => exact un.keep y o q1 hq (fun z => by cases (show y ∈ ([] : List Addr) from z)) (by simp)
        | some u =>
          rcases only y with q2 | ⟨ob, xs, q2⟩
          · rw [hq] at q2; cases q2
          · obtain ⟨w1, _⟩ := hok y _ q2
            obtain ⟨w2, _⟩ := hok' y _ (un.frzs y ob _ q2)
            rw [q1] at w1
            cases w1
            exact w2
  cases look : K.lookup a with
  | some o =>
    have q1 := kin a o look
    rw [at_] at q1
    cases q1
    refine main (fun _ => none) (fun _ => .inl rfl) (.inr ⟨_, vs.toArray, _, look, rfl, rfl, rfl, by rw [List.size_toArray, li]; exact short, by simpa using vi⟩) (fun y u q => by cases (show (none : Option HO) = some u from q)) (fun y q => absurd rfl q) fun q => absurd rfl q
  | none =>
    refine main (fun y => if y = a then some (.frz { cls := .type "list", data := .seq vs.toArray } (.lst (ns.map V.int))) else none) (fun y => ?_) (.inl (.inr ⟨{ cls := .type "list", data := .seq vs.toArray }, if_pos rfl⟩)) (fun y u q => ?_) (fun y q => ?_) fun _ => look
    · by_cases hy : y = a
      · exact .inr ⟨_, _, if_pos hy⟩
      · exact .inl (if_neg hy)
    · by_cases hy : y = a
      · cases (if_pos hy).symm.trans q
        subst hy
        exact ⟨at_, by rw [List.length_map]; exact short, vs, _, vi, at_⟩
      · cases (if_neg hy).symm.trans q
    · by_cases hy : y = a
      · exact hy
      · exact absurd (if_neg hy) q
theorem ro_ints {cm : CM} {K : PySem.W.Frag} {G : VH} : ∀ ns : List Int, RpAll cm K G (ns.map V.int) (ns.map Dat.int)
  | [] => .nil
  | n :: r => .cons (.int n) (ro_ints r)
end Mir
/-! MirP: what the top has written, by names -/
namespace Mir
open PySem PySem.Spec PyProof.Rows L2
inductive Tr where
  | b (T : String)
  | c (x : Str)
def Tr.v (K : PySem.W.Frag) : Tr → Value
  | .b T => .type T
  | .c x => .ref (He.ga K x)
inductive Ad where
  | glo (x : Str)
  | mth (x m : Str)
  | get (x m : Str)
  | cmt (x m : Str)
def pAd (K : PySem.W.Frag) (x m : Str) : Addr := He.ma K (He.ga K x) m
def gAd (K : PySem.W.Frag) (x m : Str) : Addr := match PySem.W.recIn K (pAd K x m) "property" with
  | some (.ref g :: _) => g
  | _ => 0
def cAd (K : PySem.W.Frag) (x m : Str) : Addr := match PySem.W.recIn K (pAd K x m) "classmethod" with
  | some (.ref g :: _) => g
  | _ => 0
def Ad.a (K : PySem.W.Frag) : Ad → Addr
  | .glo x => He.ga K x
  | .mth x m => He.ma K (He.ga K x) m
  | .get x m => gAd K x m
  | .cmt x m => cAd K x m
/-- a built-in exception class: its name, its ids, its line of classes -/
structure Bse where
  B : String
  nw : String
  ini : String
  bm : List Value
inductive Fc where
  | he (f : He.Fa)
  | clsF (x : Str)
  | prop (x m : Str)
  | kit (a b : Tr) (r : Bool)
  | eqf (x : Str)
  | rep (x : Str)
  | nf (x y : Str)
  | tupc (x : Str) (vs : List He.Dv)
  /-- the class x has y's method m -/
  | methI (x y m : Str)
  | propI (x y m : Str)
  | eqfI (x y : Str)
  | repI (x y : Str)
  /-- exceptions of the program over ValueError: the class; its own __init__; a base that has none; an except clause; isinstance of several -/
  | oex (x : Str)
  | xin (x : Str)
  | xbs (x : Str)
  | exmT (x : Str) (t : Tr) (b : Bool)
  | xc (x : Str)
  | xfl (x : Str)
  | kitA (a : Tr) (ts : List Tr) (r : Bool)
  /-- the class x has y's __add__ -/
  | addI (x y : Str)
  /-- exceptions of the program over the built-in b -/
  | oeb (x : Str) (b : Bse)
  | xbt (b : Bse)
  /-- the class x has a classmethod m -/
  | cmet (x m : Str)
  | strI (x y : Str)
  /-- any other fact -/
  | g (f : PySem.W.Frag → Bool)
/-- an own exception class: its object, as it stands in the written part -/
def oexB (K : PySem.W.Frag) (C : Addr) : Bool := match List.lookup C K with
  | some ob => (match ob.cls, ob.data with
    | .type tn, .cls cd => tn == "type" && (match cd.mro, ob.slots.toList with
      | .ref C1 :: more, [_, _, _, _, some (.builtin nw), _] => C1 == C && (nw == "ValueError.__new__" && (!cd.hasDel && (cd.hasDict && PySem.HandSPX.refsVE more)))
      | _, _ => false)
    | _, _ => false)
  | none => false
def oebB (b : Bse) (K : PySem.W.Frag) (C : Addr) : Bool := match List.lookup C K with
  | some ob => (match ob.cls, ob.data with
    | .type tn, .cls cd => tn == "type" && (match cd.mro, ob.slots.toList with
      | .ref C1 :: more, [_, _, _, _, some (.builtin nw), _] => C1 == C && (nw == b.nw && (!cd.hasDel && (cd.hasDict && PySem.W.excTail b.bm more)))
      | _, _ => false)
    | _, _ => false)
  | none => false
def Fc.ok (K : PySem.W.Frag) : Fc → Bool
  | .g f => f K
  | .he f => f.ok K
  | .clsF x => (He.Fa.cls x).ok K && (He.eqO (PySem.W.findIn K (.ref (He.ga K x)) "__class__") (some (some (.builtin "object.__class__"))) && (He.eqO (PySem.W.specialIn K (.builtin "object.__class__") "__get__") (some (some (.builtin "getset_descriptor.__get__"))) &&
      (decide (PySem.W.takesIn K (.builtin "object.__class__") = some true) && decide (PySem.W.mroIn K (He.ga K x) (.type "object") = some true))))
  | .prop x m => He.eqO (PySem.W.findIn K (.ref (He.ga K x)) m) (some (some (.ref (pAd K x m)))) && (He.eqO (PySem.W.specialIn K (.ref (pAd K x m)) "__get__") (some (some (.builtin "property.__get__"))) &&
      (decide (PySem.W.takesIn K (.ref (pAd K x m)) = some true) && (match PySem.W.recIn K (pAd K x m) "property" with
        | some (.ref _ :: _) => true
        | _ => false)))
  | .kit a b r => decide (PySem.W.kitOne K (a.v K) (b.v K) = some r)
  | .eqf x => He.eqO (PySem.W.findIn K (.ref (He.ga K x)) "__eq__") (some (some (.ref (He.ma K (He.ga K x) "__eq__")))) && (PySem.W.isFn K (.ref (He.ma K (He.ga K x) "__eq__")) &&
      (He.eqO (PySem.W.findIn K (.ref (He.ga K x)) "__ne__") (some (some (.builtin "object.__ne__"))) && decide (PySem.W.mroIn K (He.ga K x) (.type "object") = some true)))
  | .rep x => He.eqO (PySem.W.findIn K (.ref (He.ga K x)) "__repr__") (some (some (.ref (He.ma K (He.ga K x) "__repr__")))) && PySem.W.isFn K (.ref (He.ma K (He.ga K x) "__repr__"))
  | .nf x y => PySem.W.notFirst K (He.ga K x) (.ref (He.ga K y))
  | .tupc x vs => (He.Fa.glo x).ok K && He.tupB K x vs
  | .methI x y m => He.eqO (PySem.W.findIn K (.ref (He.ga K x)) m) (some (some (.ref (He.ma K (He.ga K y) m)))) && (PySem.W.isFn K (.ref (He.ma K (He.ga K y) m)) && PySem.W.keepIn K (.ref (He.ma K (He.ga K y) m)))
  | .propI x y m => He.eqO (PySem.W.findIn K (.ref (He.ga K x)) m) (some (some (.ref (pAd K y m)))) && (He.eqO (PySem.W.specialIn K (.ref (pAd K y m)) "__get__") (some (some (.builtin "property.__get__"))) &&
      (decide (PySem.W.takesIn K (.ref (pAd K y m)) = some true) && (match PySem.W.recIn K (pAd K y m) "property" with
        | some (.ref _ :: _) => true
        | _ => false)))
  | .eqfI x y => He.eqO (PySem.W.findIn K (.ref (He.ga K x)) "__eq__") (some (some (.ref (He.ma K (He.ga K y) "__eq__")))) && (PySem.W.isFn K (.ref (He.ma K (He.ga K y) "__eq__")) &&
      (He.eqO (PySem.W.findIn K (.ref (He.ga K x)) "__ne__") (some (some (.builtin "object.__ne__"))) && decide (PySem.W.mroIn K (He.ga K x) (.type "object") = some true)))
  | .oex x => oexB K (He.ga K x) && (He.eqO (PySem.W.findIn K (.ref (He.ga K x)) "__setattr__") (some (some (.builtin "object.__setattr__"))) && (decide (PySem.W.subIn K (.ref (He.ga K x)) (.type "BaseException") = some true) && (decide (PySem.W.typeIn K (.ref (He.ga K x)) = some (.type "type")) && PySem.W.keepIn K (.ref (He.ga K x)))))
  | .xin x => He.eqO (PySem.W.findIn K (.ref (He.ga K x)) "__init__") (some (some (.ref (He.ma K (He.ga K x) "__init__")))) && decide (PySem.W.typeIn K (.ref (He.ma K (He.ga K x) "__init__")) = some (.type "function"))
  | .xbs x => He.eqO (PySem.W.specialIn K (.ref (He.ga K x)) "__getattribute__") (some (some (.builtin "type.__getattribute__"))) && (PySem.W.readsIn K (He.ga K x) (.type "type") && (match PySem.W.findCls K (.ref (He.ga K x)) (.type "type") "__init__" with
    | some (.val (.builtin id)) => id == "ValueError.__init__"
    | _ => false))
  | .exmT x t b => decide (PySem.W.exmOne K (.ref (He.ga K x)) (t.v K) = some b)
  | .xc x => (PySem.W.clsIn K (He.ga K x)).isSome && (He.eqO (PySem.W.findIn K (.ref (He.ga K x)) "__getattribute__") (some (some (.builtin "BaseException.__getattribute__"))) && (He.eqO (PySem.W.findIn K (.ref (He.ga K x)) "__getattr__") (some none) && (decide (PySem.W.subIn K (.ref (He.ga K x)) (.type "BaseException") = some true) &&
      (He.eqO (PySem.W.findIn K (.ref (He.ga K x)) "__class__") (some (some (.builtin "object.__class__"))) && (He.eqO (PySem.W.specialIn K (.builtin "object.__class__") "__get__") (some (some (.builtin "getset_descriptor.__get__"))) && (decide (PySem.W.takesIn K (.builtin "object.__class__") = some true) && decide (PySem.W.mroIn K (He.ga K x) (.type "object") = some true)))))))
  | .xfl x => xfB K (He.ga K x)
  | .kitA a ts r => decide (PySem.W.kitAny K (a.v K) (ts.map (Tr.v K)) = some r)
  | .oeb x b => oebB b K (He.ga K x) && (He.eqO (PySem.W.findIn K (.ref (He.ga K x)) "__setattr__") (some (some (.builtin "object.__setattr__"))) && (decide (PySem.W.subIn K (.ref (He.ga K x)) (.type "BaseException") = some true) && (decide (PySem.W.typeIn K (.ref (He.ga K x)) = some (.type "type")) && PySem.W.keepIn K (.ref (He.ga K x)))))
  | .xbt b => (match PySem.W.findCls K (.type b.B) (.type "type") "__init__" with
    | some (.val (.builtin id)) => id == b.ini
    | _ => false)
  | .cmet x m => PySem.W.readsIn K (He.ga K x) (.type "type") && (He.eqO (PySem.W.specialIn K (.ref (He.ga K x)) "__getattribute__") (some (some (.builtin "type.__getattribute__"))) && ((match PySem.W.findCls K (.ref (He.ga K x)) (.type "type") m with
    | some (.get (.builtin id) (.ref p) .none (.ref C)) => id == "classmethod.__get__" && (p == pAd K x m && C == He.ga K x)
    | _ => false) && ((match PySem.W.recIn K (pAd K x m) "classmethod" with
    | some (.ref _ :: _) => true
    | _ => false) && PySem.W.fnIn K (cAd K x m))))
  | .strI x y => He.eqO (PySem.W.findIn K (.ref (He.ga K x)) "__str__") (some (some (.ref (He.ma K (He.ga K y) "__str__")))) && PySem.W.isFn K (.ref (He.ma K (He.ga K y) "__str__"))
  | .addI x y => He.eqO (PySem.W.findIn K (.ref (He.ga K x)) "__add__") (some (some (.ref (He.ma K (He.ga K y) "__add__")))) && (PySem.W.isFn K (.ref (He.ma K (He.ga K y) "__add__")) && PySem.W.selfFirst K (He.ga K x))
  | .repI x y => He.eqO (PySem.W.findIn K (.ref (He.ga K x)) "__repr__") (some (some (.ref (He.ma K (He.ga K y) "__repr__")))) && PySem.W.isFn K (.ref (He.ma K (He.ga K y) "__repr__"))
section
variable {K : PySem.W.Frag} {x y m : Str}
theorem clsF_ok (c : (Fc.clsF x).ok K = true) : ClsF K (He.ga K x) := by
  obtain ⟨c1, c⟩ := He.ba c
  obtain ⟨c2, c⟩ := He.ba c
  obtain ⟨c3, c⟩ := He.ba c
  obtain ⟨c4, c5⟩ := He.ba c
  exact ⟨He.cls_ok c1, He.eqO_ok c2, He.eqO_ok c3, of_decide_eq_true c4, of_decide_eq_true c5⟩
theorem prop_ok (c : (Fc.prop x m).ok K = true) : PropOf K (He.ga K x) m (pAd K x m) (gAd K x m) := by
  obtain ⟨c1, c⟩ := He.ba c
  obtain ⟨c2, c⟩ := He.ba c
  obtain ⟨c3, c4⟩ := He.ba c
  refine ⟨He.eqO_ok c1, He.eqO_ok c2, of_decide_eq_true c3, ?_⟩
  unfold gAd
  cases h : PySem.W.recIn K (pAd K x m) "property" with
  | none => rw [h] at c4; cases c4
  | some l =>
    rw [h] at c4
    cases l with
    | nil => cases c4
    | cons v r =>
      cases v with
      | ref g => exact ⟨r, rfl⟩
      | _ => cases c4
theorem kit_ok {a b : Tr} {r : Bool} (c : (Fc.kit a b r).ok K = true) : PySem.W.kitOne K (a.v K) (b.v K) = some r := of_decide_eq_true c
theorem eqf_ok (c : (Fc.eqf x).ok K = true) : EqF K (He.ga K x) (He.ma K (He.ga K x) "__eq__") := by
  obtain ⟨c1, c⟩ := He.ba c
  obtain ⟨c2, c⟩ := He.ba c
  obtain ⟨c3, c4⟩ := He.ba c
  exact ⟨He.eqO_ok c1, c2, He.eqO_ok c3, of_decide_eq_true c4⟩
theorem rep_ok (c : (Fc.rep x).ok K = true) : PySem.W.findIn K (.ref (He.ga K x)) "__repr__" = some (some (.ref (He.ma K (He.ga K x) "__repr__"))) ∧ PySem.W.isFn K (.ref (He.ma K (He.ga K x) "__repr__")) = true := by
  obtain ⟨c1, c2⟩ := He.ba c
  exact ⟨He.eqO_ok c1, c2⟩
theorem propI_ok (c : (Fc.propI x y m).ok K = true) : PropOf K (He.ga K x) m (pAd K y m) (gAd K y m) := by
  obtain ⟨c1, c⟩ := He.ba c
  obtain ⟨c2, c⟩ := He.ba c
  obtain ⟨c3, c4⟩ := He.ba c
  refine ⟨He.eqO_ok c1, He.eqO_ok c2, of_decide_eq_true c3, ?_⟩
  unfold gAd
  cases h : PySem.W.recIn K (pAd K y m) "property" with
  | none => rw [h] at c4; cases c4
  | some l =>
    rw [h] at c4
    cases l with
    | nil => cases c4
    | cons v r =>
      cases v with
      | ref g => exact ⟨r, rfl⟩
      | _ => cases c4
theorem eqfI_ok (c : (Fc.eqfI x y).ok K = true) : EqF K (He.ga K x) (He.ma K (He.ga K y) "__eq__") := by
  obtain ⟨c1, c⟩ := He.ba c
  obtain ⟨c2, c⟩ := He.ba c
  obtain ⟨c3, c4⟩ := He.ba c
  exact ⟨He.eqO_ok c1, c2, He.eqO_ok c3, of_decide_eq_true c4⟩
theorem repI_ok (c : (Fc.repI x y).ok K = true) : PySem.W.findIn K (.ref (He.ga K x)) "__repr__" = some (some (.ref (He.ma K (He.ga K y) "__repr__"))) ∧ PySem.W.isFn K (.ref (He.ma K (He.ga K y) "__repr__")) = true := by
  obtain ⟨c1, c2⟩ := He.ba c
  exact ⟨He.eqO_ok c1, c2⟩
theorem oexB_ok {C : Addr} (h : oexB K C = true) : ∃ nm q N bs bm sn sub ab col dd k0 k1 k2 k3 k5, List.lookup C K = some (excClassObj nm q C N bs bm true sn sub ab col dd k0 k1 k2 k3 k5 "ValueError.__new__") ∧ PySem.HandSPX.refsVE bm = true := by
  unfold oexB at h
  split at h
  · rename_i ob ho
    obtain ⟨oc, od, dt, sl⟩ := ob
    dsimp only at h
    split at h
    · rename_i tn cd
      obtain ⟨h1, h⟩ := He.ba h
      split at h
      · rename_i C1 more k0 k1 k2 k3 nw k5 hm hs
        obtain ⟨h2, h⟩ := He.ba h
        obtain ⟨h3, h⟩ := He.ba h
        obtain ⟨h4, h⟩ := He.ba h
        obtain ⟨h5, h6⟩ := He.ba h
        have e1 := beq_iff_eq.mp h1
        have e2 := beq_iff_eq.mp h2
        have e3 := beq_iff_eq.mp h3
        subst e1 e2 e3
        obtain ⟨c1, c2, c3, c4, c5, c6, c7, c8, c9, c10, c11⟩ := cd
        dsimp only at hm h4 h5
        have e4 : c11 = false := by simpa using h4
        subst hm e4 h5
        obtain ⟨l⟩ := sl
        dsimp only at hs
        subst hs
        exact ⟨_, _, _, _, _, _, _, _, _, _, _, _, _, _, _, ho, h6⟩
      · cases h
    · cases h
  · cases h
theorem oebB_ok {b : Bse} {C : Addr} (h : oebB b K C = true) : ∃ nm q N bs bm sn sub ab col dd k0 k1 k2 k3 k5, List.lookup C K = some (excClassObj nm q C N bs bm true sn sub ab col dd k0 k1 k2 k3 k5 b.nw) ∧ PySem.W.excTail b.bm bm = true := by
  unfold oebB at h
  split at h
  · rename_i ob ho
    obtain ⟨oc, od, dt, sl⟩ := ob
    dsimp only at h
    split at h
    · rename_i tn cd
      obtain ⟨h1, h⟩ := He.ba h
      split at h
      · rename_i C1 more k0 k1 k2 k3 nw k5 hm hs
        obtain ⟨h2, h⟩ := He.ba h
        obtain ⟨h3, h⟩ := He.ba h
        obtain ⟨h4, h⟩ := He.ba h
        obtain ⟨h5, h6⟩ := He.ba h
        have e1 := beq_iff_eq.mp h1
        have e2 := beq_iff_eq.mp h2
        have e3 := beq_iff_eq.mp h3
        subst e1 e2 e3
        obtain ⟨c1, c2, c3, c4, c5, c6, c7, c8, c9, c10, c11⟩ := cd
        dsimp only at hm h4 h5
        have e4 : c11 = false := by simpa using h4
        subst hm e4 h5
        obtain ⟨l⟩ := sl
        dsimp only at hs
        subst hs
        exact ⟨_, _, _, _, _, _, _, _, _, _, _, _, _, _, _, ho, h6⟩
      · cases h
    · cases h
  · cases h
theorem nf_ok (c : (Fc.nf x y).ok K = true) : PySem.W.notFirst K (He.ga K x) (.ref (He.ga K y)) = true := c
end
/-! ### defs -/
structure DefM where
  ad : Ad
  name : Str
  qual : Str
  st : Stmt
  dfl : List He.Dv := []
  kwd : List (Str × He.Dv) := []
def fnM (K : PySem.W.Frag) (a : Addr) : He.FnW := match K.lookup a with
  | some ⟨_, _, .func fd, _⟩ => some (fd.name, fd.qualname, fd.params, fd.body, fd.scope, fd.globals, fd.closure, fd.builtins)
  | _ => none
def DefM.val (d : DefM) : He.FnW := some (d.name, d.qual, defArgs d.st, .stmts (defBody d.st), defScope d.st, mainGlobals, [], builtinsNs)
def DefM.dvs (K : PySem.W.Frag) (d : DefM) : List V := d.dfl.map (He.Dv.v K)
def DefM.kws (K : PySem.W.Frag) (d : DefM) : List (Str × V) := d.kwd.map fun q => (q.1, q.2.v K)
def DefM.ok (K : PySem.W.Frag) (d : DefM) : Bool := PySem.W.keepIn K (.ref (d.ad.a K)) && (match K.lookup (d.ad.a K) with
  | some ⟨_, _, .func fd, _⟩ => PySem.W.codeIn K fd.code d.qual && (He.dflB K fd.defaults (d.dvs K) && He.kwdB K fd.kwdefaults (d.kws K))
  | _ => false)
abbrev FunM (K : PySem.W.Frag) (d : DefM) (fd : FuncData) : Prop := FunD K d.name d.qual (defArgs d.st) (defBody d.st) (defScope d.st) (d.dvs K) (d.kws K) (d.ad.a K) fd
theorem DefM.fun_ {K : PySem.W.Frag} {d : DefM} (e : fnM K (d.ad.a K) = d.val) (c : d.ok K = true) : ∃ fd, FunM K d fd := by
  obtain ⟨kp, c2⟩ := He.ba c
  unfold fnM at e
  cases q : K.lookup (d.ad.a K) with
  | none => rw [q] at c2; cases c2
  | some o =>
    obtain ⟨oc, od, dt, osl⟩ := o
    rw [q] at c2 e
    cases dt with
    | func fd =>
      obtain ⟨n1, n2, n3, n4, n5, n6, n7, n8, n9, n10, n11, n12, n13, n14, n15⟩ := fd
      have e2 : (some (n1, n2, n3, n4, n5, n6, n7, n15) : He.FnW) = d.val := e
      unfold DefM.val at e2
      simp only [Option.some.injEq, Prod.mk.injEq] at e2
      obtain ⟨h1, h2, h3, h4, h5, h6, h7, h8⟩ := e2
      subst h1 h2 h3 h4 h5 h6 h7 h8
      have c3 : (PySem.W.codeIn K n13 d.qual && (He.dflB K n8 (d.dvs K) && He.kwdB K n9 (d.kws K))) = true := c2
      obtain ⟨k1, k2⟩ := He.ba c3
      obtain ⟨k3, k4⟩ := He.ba k2
      exact ⟨_, ⟨oc, od, n8, n9, n10, n11, n12, n13, n14, osl, rfl, q, k1, He.dflB_ok k3, He.kwdB_ok k4⟩, kp⟩
    | _ => cases c2
/-! ### the hook -/
def obsM (fa : List Fc) (fn : List DefM) (K : PySem.W.Frag) : He.AlD := ((fa.all fun f => f.ok K) && fn.all fun d => d.ok K, fn.map fun d => fnM K (d.ad.a K))
def SaysM (fa : List Fc) (fn : List DefM) (K : PySem.W.Frag) : Prop := obsM fa fn K = (true, fn.map DefM.val)
/-- what stands fast: the written part and the module's names -/
structure Kn (fa : List Fc) (fn : List DefM) (K : PySem.W.Frag) (mg : Str → Option Value) : Prop where
  ns : ∃ h : Heap, K.In h ∧ h.Ns mainGlobals mg
  says : SaysM fa fn K
section
variable {fa : List Fc} {fn : List DefM} {K : PySem.W.Frag} {mg : Str → Option Value} {x y m : Str}
theorem Kn.fact (c : Kn fa fn K mg) (i : Nat) {f : Fc} (h : fa[i]? = some f := by rfl) : f.ok K = true := by
  have z := (He.ba (show ((fa.all fun f => f.ok K) && fn.all fun d => d.ok K) = true from congrArg (fun z : He.AlD => z.1) c.says)).1
  exact List.all_eq_true.mp z f (List.mem_of_getElem? h)
theorem Kn.def_ (c : Kn fa fn K mg) (i : Nat) {d : DefM} (h : fn[i]? = some d := by rfl) : ∃ fd, FunM K d fd := by
  have z := (He.ba (show ((fa.all fun f => f.ok K) && fn.all fun d => d.ok K) = true from congrArg (fun z : He.AlD => z.1) c.says)).2
  have e : fn.map (fun d => fnM K (d.ad.a K)) = fn.map DefM.val := congrArg (fun z : He.AlD => z.2) c.says
  have e2 : (fn.map fun d => fnM K (d.ad.a K))[i]? = (fn.map DefM.val)[i]? := by rw [e]
  rw [List.getElem?_map, List.getElem?_map, h] at e2
  exact DefM.fun_ (Option.some.inj e2) (List.all_eq_true.mp z d (List.mem_of_getElem? h))
theorem Kn.g (c : Kn fa fn K mg) (i : Nat) {f : PySem.W.Frag → Bool} (h : fa[i]? = some (.g f) := by rfl) : f K = true := c.fact i h
theorem Kn.glo (c : Kn fa fn K mg) (i : Nat) (h : fa[i]? = some (.he (.glo x)) := by rfl) : mg x = some (.ref (He.ga K x)) := by
  obtain ⟨hp, a, b⟩ := c.ns
  exact He.glo_ok a b (c.fact i h)
theorem Kn.free (c : Kn fa fn K mg) (i : Nat) (h : fa[i]? = some (.he (.free x)) := by rfl) : mg x = none := by
  obtain ⟨hp, a, b⟩ := c.ns
  exact He.free_ok a b (c.fact i h)
theorem Kn.int (c : Kn fa fn K mg) (i : Nat) {n : Int} (h : fa[i]? = some (.he (.int x n)) := by rfl) : ∃ t, mg x = some (.int n t) := by
  obtain ⟨hp, a, b⟩ := c.ns
  exact He.int_ok a b (c.fact i h)
theorem Kn.str (c : Kn fa fn K mg) (i : Nat) {z : Str} (h : fa[i]? = some (.he (.str x z)) := by rfl) : ∃ t, mg x = some (.str z t) := by
  obtain ⟨hp, a, b⟩ := c.ns
  exact He.str_ok a b (c.fact i h)
theorem Kn.cls (c : Kn fa fn K mg) (i : Nat) (h : fa[i]? = some (.clsF x) := by rfl) : ClsF K (He.ga K x) := clsF_ok (c.fact i h)
theorem Kn.noat (c : Kn fa fn K mg) (i : Nat) (h : fa[i]? = some (.he (.noat x m)) := by rfl) : NoAttr K (He.ga K x) m := He.noat_ok (c.fact i h)
theorem Kn.mkr (c : Kn fa fn K mg) (i : Nat) (h : fa[i]? = some (.he (.mkr x)) := by rfl) : Mk K (He.ga K x) (He.ma K (He.ga K x) "__init__") := He.mkr_ok (c.fact i h)
theorem Kn.prop (c : Kn fa fn K mg) (i : Nat) (h : fa[i]? = some (.prop x m) := by rfl) : ∃ p, PropOf K (He.ga K x) m p (gAd K x m) := ⟨_, prop_ok (c.fact i h)⟩
theorem Kn.kit (c : Kn fa fn K mg) (i : Nat) {a b : Tr} {r : Bool} (h : fa[i]? = some (.kit a b r) := by rfl) : PySem.W.kitOne K (a.v K) (b.v K) = some r := kit_ok (c.fact i h)
theorem Kn.eqf (c : Kn fa fn K mg) (i : Nat) (h : fa[i]? = some (.eqf x) := by rfl) : EqF K (He.ga K x) (He.ma K (He.ga K x) "__eq__") := eqf_ok (c.fact i h)
theorem Kn.rep (c : Kn fa fn K mg) (i : Nat) (h : fa[i]? = some (.rep x) := by rfl) : PySem.W.findIn K (.ref (He.ga K x)) "__repr__" = some (some (.ref (He.ma K (He.ga K x) "__repr__"))) ∧ PySem.W.isFn K (.ref (He.ma K (He.ga K x) "__repr__")) = true := rep_ok (c.fact i h)
theorem Kn.methI (c : Kn fa fn K mg) (i : Nat) (h : fa[i]? = some (.methI x y m) := by rfl) : Meth K (He.ga K x) m (He.ma K (He.ga K y) m) := by
  have z := c.fact i h
  obtain ⟨c1, z⟩ := He.ba z
  obtain ⟨c2, c3⟩ := He.ba z
  exact ⟨He.eqO_ok c1, c2, c3⟩
theorem Kn.propI (c : Kn fa fn K mg) (i : Nat) (h : fa[i]? = some (.propI x y m) := by rfl) : ∃ p, PropOf K (He.ga K x) m p (gAd K y m) := ⟨_, propI_ok (c.fact i h)⟩
theorem Kn.eqfI (c : Kn fa fn K mg) (i : Nat) (h : fa[i]? = some (.eqfI x y) := by rfl) : EqF K (He.ga K x) (He.ma K (He.ga K y) "__eq__") := eqfI_ok (c.fact i h)
theorem Kn.repI (c : Kn fa fn K mg) (i : Nat) (h : fa[i]? = some (.repI x y) := by rfl) : PySem.W.findIn K (.ref (He.ga K x)) "__repr__" = some (some (.ref (He.ma K (He.ga K y) "__repr__"))) ∧ PySem.W.isFn K (.ref (He.ma K (He.ga K y) "__repr__")) = true := repI_ok (c.fact i h)
theorem Kn.oex (c : Kn fa fn K mg) (i : Nat) (h : fa[i]? = some (.oex x) := by rfl) : OexC K (He.ga K x) := by
  have z := c.fact i h
  obtain ⟨c1, z⟩ := He.ba z
  obtain ⟨c2, z⟩ := He.ba z
  obtain ⟨c3, z⟩ := He.ba z
  obtain ⟨c4, c5⟩ := He.ba z
  exact ⟨oexB_ok c1, He.eqO_ok c2, of_decide_eq_true c3, of_decide_eq_true c4, c5⟩
theorem Kn.xin (c : Kn fa fn K mg) (i : Nat) (h : fa[i]? = some (.xin x) := by rfl) : PySem.W.findIn K (.ref (He.ga K x)) "__init__" = some (some (.ref (He.ma K (He.ga K x) "__init__"))) ∧ PySem.W.typeIn K (.ref (He.ma K (He.ga K x) "__init__")) = some (.type "function") := by
  obtain ⟨c1, c2⟩ := He.ba (c.fact i h)
  exact ⟨He.eqO_ok c1, of_decide_eq_true c2⟩
theorem Kn.xbs (c : Kn fa fn K mg) (i : Nat) (h : fa[i]? = some (.xbs x) := by rfl) : PySem.W.specialIn K (.ref (He.ga K x)) "__getattribute__" = some (some (.builtin "type.__getattribute__")) ∧ PySem.W.readsIn K (He.ga K x) (.type "type") = true ∧ PySem.W.findCls K (.ref (He.ga K x)) (.type "type") "__init__" = some (.val (.builtin "ValueError.__init__")) := by
  obtain ⟨c1, z⟩ := He.ba (c.fact i h)
  obtain ⟨c2, c3⟩ := He.ba z
  refine ⟨He.eqO_ok c1, c2, ?_⟩
  split at c3
  · rename_i id e
    rw [e, beq_iff_eq.mp c3]
  · cases c3
theorem Kn.cmet (c : Kn fa fn K mg) (i : Nat) (h : fa[i]? = some (.cmet x m) := by rfl) : ClX.CRead K (He.ga K x) (.type "type") ∧ ClX.CMet K (He.ga K x) (.type "type") m (pAd K x m) (cAd K x m) := by
  obtain ⟨c1, z⟩ := He.ba (c.fact i h)
  obtain ⟨c2, z⟩ := He.ba z
  obtain ⟨c3, z⟩ := He.ba z
  obtain ⟨c4, c5⟩ := He.ba z
  refine ⟨⟨c1, He.eqO_ok c2⟩, ⟨?_, ?_, c5⟩⟩
  · split at c3
    · rename_i id p C e
      obtain ⟨d1, d2⟩ := He.ba c3
      obtain ⟨d3, d4⟩ := He.ba d2
      rw [e, beq_iff_eq.mp d1, beq_iff_eq.mp d3, beq_iff_eq.mp d4]
    · cases c3
  · unfold cAd
    split at c4
    · rename_i g r e
      exact ⟨r, by rw [e]⟩
    · cases c4
theorem Kn.strI (c : Kn fa fn K mg) (i : Nat) (h : fa[i]? = some (.strI x y) := by rfl) : PySem.W.findIn K (.ref (He.ga K x)) "__str__" = some (some (.ref (He.ma K (He.ga K y) "__str__"))) ∧ PySem.W.isFn K (.ref (He.ma K (He.ga K y) "__str__")) = true := by
  obtain ⟨c1, c2⟩ := He.ba (c.fact i h)
  exact ⟨He.eqO_ok c1, c2⟩
theorem Kn.exmT (c : Kn fa fn K mg) (i : Nat) {t : Tr} {b : Bool} (h : fa[i]? = some (.exmT x t b) := by rfl) : PySem.W.exmOne K (.ref (He.ga K x)) (t.v K) = some b := of_decide_eq_true (c.fact i h)
theorem Kn.xfl (c : Kn fa fn K mg) (i : Nat) (h : fa[i]? = some (.xfl x) := by rfl) : XfC K (He.ga K x) := xfB_ok (c.fact i h)
theorem Kn.kitA (c : Kn fa fn K mg) (i : Nat) {a : Tr} {ts : List Tr} {r : Bool} (h : fa[i]? = some (.kitA a ts r) := by rfl) : PySem.W.kitAny K (a.v K) (ts.map (Tr.v K)) = some r := of_decide_eq_true (c.fact i h)
theorem Kn.nof (c : Kn fa fn K mg) (i : Nat) (h : fa[i]? = some (.he (.noat x m)) := by rfl) : PySem.W.findIn K (.ref (He.ga K x)) m = some none := He.eqO_ok (c.fact i h)
theorem Kn.nf (c : Kn fa fn K mg) (i : Nat) (h : fa[i]? = some (.nf x y) := by rfl) : PySem.W.notFirst K (He.ga K x) (.ref (He.ga K y)) = true := nf_ok (c.fact i h)
end
theorem Kn.tup {fa : List Fc} {fn : List DefM} {K : PySem.W.Frag} {mg : Str → Option Value} {x : Str} {vs : List He.Dv} (c : Kn fa fn K mg) (i : Nat) (h : fa[i]? = some (.tupc x vs) := by rfl) : mg x = some (.ref (He.ga K x)) ∧ ∀ H : Hp, SqT K H (He.ga K x) (vs.map (He.Dv.v K)) := by
  obtain ⟨hp, a, b⟩ := c.ns
  obtain ⟨z1, z2⟩ := He.ba (c.fact i h)
  exact ⟨He.glo_ok a b z1, fun H => He.tupB_ok z2 H⟩
/-! ### names of the module as values; {} -/
section
variable {X : Cx} {cm : CM} {W : WX} {x : Str} {pos : Pos}
theorem ge_gint {i : Int} (hg : Gl X x) (hm : ∃ t, X.mg x = some (.int i t)) (hd : (x == ("__debug__" : Str)) = false := by decide) : PE X (.Name x pos) (tE cm X.K W (mC (.int i))) := by
  obtain ⟨t, hm⟩ := hm
  exact ge_const (pe_glob hg hm (v := .int i) ⟨t, rfl⟩ hd) fun _ => .int i
theorem ge_dic0 : PE X (.Dict [] [] pos) (tE cm X.K W (mC (.dic []))) := PE.weak pe_dnewK fun σ H Q ⟨F, S, e1, e2, R, h⟩ => fun p hp => by
  have s := same_new (o := .dK []) hp
  exact h _ _ (R.grow s) (vis_grow s) (.dic (hid_new R.live hp) .nil)
end
end Mir
/-! MirQ: small change -/
namespace Mir
open PySem PySem.Spec PyProof.Rows L2
theorem takes0 {X : Cx} : Takes X W0 := fun u s' x => by
  obtain ⟨a, B, sI, pins, σ, H, cls, d, e, I, nb, up, sky, na, os, ag, w⟩ := x
  exact w.elim
theorem aa0 {α : Type} {p : α → Prop} : ∀ x, x ∈ ([] : List α) → p x := fun x h => by cases h
theorem aa1 {α : Type} {p : α → Prop} {a : α} {l : List α} (h : p a) (r : ∀ x, x ∈ l → p x) : ∀ x, x ∈ a :: l → p x := fun x hx => by
  rcases List.mem_cons.mp hx with e | e
  · rw [e]; exact h
  · exact r x e
theorem vp {vs : List V} {us : List Value} (r : Vals vs us) : ∀ i : Nat, Vals ((vs.drop i).take 1) ((us.drop i).take 1) := by
  induction r with
  | nil => intro i; simp; exact .nil
  | cons a b ih =>
    intro i
    cases i with
    | zero => exact .cons a .nil
    | succ j => simpa using ih j
theorem vapp {vs ws : List V} {us xs : List Value} (r : Vals vs us) (q : Vals ws xs) : Vals (vs ++ ws) (us ++ xs) := by
  induction r with
  | nil => exact q
  | cons a b ih => exact .cons a ih
section
variable {X : Cx} {cm : CM} {W : WX} {a b c e : Expr} {ma mb : ME} {pos : Pos} {g : Dat → Dat → Option Dat}
theorem bind_assoc {α β γ : Type} (r : Rs α) (k : α → Sg → Rs β) (l : β → Sg → Rs γ) : (r.bind k).bind l = r.bind fun a S => (k a S).bind l := by cases r <;> rfl
theorem gt_cmp {op} (o : OpR X (compareOp op) (rD cm X.K g)) (ha : PE X a (tE cm X.K W ma)) (hb : PE X b (tE cm X.K W mb)) (hm : behindInMarks op b = false) : PT X (.Compare a [op] [b] pos) (tT cm X.K W (cTruth (m2 g ma mb))) :=
  PT.weak (pt_cmpR o ha hb hm) fun σ H Q ⟨F, S, e1, e2, R, h⟩ => by
    unfold cTruth m2 at h
    rw [bind_assoc] at h
    refine tG_bind e1 e2 R h fun F x H1 da S1 e1 e2 R1 s1 p1 h1 => ?_
    rw [bind_assoc] at h1
    refine tG_bind e1 e2 R1 h1 fun F y H2 db S2 e1 e2 R2 s2 p2 h2 => ?_
    cases hg : g da db with
    | none => rw [hg] at h2; exact h2.elim
    | some d =>
      rw [hg, Rs.of_some, Rs.bind_ok] at h2
      cases d <;> try (exact False.elim h2)
      rename_i t
      exact ⟨_, da, db, .bl t, R2.live, p1.mono s2, p2, hg, fun v H' s' rv => by
        cases rv
        exact ⟨t, rfl, h2 t H' (R2.grow s') (vis_grow s') rfl⟩⟩
theorem gt_chain {op op'} {g' : Dat → Dat → Option Dat} {mc : ME} (o : OpR X (compareOp op) (rD cm X.K g)) (o' : OpR X (compareOp op') (rD cm X.K g')) (ha : PE X a (tE cm X.K W ma)) (hb : PE X b (tE cm X.K W mb)) (hc : PE X c (tE cm X.K W mc))
    (hm : lastMarks [op, op'] [b, c] = false := by rfl) (hbl : ∀ x y z, g x y = some z → ∃ t, z = .bl t := by intro x y z h; cases x <;> cases y <;> first | cases h | (cases h; exact ⟨_, rfl⟩)) : PT X (.Compare a [op, op'] [b, c] pos) (tT cm X.K W (cTruth (mChain g g' ma mb mc))) :=
  PT.weak (pt_chain o o' ha hb hc hm) fun σ H Q ⟨F, S, e1, e2, R, h⟩ => by
    unfold cTruth mChain at h
    rw [bind_assoc] at h
    refine tG_bind e1 e2 R h fun F x H1 da S1 e1 e2 R1 s1 p1 h1 => ?_
    rw [bind_assoc] at h1
    refine tG_bind e1 e2 R1 h1 fun F y H2 db S2 e1 e2 R2 s2 p2 h2 => ?_
    cases hg : g da db with
    | none => rw [hg] at h2; exact False.elim h2
    | some z =>
      rw [hg] at h2
      obtain ⟨t, rfl⟩ := hbl _ _ _ hg
      refine ⟨_, da, db, .bl t, R2.live, p1.mono s2, p2, hg, fun v H3 s3 r3 => ?_⟩
      cases r3
      refine ⟨t, rfl, ?_⟩
      have R3 := R2.grow s3
      have v3 := vis_grow (F := F) (S := S2) (σ := σ) s3
      cases t with
      | false =>
        rw [if_neg (by simp)]
        exact ⟨false, rfl, h2 false H3 R3 v3 rfl⟩
      | true =>
        rw [if_pos rfl]
        have h3 : out F W σ (vis F S2 σ H2) rT Q (((mc S2).bind fun w S4 => Rs.of (g' db w) S4).bind fun d S1 => match d with | .bl b => .ok b S1 | _ => .bad) := h2
        rw [bind_assoc] at h3
        refine tG_bind e1 e2 R3 (out_same v3 h3) fun F w H4 dc S4 e1 e2 R4 s4 p4 h4 => ?_
        cases hg' : g' db dc with
        | none => rw [hg'] at h4; exact False.elim h4
        | some d =>
          rw [hg', Rs.of_some, Rs.bind_ok] at h4
          cases d <;> try (exact False.elim h4)
          rename_i b
          exact ⟨_, db, dc, .bl b, R4.live, (p2.mono v3).mono s4, p4, hg', fun v H' s' rv => by
            cases rv
            exact ⟨b, rfl, h4 b H' (R4.grow s') (vis_grow s') rfl⟩⟩
/-- a tuple of targets, the number known -/
def gTpN (n : Nat) (r : MGs) : MG := gTp fun ds S => if ds.length = n then r ds S else .bad
theorem gg_tupN {es : List Expr} {gs : MGs} {k n : Nat} (hc : X.calm = true) (h : PGs X es (tGts cm X.K W gs)) (hn : (assignEach es X.env).length = n := by rfl) (hst : (assignEach es X.env).findIdx? (·.1) = none := by rfl) : PG X (.Tuple es k pos) (tGt cm X.K W (gTpN n gs)) :=
  gg_tup hc (PGs.weak h fun v σ H Q ⟨F, S, d, e1, e2, R, p, o⟩ => by
    have o : outT F W (vis F S σ H) Q (if d.length = n then gs d S else .bad) := o
    by_cases hz : d.length = n
    · rw [if_pos hz] at o; exact ⟨F, S, d, e1, e2, R, p, o⟩
    · rw [if_neg hz] at o; exact o.elim) hn hst fun ds S hz => if_neg hz
end
end Mir
/-! MirR: the mirrors, run: what comes behind is kept as it stands until its state is known -/
namespace Mir
open PySem
section
variable {α β : Type} (S : Sg) (a b d : Dat) (ma mb mc : ME) (ca cb : MT) (g g' : Dat → Dat → Option Dat)
/-! statements -/
def seqK (b : MS) : Rs Fl → Rs Fl
  | .ok .nx S => b S
  | r => r
theorem r_seq (a b : MS) : mSeq a b S = seqK b (a S) := by
  unfold mSeq seqK
  cases a S with
  | ok f S1 => cases f <;> rfl
  | _ => rfl
@[simp] theorem seqK_nx (k : MS) : seqK k (.ok .nx S) = k S := rfl
@[simp] theorem seqK_rt (k : MS) : seqK k (.ok (.rt d) S) = .ok (.rt d) S := rfl
@[simp] theorem seqK_bk (k : MS) : seqK k (.ok .bk S) = .ok .bk S := rfl
@[simp] theorem seqK_ct (k : MS) : seqK k (.ok .ct S) = .ok .ct S := rfl
@[simp] theorem seqK_exc (c : Str) (fs : List (Str × Dat)) (k : MS) : seqK k (.exc c fs S) = .exc c fs S := rfl
@[simp] theorem seqK_bad (k : MS) : seqK k .bad = .bad := rfl
@[simp] theorem seqK_ite {p : Prop} [Decidable p] (x y : Rs Fl) (k : MS) : seqK k (if p then x else y) = if p then seqK k x else seqK k y := by split <;> rfl
theorem r_next : mNext S = .ok .nx S := rfl
theorem r_retN : mRetN S = .ok (.rt .non) S := rfl
theorem r_break : mBreak S = .ok .bk S := rfl
theorem r_cont : mCont S = .ok .ct S := rfl
theorem r_never : mNever S = .bad := rfl
def retK (r : Rs Dat) : Rs Fl := r.bind fun d S1 => .ok (.rt d) S1
theorem r_ret : mRet ma S = retK (ma S) := rfl
@[simp] theorem retK_ok : retK (.ok d S) = .ok (.rt d) S := rfl
@[simp] theorem retK_ite {p : Prop} [Decidable p] (x y : Rs Dat) : retK (if p then x else y) = if p then retK x else retK y := by split <;> rfl
def dropK (r : Rs Dat) : Rs Fl := r.bind fun _ S1 => .ok .nx S1
theorem r_drop : mDrop ma S = dropK (ma S) := rfl
@[simp] theorem dropK_ok : dropK (.ok d S) = .ok .nx S := rfl
def ifSK (x y : MS) (r : Rs Bool) : Rs Fl := r.bind fun t S1 => if t = true then x S1 else y S1
theorem r_ifS (x y : MS) : mIfS ca x y S = ifSK x y (ca S) := rfl
@[simp] theorem ifSK_ok (x y : MS) (t : Bool) : ifSK x y (.ok t S) = if t = true then x S else y S := rfl
@[simp] theorem ifSK_ite {p : Prop} [Decidable p] (x y : MS) (u v : Rs Bool) : ifSK x y (if p then u else v) = if p then ifSK x y u else ifSK x y v := by split <;> rfl
def stK (r : Rs Unit) : Rs Fl := r.bind fun _ S2 => .ok .nx S2
def asgK (gt : MG) (r : Rs Dat) : Rs Fl := r.bind fun d S1 => stK (gt d S1)
theorem r_asg (gt : MG) : mAsg ma gt S = asgK gt (ma S) := rfl
@[simp] theorem asgK_ok (gt : MG) : asgK gt (.ok d S) = stK (gt d S) := rfl
@[simp] theorem asgK_ite {p : Prop} [Decidable p] (gt : MG) (x y : Rs Dat) : asgK gt (if p then x else y) = if p then asgK gt x else asgK gt y := by split <;> rfl
@[simp] theorem stK_ok : stK (.ok () S) = .ok .nx S := rfl
theorem r_nm (i : Nat) : gNm i d S = .ok () (S.set i (.dat d)) := rfl
def setFK (i : Nat) (r : Rs (List Dat)) : Rs Fl := r.bind fun ds S1 => .ok .nx (S1.set i (.loc ds))
theorem r_setF' (i : Nat) (m : Sg → Rs (List Dat)) : mSetF i m S = setFK i (m S) := rfl
@[simp] theorem setFK_ok (i : Nat) (ds : List Dat) : setFK i (.ok ds S) = .ok .nx (S.set i (.loc ds)) := rfl
def lLstK (r : Rs (List Dat)) : Rs (List Dat) := r.bind fun ds S1 => if ds.length ≤ lim then .ok ds S1 else .bad
theorem r_lLst (m : MA) : lLst m S = lLstK (m S) := rfl
@[simp] theorem lLstK_ok (ds : List Dat) : lLstK (.ok ds S) = if ds.length ≤ lim then .ok ds S else .bad := rfl
def lListK (r : Rs Dat) : Rs (List Dat) := r.bind fun d S1 => match d with
  | .lst ds => .ok ds S1
  | .tup ds => .ok ds S1
  | .ro ds => .ok ds S1
  | _ => .bad
theorem r_lList : lList ma S = lListK (ma S) := rfl
@[simp] theorem lListK_lst (ds : List Dat) : lListK (.ok (.lst ds) S) = .ok ds S := rfl
@[simp] theorem lListK_tup (ds : List Dat) : lListK (.ok (.tup ds) S) = .ok ds S := rfl
@[simp] theorem lListK_ro (ds : List Dat) : lListK (.ok (.ro ds) S) = .ok ds S := rfl
def parK (i j : Nat) (r : Rs (List Dat)) : Rs Fl := r.bind fun ds S1 => match ds with
  | [a, b] => .ok .nx ((S1.set i (.dat a)).set j (.dat b))
  | _ => .bad
theorem r_par (i j : Nat) (m : MA) : mPar i j m S = parK i j (m S) := rfl
@[simp] theorem parK_ok (i j : Nat) : parK i j (.ok [a, b] S) = .ok .nx ((S.set i (.dat a)).set j (.dat b)) := rfl
def appK (i : Nat) (r : Rs Dat) : Rs Fl := r.bind fun d S1 => if isMut i S1 then appAt i d S1 else .bad
theorem r_app (i : Nat) : mApp i ma S = if isMut i S = true then appK i (ma S) else .bad := rfl
@[simp] theorem appK_ok (i : Nat) : appK i (.ok d S) = if isMut i S = true then appAt i d S else .bad := rfl
def forK (gt : MG) (b : MS) (r : Rs (List Dat)) : Rs Fl := r.bind fun ds S1 => loopS gt b ds S1
theorem r_for (mi : Sg → Rs (List Dat)) (gt : MG) (b : MS) : mFor mi gt b S = forK gt b (mi S) := rfl
@[simp] theorem forK_ok (gt : MG) (b : MS) (ds : List Dat) : forK gt b (.ok ds S) = loopS gt b ds S := rfl
def ofK (f : List Dat → Option (List Dat)) (r : Rs (List Dat)) : Rs (List Dat) := r.bind fun d S1 => Rs.of (f d) S1
theorem r_its (f : List Dat → Option (List Dat)) (m : MA) : mIts f m S = ofK f (m S) := rfl
@[simp] theorem ofK_ok (f : List Dat → Option (List Dat)) (ds : List Dat) : ofK f (.ok ds S) = Rs.of (f ds) S := rfl
def itemsK (r : Rs Dat) : Rs (List Dat) := r.bind fun d S1 => Rs.of (itemsD d) S1
theorem r_items : mItems ma S = itemsK (ma S) := rfl
@[simp] theorem itemsK_ok : itemsK (.ok d S) = Rs.of (itemsD d) S := rfl
def gIxK (i : Nat) (d : Dat) (r : Rs Dat) : Rs Unit := r.bind fun k S1 => match k with
  | .int k => if isMut i S1 then setAt i k d S1 else .bad
  | _ => .bad
theorem r_gIx (i : Nat) : gIx i ma d S = if isMut i S = true then gIxK i d (ma S) else .bad := rfl
@[simp] theorem gIxK_ok (i : Nat) (k : Int) : gIxK i d (.ok (.int k) S) = if isMut i S = true then setAt i k d S else .bad := rfl
theorem r_tpN (n : Nat) (r : MGs) (ds : List Dat) : gTpN n r (.tup ds) S = if ds.length = n then r ds S else .bad := rfl
def gCsK (r : MGs) (ds : List Dat) (u : Rs Unit) : Rs Unit := u.bind fun _ S1 => r ds S1
theorem r_gcs (gt : MG) (r : MGs) (ds : List Dat) : gCs gt r (d :: ds) S = gCsK r ds (gt d S) := rfl
@[simp] theorem gCsK_ok (r : MGs) (ds : List Dat) : gCsK r ds (.ok () S) = r ds S := rfl
theorem r_gnl : gNl [] S = .ok () S := rfl
def stFK (cs : List Str) (i : Nat) (nm : Str) (r : Rs Dat) : Rs Fl := r.bind fun d S1 => stK (stF cs i nm d S1)
theorem r_stF (cs : List Str) (i : Nat) (nm : Str) : mStF cs i nm ma S = stFK cs i nm (ma S) := rfl
@[simp] theorem stFK_ok (cs : List Str) (i : Nat) (nm : Str) : stFK cs i nm (.ok d S) = stK (stF cs i nm d S) := rfl
/-! expressions -/
theorem r_C : mC d S = .ok d S := rfl
def k2b (g : Dat → Dat → Option Dat) (a : Dat) (r : Rs Dat) : Rs Dat := r.bind fun b S2 => Rs.of (g a b) S2
def k2 (g : Dat → Dat → Option Dat) (mb : ME) (r : Rs Dat) : Rs Dat := r.bind fun a S1 => k2b g a (mb S1)
theorem r_2 : m2 g ma mb S = k2 g mb (ma S) := rfl
@[simp] theorem k2_ok : k2 g mb (.ok a S) = k2b g a (mb S) := rfl
@[simp] theorem k2b_ok : k2b g a (.ok b S) = Rs.of (g a b) S := rfl
@[simp] theorem k2_ite {p : Prop} [Decidable p] (x y : Rs Dat) : k2 g mb (if p then x else y) = if p then k2 g mb x else k2 g mb y := by split <;> rfl
@[simp] theorem k2b_ite {p : Prop} [Decidable p] (x y : Rs Dat) : k2b g a (if p then x else y) = if p then k2b g a x else k2b g a y := by split <;> rfl
def k1 (f : Dat → Option Dat) (r : Rs Dat) : Rs Dat := r.bind fun a S1 => Rs.of (f a) S1
theorem r_1 (f : Dat → Option Dat) : m1 f ma S = k1 f (ma S) := rfl
@[simp] theorem k1_ok (f : Dat → Option Dat) : k1 f (.ok a S) = Rs.of (f a) S := rfl
theorem r_nil : mNil S = .ok [] S := rfl
def kc2 (a : Dat) (r : Rs (List Dat)) : Rs (List Dat) := r.bind fun r S2 => .ok (a :: r) S2
def kc (mr : MA) (r : Rs Dat) : Rs (List Dat) := r.bind fun a S1 => kc2 a (mr S1)
theorem r_cons (mr : MA) : mCons ma mr S = kc mr (ma S) := rfl
@[simp] theorem kc_ok (mr : MA) : kc mr (.ok a S) = kc2 a (mr S) := rfl
@[simp] theorem kc2_ok (ds : List Dat) : kc2 a (.ok ds S) = .ok (a :: ds) S := rfl
@[simp] theorem kc_ite {p : Prop} [Decidable p] (mr : MA) (x y : Rs Dat) : kc mr (if p then x else y) = if p then kc mr x else kc mr y := by split <;> rfl
@[simp] theorem kc2_ite {p : Prop} [Decidable p] (x y : Rs (List Dat)) : kc2 a (if p then x else y) = if p then kc2 a x else kc2 a y := by split <;> rfl
def kf (f : List Dat → Option Dat) (r : Rs (List Dat)) : Rs Dat := r.bind fun ds S1 => Rs.of (f ds) S1
theorem r_call (f : List Dat → Option Dat) (m : MA) : mCall f m S = kf f (m S) := rfl
theorem r_lst (m : MA) : mLst m S = kf mkLst (m S) := rfl
theorem r_tup (m : MA) : mTup m S = kf mkTup (m S) := rfl
@[simp] theorem kf_ok (f : List Dat → Option Dat) (ds : List Dat) : kf f (.ok ds S) = Rs.of (f ds) S := rfl
@[simp] theorem kf_ite {p : Prop} [Decidable p] (f : List Dat → Option Dat) (x y : Rs (List Dat)) : kf f (if p then x else y) = if p then kf f x else kf f y := by split <;> rfl
def kIf (ma mb : ME) (r : Rs Bool) : Rs Dat := r.bind fun t S1 => if t = true then ma S1 else mb S1
theorem r_if : mIf ca ma mb S = kIf ma mb (ca S) := rfl
@[simp] theorem kIf_ok (t : Bool) : kIf ma mb (.ok t S) = if t = true then ma S else mb S := rfl
@[simp] theorem kIf_ite {p : Prop} [Decidable p] (x y : Rs Bool) : kIf ma mb (if p then x else y) = if p then kIf ma mb x else kIf ma mb y := by split <;> rfl
def kAnd (b : ME) (r : Rs Dat) : Rs Dat := r.bind fun d S1 => match d with
  | .bl true => b S1
  | .bl false => .ok (.bl false) S1
  | _ => .bad
def kOr (b : ME) (r : Rs Dat) : Rs Dat := r.bind fun d S1 => match d with
  | .bl true => .ok (.bl true) S1
  | .bl false => b S1
  | _ => .bad
theorem r_and : mAnd ma mb S = kAnd mb (ma S) := rfl
theorem r_or : mOr ma mb S = kOr mb (ma S) := rfl
@[simp] theorem kAnd_bl (t : Bool) : kAnd mb (.ok (.bl t) S) = if t = true then mb S else .ok (.bl false) S := by cases t <;> rfl
@[simp] theorem kOr_bl (t : Bool) : kOr mb (.ok (.bl t) S) = if t = true then .ok (.bl true) S else mb S := by cases t <;> rfl
@[simp] theorem kAnd_ite {p : Prop} [Decidable p] (x y : Rs Dat) : kAnd mb (if p then x else y) = if p then kAnd mb x else kAnd mb y := by split <;> rfl
@[simp] theorem kOr_ite {p : Prop} [Decidable p] (x y : Rs Dat) : kOr mb (if p then x else y) = if p then kOr mb x else kOr mb y := by split <;> rfl
def kNot (r : Rs Dat) : Rs Dat := r.bind fun d S1 => match d with
  | .bl b => .ok (.bl (!b)) S1
  | _ => .bad
@[simp] theorem kNot_bl (t : Bool) : kNot (.ok (.bl t) S) = .ok (.bl (!t)) S := rfl
@[simp] theorem kNot_ite {p : Prop} [Decidable p] (x y : Rs Dat) : kNot (if p then x else y) = if p then kNot x else kNot y := by split <;> rfl
theorem r_not : mNot ma S = kNot (ma S) := by unfold mNot kNot; cases ma S <;> first | rfl | (rename_i d S1; cases d <;> rfl)
def kTr (r : Rs Dat) : Rs Bool := r.bind fun d S1 => match d with
  | .bl b => .ok b S1
  | _ => .bad
theorem r_truth : cTruth ma S = kTr (ma S) := rfl
@[simp] theorem kTr_bl (t : Bool) : kTr (.ok (.bl t) S) = .ok t S := rfl
@[simp] theorem kTr_ite {p : Prop} [Decidable p] (x y : Rs Dat) : kTr (if p then x else y) = if p then kTr x else kTr y := by split <;> rfl
def cAndK (cb : MT) (r : Rs Bool) : Rs Bool := r.bind fun t S1 => if t = true then cb S1 else .ok false S1
def cOrK (cb : MT) (r : Rs Bool) : Rs Bool := r.bind fun t S1 => if t = true then .ok true S1 else cb S1
def cNotK (r : Rs Bool) : Rs Bool := r.bind fun t S1 => .ok (!t) S1
theorem r_cand : cAnd ca cb S = cAndK cb (ca S) := rfl
theorem r_cor : cOr ca cb S = cOrK cb (ca S) := rfl
theorem r_cnot : cNot ca S = cNotK (ca S) := rfl
@[simp] theorem cAndK_ok (t : Bool) : cAndK cb (.ok t S) = if t = true then cb S else .ok false S := rfl
@[simp] theorem cOrK_ok (t : Bool) : cOrK cb (.ok t S) = if t = true then .ok true S else cb S := rfl
@[simp] theorem cNotK_ok (t : Bool) : cNotK (.ok t S) = .ok (!t) S := rfl
@[simp] theorem cAndK_ite {p : Prop} [Decidable p] (x y : Rs Bool) : cAndK cb (if p then x else y) = if p then cAndK cb x else cAndK cb y := by split <;> rfl
@[simp] theorem cOrK_ite {p : Prop} [Decidable p] (x y : Rs Bool) : cOrK cb (if p then x else y) = if p then cOrK cb x else cOrK cb y := by split <;> rfl
@[simp] theorem cNotK_ite {p : Prop} [Decidable p] (x y : Rs Bool) : cNotK (if p then x else y) = if p then cNotK x else cNotK y := by split <;> rfl
def kCh3 (g' : Dat → Dat → Option Dat) (y : Dat) (mc : ME) (r : Rs Dat) : Rs Dat := r.bind fun z S3 => match z with
  | .bl true => k2b g' y (mc S3)
  | .bl false => .ok (.bl false) S3
  | _ => .bad
def kCh2 (g g' : Dat → Dat → Option Dat) (x : Dat) (mc : ME) (r : Rs Dat) : Rs Dat := r.bind fun y S2 => kCh3 g' y mc (Rs.of (g x y) S2)
def kCh (g g' : Dat → Dat → Option Dat) (mb mc : ME) (r : Rs Dat) : Rs Dat := r.bind fun x S1 => kCh2 g g' x mc (mb S1)
theorem r_chain : mChain g g' ma mb mc S = kCh g g' mb mc (ma S) := rfl
@[simp] theorem kCh_ok : kCh g g' mb mc (.ok a S) = kCh2 g g' a mc (mb S) := rfl
@[simp] theorem kCh2_ok : kCh2 g g' a mc (.ok b S) = kCh3 g' b mc (Rs.of (g a b) S) := rfl
@[simp] theorem kCh3_bl (t : Bool) : kCh3 g' b mc (.ok (.bl t) S) = if t = true then k2b g' b (mc S) else .ok (.bl false) S := by cases t <;> rfl
def ixSK (i : Nat) (r : Rs Dat) : Rs Dat := r.bind fun k S1 => match listAt i S1 with
  | some ds => Rs.of (ixD (.lst ds) k) S1
  | none => .bad
theorem r_ixS (i : Nat) : mIxS i ma S = if isMut i S = true then ixSK i (ma S) else k2 ixD ma (mVar i S) := rfl
@[simp] theorem ixSK_ok (i : Nat) : ixSK i (.ok d S) = match listAt i S with
  | some ds => Rs.of (ixD (.lst ds) d) S
  | none => .bad := rfl
def opPK (g : Dat → Dat → Option Dat) (i : Nat) (r : Rs Dat) : Rs Dat := r.bind fun b S1 => match listAt i S1 with
  | some ds => (match g (.lst ds) b with
    | some d => if scal d = true then .ok d S1 else .bad
    | none => .bad)
  | none => .bad
theorem r_opP (i : Nat) : mOpP g i mb S = if isMut i S = true then opPK g i (mb S) else k2 g mb (mVar i S) := rfl
@[simp] theorem opPK_ok (i : Nat) : opPK g i (.ok d S) = match listAt i S with
  | some ds => (match g (.lst ds) d with
    | some d => if scal d = true then .ok d S else .bad
    | none => .bad)
  | none => .bad := rfl
/-! texts -/
def jnK (mb : ME) (r : Rs Dat) : Rs Dat := r.bind fun a S1 => match a with
  | .str x => k2b joinD (.str x) (mb S1)
  | _ => .bad
theorem r_jn : mJn ma mb S = jnK mb (ma S) := rfl
@[simp] theorem jnK_ok (x : Str) : jnK mb (.ok (.str x) S) = k2b joinD (.str x) (mb S) := rfl
/-! calls -/
def fFK (S : Sg) (is : List Nat) : RF → Rs Dat
  | .ok d outs => (match wb S is outs with
    | some S' => .ok d S'
    | none => .bad)
  | .exc c es outs => (match wb S is outs with
    | some S' => .exc c es S'
    | none => .bad)
  | .bad => .bad
@[simp] theorem fFK_ok (is : List Nat) (os : List Own) : fFK S is (.ok d os) = (match wb S is os with | some S' => .ok d S' | none => .bad) := rfl
def apK (Fn : List FA → RF) (S : Sg) : Option (List FA × List Nat) → Rs Dat
  | none => .bad
  | some (fs, is) => if nodupB is = true then fFK S is (Fn fs) else .bad
theorem r_apply (Fn : List FA → RF) (as : List AV) : applyF Fn as S = apK Fn S (fetch S as) := by
  unfold applyF apK
  cases fetch S as with
  | none => rfl
  | some p =>
    obtain ⟨fs, is⟩ := p
    dsimp only
    by_cases h : nodupB is = true
    · rw [if_pos h, if_pos h]; cases Fn fs <;> rfl
    · rw [if_neg h, if_neg h]
@[simp] theorem apK_some (Fn : List FA → RF) (fs : List FA) (is : List Nat) : apK Fn S (some (fs, is)) = if nodupB is = true then fFK S is (Fn fs) else .bad := rfl
def cfK2 (Fn : List FA → RF) (n m : Nat) (arr : List AV → List AV → List AV) (as : List AV) (r : Rs (List AV)) : Rs Dat := r.bind fun bs S2 => if as.length = n ∧ bs.length = m then applyF Fn (arr as bs) S2 else .bad
def cfK (Fn : List FA → RF) (n m : Nat) (arr : List AV → List AV → List AV) (mk : MAv) (r : Rs (List AV)) : Rs Dat := r.bind fun as S1 => cfK2 Fn n m arr as (mk S1)
theorem r_callF (Fn : List FA → RF) (n m : Nat) (arr : List AV → List AV → List AV) (mr mk : MAv) : mCallF Fn n m arr mr mk S = cfK Fn n m arr mk (mr S) := rfl
@[simp] theorem cfK_ok (Fn : List FA → RF) (n m : Nat) (arr : List AV → List AV → List AV) (mk : MAv) (as : List AV) : cfK Fn n m arr mk (.ok as S) = cfK2 Fn n m arr as (mk S) := rfl
@[simp] theorem cfK2_ok (Fn : List FA → RF) (n m : Nat) (arr : List AV → List AV → List AV) (as bs : List AV) : cfK2 Fn n m arr as (.ok bs S) = if as.length = n ∧ bs.length = m then applyF Fn (arr as bs) S else .bad := rfl
theorem r_vnil : vNil S = .ok [] S := rfl
def vd2 (d : Dat) (r : Rs (List AV)) : Rs (List AV) := r.bind fun r S2 => .ok (.dat d :: r) S2
def vd (mr : MAv) (r : Rs Dat) : Rs (List AV) := r.bind fun d S1 => vd2 d (mr S1)
theorem r_vdat (mr : MAv) : vDat ma mr S = vd mr (ma S) := rfl
@[simp] theorem vd_ok (mr : MAv) : vd mr (.ok d S) = vd2 d (mr S) := rfl
@[simp] theorem vd2_ok (as : List AV) : vd2 d (.ok as S) = .ok (.dat d :: as) S := rfl
@[simp] theorem vd_ite {p : Prop} [Decidable p] (mr : MAv) (x y : Rs Dat) : vd mr (if p then x else y) = if p then vd mr x else vd mr y := by split <;> rfl
def vs2 (i : Nat) (r : Rs (List AV)) : Rs (List AV) := r.bind fun r S2 => .ok (.slot i :: r) S2
theorem r_vslot (i : Nat) (mr : MAv) : vSlot i mr S = if isLent i S = true then vs2 i (mr S) else .bad := rfl
@[simp] theorem vs2_ok (i : Nat) (as : List AV) : vs2 i (.ok as S) = .ok (.slot i :: as) S := rfl
def mkK2 (c : Str) (Fn : List FA → RF) (n m : Nat) (arr : List AV → List AV → List AV) (as : List AV) (r : Rs (List AV)) : Rs Dat := r.bind fun bs S2 => if as.length = n ∧ bs.length = m then makeF c Fn (arr as bs) S2 else .bad
def mkK (c : Str) (Fn : List FA → RF) (n m : Nat) (arr : List AV → List AV → List AV) (mk : MAv) (r : Rs (List AV)) : Rs Dat := r.bind fun as S1 => mkK2 c Fn n m arr as (mk S1)
theorem r_make (c : Str) (Fn : List FA → RF) (n m : Nat) (arr : List AV → List AV → List AV) (mr mk : MAv) : mMake c Fn n m arr mr mk S = mkK c Fn n m arr mk (mr S) := rfl
@[simp] theorem mkK_ok (c : Str) (Fn : List FA → RF) (n m : Nat) (arr : List AV → List AV → List AV) (mk : MAv) (as : List AV) : mkK c Fn n m arr mk (.ok as S) = mkK2 c Fn n m arr as (mk S) := rfl
@[simp] theorem mkK2_ok (c : Str) (Fn : List FA → RF) (n m : Nat) (arr : List AV → List AV → List AV) (as bs : List AV) : mkK2 c Fn n m arr as (.ok bs S) = if as.length = n ∧ bs.length = m then makeF c Fn (arr as bs) S else .bad := rfl
def propK (cs : List Str) (Fn : List FA → RF) (r : Rs Dat) : Rs Dat := r.bind fun d S1 => match d with
  | .ins c fs => if cs.contains c then (applyF Fn [.dat (.ins c fs)] S1).calm else .bad
  | _ => .bad
theorem r_prop (cs : List Str) (Fn : List FA → RF) : mProp cs Fn ma S = propK cs Fn (ma S) := rfl
@[simp] theorem propK_ok (cs : List Str) (Fn : List FA → RF) (c : Str) (fs : List (Str × Dat)) : propK cs Fn (.ok (.ins c fs) S) = if cs.contains c = true then (applyF Fn [.dat (.ins c fs)] S).calm else .bad := rfl
end
end Mir
/-! MirS: slices, attributes as targets, pop, tuples of the module, arguments that are lent or not -/
namespace Mir
open PySem PySem.Spec PyProof.Rows L2
section
variable {X : Cx} {cm : CM} {W : WX} {a b e o : Expr} {es : List Expr} {ma mb : ME} {mr mk : MAv} {pos p p2 : Pos} {nm x : Str}
/-! ### slices -/
theorem PO.weak {eo : Option Expr} {t t' : TO} (h : PO X eo t) (i : ∀ σ H Q, t' σ H Q → t σ H Q) : PO X eo t' := ⟨fun pins s σ H Q I q => h.run pins s σ H Q I (i σ H Q q)⟩
/-! ### self.f as a target -/
def gFld (cs : List Str) (i : Nat) (nm : Str) : MG := fun d S => stF cs i nm d S
theorem gg_fld {cs : List Str} {i : Nat} (hc : ∀ c, c ∈ cs → Cls X.K (cm c) ∧ NoAttr X.K (cm c) nm) (ho : PE X o (tVar i)) : PG X (.Attribute o nm pos) (tGt cm X.K W (gFld cs i nm)) := by
  refine ⟨fun pins s σ H v u Q I r ⟨F, S, d, e1, e2, R, p, h⟩ => ?_⟩
  rw [assign_Attribute]
  have h' : outT F W (vis F S σ H) Q (stF cs i nm d S) := h
  cases hr : stF cs i nm d S with
  | bad => rw [hr] at h'; exact h'.elim
  | exc c fs S2 =>
    exfalso
    obtain ⟨_, _, _, _, _, z, _⟩ := st_ok hc e1 e2 R p hr (fun z => by cases z)
    cases z
  | ok w S2 =>
    obtain ⟨a, C, dx, fs, S', z, b1, b2, b3, b4, b5, b6, b7⟩ := st_ok hc e1 e2 R p hr (fun z => by cases z)
    cases z
    rw [hr] at h'
    refine wpAny_bind (wpAny_holding (thn (ho.run pins s σ H (fun y H1 => y = .ref a ∧ H1 = H) I ⟨_, b1, rfl, rfl⟩) fun ov s1 ⟨y, H1, I1, ry, ey, eH⟩ => ?_))
    subst ey
    subst eH
    obtain rfl : ov = Value.ref a := ry
    refine wpAny_bind (wpAny_standAt (wpAny_bind (wpAny_holding (setattr_ok I1 b2 b3 b4 b5 r fun s3 I3 => ?_))))
    exact wpAny_release ⟨σ, _, I3, h' σ _ b6 b7⟩
/-! ### x.pop() -/
def popAt (i : Nat) (S : Sg) : Rs Fl := match S[i]? with
  | some (.loc ds) => if ds.length = 0 then .bad else .ok .nx (S.set i (.loc ds.dropLast))
  | some (.own n (.lst ds)) => if ds.length = 0 then .bad else .ok .nx (S.set i (.own n (.lst ds.dropLast)))
  | _ => .bad
def mPop (i : Nat) : MS := fun S => if isMut i S = true then popAt i S else .bad
theorem drop_rp {K : PySem.W.Frag} {G : VH} : ∀ {vs : List V} {ds : List Dat}, RpAll cm K G vs ds → RpAll cm K G vs.dropLast ds.dropLast
  | _, _, .nil => .nil
  | _, _, .cons a .nil => .nil
  | _, _, .cons a (.cons b r) => .cons a (drop_rp (.cons b r))
theorem gs_pop {i : Nat} {apos cpos : Pos} (ho : PE X o (tVar i)) (hab : attributeBase o "pop" X.env (eval o X.env) = eval o X.env := by rfl) (hln : (apos.endLine == cpos.line) = true := by rfl) (hs : swapsWith (.Call (.Attribute o "pop" apos) [] [] cpos) none pos.line X.env = pure false := by rfl) :
    PS X (.Expr (.Call (.Attribute o "pop" apos) [] [] cpos) pos) (tS cm X.K W (mPop i)) :=
  PS.weak (ps_expr (pe_bm0 PySem.F.plainAttrs_list PySem.F.slot_list_pop PySem.F.type_list_pop mt_pop ho hab hln) hs) fun D σ H ⟨F, S, e1, e2, R, h⟩ => by
    unfold mPop at h
    by_cases hz : isMut i S = true
    · rw [if_pos hz] at h
      obtain ⟨l, vs, ds, hl, eh, r, hs⟩ := slot_mut R hz
      obtain ⟨s', a1, a2, a3, a4⟩ := slot_set R hl (drop_rp r) hs
      have ln := r.length
      have fin : ds.length ≠ 0 → outS F W (vis F S σ H) D (.ok .nx (S.set i s')) → rPop (.ref l) [] H fun _ H3 => D.nx σ H3 := fun hn ho => by
        have hlt : vs.length - 1 < vs.length := by omega
        exact ⟨l, vs, vs[vs.length - 1], rfl, rfl, eh, List.getElem?_eq_getElem hlt, ho σ _ a3 a4⟩
      refine ⟨_, hl, .inl ⟨rfl, _, SqL.of eh⟩, ?_⟩
      unfold popAt at h
      rcases hs with hs | ⟨n, hs, _⟩
      · rw [hs] at h
        dsimp only at h
        by_cases hn : ds.length = 0
        · rw [if_pos hn] at h; exact h.elim
        · rw [if_neg hn] at h
          rw [a1 hs] at fin
          exact fin hn h
      · rw [hs] at h
        dsimp only at h
        by_cases hn : ds.length = 0
        · rw [if_pos hn] at h; exact h.elim
        · rw [if_neg hn] at h
          rw [a2 n hs] at fin
          exact fin hn h
    · rw [if_neg hz] at h; exact h.elim
/-! ### an argument, lent if it is one's own -/
/-! ### a tuple of the module -/
theorem ge_gtup {ds : List Dat} {vs : List V} {ga : Addr} (hg : Gl X x) (hm : X.mg x = some (.ref ga)) (ht : ∀ H : Hp, SqT X.K H ga vs) (hr : ∀ G : VH, RpAll cm X.K G vs ds) (hd : (x == ("__debug__" : Str)) = false := by decide) : PE X (.Name x pos) (tE cm X.K W (mC (.tup ds))) :=
  ge_const (pe_glob hg hm (v := .ref ga) rfl hd) fun G => .tup (ht G) (hr G)
end
end Mir
/-! MirT: new lists by comprehensions and ranges -/
namespace Mir
open PySem PySem.Spec PyProof.Rows L2
/-- a heap without an address -/
def cutH (H : Hp) (p : Addr) : Hp := fun a => if a = p then none else H a
theorem cutH_upd {H : Hp} {p : Addr} {o : HO} (h : H p = some o) : upd (cutH H p) p o = H := by
  funext a
  by_cases e : a = p
  · rw [e, upd_same, h]
  · rw [upd_ne e]; unfold cutH; rw [if_neg e]
theorem cutH_ne {H : Hp} {p a : Addr} (e : a ≠ p) : cutH H p a = H a := by unfold cutH; rw [if_neg e]
theorem vis_cut {F1 : Fm} {S : Sg} {σ : L2.St} {H : Hp} {p : Addr} (hp : p ∈ F1.M) (hl : p ∉ locs S σ) : vis (F1.unhide p) S σ (cutH H p) = vis F1 S σ H := by
  have e : (vis (F1.unhide p) S σ (cutH H p)).h = (vis F1 S σ H).h := by
    funext a
    unfold vis
    by_cases ha : a ∈ F1.M ++ locs S σ
    · rw [hid_in ha]
      by_cases e : a = p
      · rw [hid_out (fun z => (Hd.mem_app.mp z).elim (fun z => (unh_mem.mp z).2 e) fun z => hl (by rw [← e]; exact z))]
        unfold cutH; rw [if_pos e]
      · rw [hid_in ((Hd.mem_app.mp ha).elim (fun z => Hd.mem_left _ (unh_mem.mpr ⟨z, e⟩)) fun z => Hd.mem_right _ z)]
    · have e : a ≠ p := fun z => ha (Hd.mem_left _ (by rw [z]; exact hp))
      rw [hid_out ha, hid_out (fun z => (Hd.mem_app.mp z).elim (fun z => ha (Hd.mem_left _ (unh_mem.mp z).1)) fun z => ha (Hd.mem_right _ z)), cutH_ne e]
  show (⟨(vis (F1.unhide p) S σ (cutH H p)).h, F1.M.ρ⟩ : VH) = ⟨(vis F1 S σ H).h, F1.M.ρ⟩
  rw [e]
theorem Rel.cut {F F1 : Fm} {S S0 : Sg} {σ σ0 : L2.St} {H H1 : Hp} {p : Addr} {o : HO} (R0 : Rel F S0 σ0 H1) (hp : H1 p = none) (t : (F.hide p o).to F1) (R : Rel F1 S σ H) : Rel (F1.unhide p) S σ (cutH H p) ∧ vis (F1.unhide p) S σ (cutH H p) = vis F1 S σ H ∧ H p = some o := by
  have hM : p ∉ F.M := R0.freshM hp
  have h0 : F1.H0 p = none := by rw [t.H0]; exact R0.fresh0 hp
  have eT : F1.T = (p, o) :: F.T := t.T
  have hx := R.tmp (p, o) (by rw [eT]; exact List.mem_cons_self ..)
  have hA : p ∉ F1.A0 := hx.2.2
  have hL : p ∉ locs S σ := fun z => R.lom p z hx.2.1
  obtain ⟨Ru, su⟩ := Rel.unhide R0 hp t R
  have ev := vis_cut (H := H) hx.2.1 hL
  -- no slot holds p
  have nh : ∀ {i : Nat} {s : Slot} {v : Option V}, S[i]? = some s → σ[i]? = some v → ¬ s.holds F1 v p := fun {i s v} a b hd => by
    cases s with
    | loc ds =>
      have hd : v = some (.ref p) := hd
      subst hd
      exact hL (mem_locs.mpr ⟨i, ds, a, b⟩)
    | own j u =>
      have hd : v = some (.ref p) := hd
      subst hd
      have y := R.sl i _ _ a b
      cases y with
      | own e0 _ => exact hA (List.mem_of_getElem? e0)
    | heap T =>
      obtain ⟨k, u, h1, h2⟩ := hd
      exact (R.hp.thl i T k u p a h1 h2).2.1 (p, o) (by rw [eT]; exact List.mem_cons_self ..) rfl
    | no => exact hd.elim
    | dat d => exact hd.elim
    | exn c fs => exact hd.elim
  have cn : ∀ a, a ≠ p → Lv (H a) → Lv (cutH H p a) := fun a e h => by rw [cutH_ne e]; exact h
  refine ⟨⟨R.len, fun i s v a b => ?_, R.nd, R.new, R.ond, R.and_, Ru.ain, fun a h => cn a (unh_mem.mp h).2 (Ru.liv a h), Ru.lom, fun q h => ?_, fun a x q n => ?_, ?_⟩, ev, hx.1⟩
  · rw [ev]
    refine ((R.sl i s v a b).mono (.refl _) (H' := cutH H p) fun l x hd q => ?_).in (F := F1) (F' := F1.unhide p) rfl rfl rfl rfl fun l hd h => unh_mem.mpr ⟨h, fun z => nh a b (by rw [← z]; exact hd)⟩
    rw [cutH_ne fun z => nh a b (by rw [← z]; exact hd)]; exact q
  · have z := Ru.tmp q h
    exact ⟨by rw [cutH_ne (unh_mem.mp z.2.1).2]; exact z.1, z.2⟩
  · have hne : a ≠ p := fun z => by
      have q : F1.H0 a = some x := q
      rw [z, h0] at q; cases q
    rw [cutH_ne hne]
    exact R.keep a x q n
  · exact ⟨Ru.hp.one, Ru.hp.him, Ru.hp.thl, Ru.hp.lnd, Ru.hp.thn, Ru.hp.n0, Ru.hp.nr⟩
section
variable {X : Cx} {cm : CM} {W : WX} {elt tg iter a b : Expr} {ifs : List Expr} {scope : Scope} {own : List (Str × Nat)} {pos p p2 : Pos} {mi : Sg → Rs (List Dat)} {t : TG} {g : Dat → Sg → Option Sg} {c : MT} {e ma mb : ME}
def lLc (mi : Sg → Rs (List Dat)) (g : Dat → Sg → Option Sg) (c : MT) (e : ME) (vs : List Nat) : Sg → Rs (List Dat) := fun S => (mi S).bind fun ds S1 => loopC g c e vs ds [] (wipeS S1 vs)
theorem loopC_calm : ∀ (vs : List Nat) (ds ac : List Dat) (S : Sg) c0 fs S', loopC g c e vs ds ac S ≠ .exc c0 fs S' := by
  intro vs ds
  induction ds with
  | nil => intro ac S c0 fs S' z; cases z
  | cons d ds ih =>
    intro ac S c0 fs S' z
    unfold loopC at z
    cases h1 : g d S with
    | none => rw [h1] at z; cases z
    | some S1 =>
      rw [h1, Rs.of_some, Rs.bind_ok] at z
      cases h2 : c S1 with
      | bad => rw [h2] at z; cases z
      | exc _ _ _ => rw [h2] at z; cases z
      | ok t S2 =>
        rw [h2, Rs.calm_ok, Rs.bind_ok] at z
        cases t with
        | false => exact ih _ _ _ _ _ z
        | true =>
          rw [if_pos rfl] at z
          cases h3 : e S2 with
          | bad => rw [h3] at z; cases z
          | exc _ _ _ => rw [h3] at z; cases z
          | ok y S3 =>
            rw [h3, Rs.calm_ok, Rs.bind_ok] at z
            by_cases hz : ac.length < lim
            · rw [if_pos hz] at z; exact ih _ _ _ _ _ z
            · rw [if_neg hz] at z; cases z
/-! ### list(range(..)) -/
/-! ### name = [..] on one line -/
theorem lcL_imp {vs : List Nat} (tk : TgOk cm X.K t vs g) {σ : L2.St} {H : Hp} {Q : VK} (h : tL cm X.K W (lLc mi g c e vs) σ H Q) : tLc (tG cm X.K W (rIt cm X.K) mi) t (tT cm X.K W0 c) (tE cm X.K W0 e) vs σ H Q := by
  obtain ⟨F, S, e1, e2, R, h⟩ := h
  refine lc_read tk ⟨F, S, e1, e2, R, ?_⟩
  unfold lLc at h
  cases hm : mi S with
  | bad => rw [hm] at h; exact h
  | exc c0 fs S1 => rw [hm] at h; exact h
  | ok ds S1 =>
    rw [hm, Rs.bind_ok] at h
    intro F1 J H1 R1 s1 p1 t1
    refine ⟨F1, ds, S1, t1.cm.trans e1, t1.K.trans e2, R1, p1, ?_⟩
    cases hl : loopC g c e vs ds [] (wipeS S1 vs) with
    | bad => rw [hl] at h; exact h.elim
    | exc _ _ _ => exact absurd hl (loopC_calm _ _ _ _ _ _ _)
    | ok acc S2 =>
      rw [hl] at h
      refine ⟨acc, S2, rfl, fun D us H2 Fx hD tx R2 s2 r2 => ?_⟩
      obtain ⟨Rc, ev, eD⟩ := Rel.cut R1 hD tx R2
      have tu := tx.unh (R1.freshM hD)
      have z := h D us (cutH H2 D) Rc (by rw [ev]; exact s1.trans s2) (by unfold cutH; rw [if_pos rfl]) (by rw [ev, tu.cm, t1.cm, tu.K, t1.K, e1, e2]; exact r2) (t1.trans tu)
      rw [cutH_upd eD] at z
      exact z
theorem gs_setLcF {i : Nat} {y : Str} {py spos : Pos} (hc : X.calm = true) (hN : X.N.Nodup) (hy : X.N[i]? = some y) (hyl : X.env.scope.names.lookup y = some .local)
    (hi : PI X tg iter (tG cm X.K W (rIt cm X.K) mi)) (ok : BlkOk X.N X.env.scope scope own) (tk : TgOk cm X.K t (own.map (·.2)) g)
    (hg : ∀ (s : Shared) (H : Hp) (C : Addr) (cl : List (Str × Addr)) (fp : List Addr), PG (X.blk s H scope (compEnvC scope cl C X.env) fp) tg t)
    (ht : ∀ (s : Shared) (H : Hp) (C : Addr) (cl : List (Str × Addr)) (fp : List Addr), PTs (X.blk s H scope (compEnvC scope cl C X.env) fp) ifs (tT cm X.K W0 c))
    (he : ∀ (s : Shared) (H : Hp) (C : Addr) (cl : List (Str × Addr)) (fp : List Addr), PE (X.blk s H scope (compEnvC scope cl C X.env) fp) elt (tE cm X.K W0 e)) (hs : ∀ x, foldedSetIterable iter X.env x = pure x := by intro _; rfl)
    (hsw : swapsWith (.ListComp elt [⟨tg, iter, ifs, 0⟩] scope pos) (some (.Name y py)) spos.line X.env = pure true := by rfl) :
    PS X (.Assign [.Name y py] (.ListComp elt [⟨tg, iter, ifs, 0⟩] scope pos) spos) (tS cm X.K W (mSetF i (lLc mi g c e (own.map (·.2))))) :=
  PS.weak (ps_setLc hc hN hy hyl hsw hi ok hg ht he hs) fun D σ H ⟨F, S, e1, e2, R, h⟩ => lcL_imp tk (by
    refine ⟨F, S, e1, e2, R, ?_⟩
    unfold mSetF at h
    cases hm : lLc mi g c e (own.map (·.2)) S with
    | bad => rw [hm] at h; exact h
    | exc c fs S1 => rw [hm] at h; exact h σ
    | ok ds S1 =>
      rw [hm] at h
      intro F1 l xs H1 R1 s1 hl rx t1
      obtain ⟨R', s'⟩ := R1.newLoc (i := i) (ds := ds) hl rx
      exact h _ _ R' (s1.trans s') t1)
end
end Mir
/-! MirU: native functions: how a mirror runs, told by equations; codes of native values -/
namespace Mir
open PySem L2
/-! ### codes -/
abbrev eI : Int → Dat := Dat.int
abbrev eB : Bool → Dat := Dat.bl
abbrev eS : Str → Dat := Dat.str
abbrev eU : Unit → Dat := fun _ => .non
abbrev eD : Dat → Dat := fun d => d
abbrev eL {α : Type} (f : α → Dat) (xs : List α) : Dat := .lst (xs.map f)
abbrev eT {α : Type} (f : α → Dat) (xs : List α) : Dat := .tup (xs.map f)
abbrev eR {α : Type} (f : α → Dat) (xs : List α) : Dat := .ro (xs.map f)
def eO {α : Type} (f : α → Dat) : Option α → Dat
  | none => .non
  | some a => f a
abbrev e1 {α : Type} (f : α → Dat) (p : α) : Dat := .tup [f p]
abbrev e2 {α β : Type} (f : α → Dat) (g : β → Dat) (p : α × β) : Dat := .tup [f p.1, g p.2]
abbrev e3 {α β γ : Type} (f : α → Dat) (g : β → Dat) (h : γ → Dat) (p : α × β × γ) : Dat := .tup [f p.1, g p.2.1, h p.2.2]
abbrev e4 {α β γ δ : Type} (f : α → Dat) (g : β → Dat) (h : γ → Dat) (i : δ → Dat) (p : α × β × γ × δ) : Dat := .tup [f p.1, g p.2.1, h p.2.2.1, i p.2.2.2]
theorem bind_some {α β : Type} {o : Option α} {k : α → Option β} {b : β} (h : o.bind k = some b) : ∃ a, o = some a ∧ k a = some b := by
  cases o with
  | none => cases h
  | some a => exact ⟨a, rfl, h⟩
theorem ite_some {α : Type} {t : Bool} {x y : Option α} {a : α} (h : (if t = true then x else y) = some a) : (t = true ∧ x = some a) ∨ (t = false ∧ y = some a) := by
  cases t with
  | true => exact .inl ⟨rfl, h⟩
  | false => exact .inr ⟨rfl, h⟩
section
variable {α β γ : Type} {S S1 S2 S3 S4 : Sg} {a b c d d' : Dat} {ma mb : ME} {mr : MA} {g g' : Dat → Dat → Option Dat} {i j : Nat}
theorem x_eq (h : ma S = .ok d S1) (e : d = d') : ma S = .ok d' S1 := by rw [h, e]
theorem x_C : mC d S = .ok d S := rfl
theorem x_var (h : S[i]? = some (.dat d)) : mVar i S = .ok d S := by unfold mVar; rw [h]
theorem x_varL {ds : List Dat} (h : S[i]? = some (.loc ds)) (h2 : S.set i (.dat (.lst ds)) = S1) : mVar i S = .ok (.lst ds) S1 := by unfold mVar; rw [h, ← h2]
theorem x_2 (ha : ma S = .ok a S1) (hb : mb S1 = .ok b S2) (h : g a b = some c) : m2 g ma mb S = .ok c S2 := by
  unfold m2; rw [ha, Rs.bind_ok, hb, Rs.bind_ok, h]; rfl
theorem x_1 {f : Dat → Option Dat} (ha : ma S = .ok a S1) (h : f a = some c) : m1 f ma S = .ok c S1 := by
  unfold m1; rw [ha, Rs.bind_ok, h]; rfl
theorem x_nil : mNil S = .ok [] S := rfl
theorem x_cons {ds : List Dat} (ha : ma S = .ok a S1) (hr : mr S1 = .ok ds S2) : mCons ma mr S = .ok (a :: ds) S2 := by
  unfold mCons; rw [ha, Rs.bind_ok, hr]; rfl
theorem x_call {f : List Dat → Option Dat} {ds : List Dat} (hr : mr S = .ok ds S1) (h : f ds = some c) : mCall f mr S = .ok c S1 := by
  unfold mCall; rw [hr, Rs.bind_ok, h]; rfl
theorem x_lst {ds : List Dat} (hr : mr S = .ok ds S1) (h : ds.length ≤ lim) : mLst mr S = .ok (.lst ds) S1 := x_call hr (by unfold mkLst; rw [if_pos h])
theorem x_tup {ds : List Dat} (hr : mr S = .ok ds S1) (h : ds.length ≤ lim) : mTup mr S = .ok (.tup ds) S1 := x_call hr (by unfold mkTup; rw [if_pos h])
theorem x_ifP {ct : MT} {t : Bool} {f : α → Dat} {x y : α} (hc : ct S = .ok t S1) (ha : ma S1 = .ok (f x) S2) (hb : mb S1 = .ok (f y) S2) : mIf ct ma mb S = .ok (f (if t = true then x else y)) S2 := by
  unfold mIf; rw [hc, Rs.bind_ok]; cases t <;> simp [ha, hb]
theorem x_andQ {x : Bool} {val : α → Bool} {st : α → Sg} {nB : Option α} {v v0 : α} (ha : ma S = .ok (.bl x) S1) (hb : ∀ v, nB = some v → mb S1 = .ok (.bl (val v)) (st v)) (h0 : val v0 = false) (h1 : st v0 = S1) (h : (if x = true then nB else some v0) = some v) : mAnd ma mb S = .ok (.bl (val v)) (st v) := by
  unfold mAnd; rw [ha, Rs.bind_ok]
  cases x with
  | true => exact hb v h
  | false => cases h; rw [h0, h1]
theorem x_not {x : Bool} (ha : ma S = .ok (.bl x) S1) : mNot ma S = .ok (.bl (!x)) S1 := by unfold mNot; rw [ha]; rfl
theorem t_truth {x : Bool} (ha : ma S = .ok (.bl x) S1) : cTruth ma S = .ok x S1 := by unfold cTruth; rw [ha]; rfl
theorem t_andQ {ca cb : MT} {x : Bool} {val : α → Bool} {st : α → Sg} {nB : Option α} {v v0 : α} (ha : ca S = .ok x S1) (hb : ∀ v, nB = some v → cb S1 = .ok (val v) (st v)) (h0 : val v0 = false) (h1 : st v0 = S1) (h : (if x = true then nB else some v0) = some v) : cAnd ca cb S = .ok (val v) (st v) := by
  unfold cAnd; rw [ha, Rs.bind_ok]
  cases x with
  | true => exact hb v h
  | false => cases h; rw [h0, h1]; rfl
theorem t_orQ {ca cb : MT} {x : Bool} {val : α → Bool} {st : α → Sg} {nB : Option α} {v v0 : α} (ha : ca S = .ok x S1) (hb : ∀ v, nB = some v → cb S1 = .ok (val v) (st v)) (h0 : val v0 = true) (h1 : st v0 = S1) (h : (if x = true then some v0 else nB) = some v) : cOr ca cb S = .ok (val v) (st v) := by
  unfold cOr; rw [ha, Rs.bind_ok]
  cases x with
  | true => cases h; rw [h0, h1]; rfl
  | false => exact hb v h
theorem t_not {ca : MT} {x : Bool} (ha : ca S = .ok x S1) : cNot ca S = .ok (!x) S1 := by unfold cNot; rw [ha]; rfl
theorem x_chain {x y : Bool} {mc : ME} {w : Dat} (ha : ma S = .ok a S1) (hb : mb S1 = .ok b S2) (hc : mc S2 = .ok w S2) (h1 : g a b = some (.bl x)) (h2 : g' b w = some (.bl y)) : mChain g g' ma mb mc S = .ok (.bl (x && y)) S2 := by
  unfold mChain; rw [ha, Rs.bind_ok, hb, Rs.bind_ok, h1, Rs.of_some, Rs.bind_ok]
  cases x with
  | true => simp only [hc, Rs.bind_ok, h2, Rs.of_some, Bool.true_and]
  | false => rfl
/-! lists that the def changes -/
theorem x_ixS {ds : List Dat} (hm : isMut i S = true) (hi : ma S = .ok b S1) (hl : listAt i S1 = some ds) (h : ixD (.lst ds) b = some c) : mIxS i ma S = .ok c S1 := by
  unfold mIxS; rw [if_pos hm, hi, Rs.bind_ok]; simp only [hl, h, Rs.of_some]
theorem x_callP {f : List Dat → Option Dat} {ds : List Dat} (hm : isMut i S = true) (hl : listAt i S = some ds) (h : f [.lst ds] = some c) (hs : scal c = true) : mCallP f i S = .ok c S := by
  unfold mCallP; rw [if_pos hm]; simp only [hl, h, hs]; rfl
/-! calls of defs -/
theorem v_nil : vNil S = .ok [] S := rfl
theorem v_dat {m : MAv} {as : List AV} (ha : ma S = .ok a S1) (hr : m S1 = .ok as S2) : vDat ma m S = .ok (.dat a :: as) S2 := by unfold vDat; rw [ha, Rs.bind_ok, hr]; rfl
theorem v_slot {m : MAv} {as : List AV} (hm : isLent i S = true) (hr : m S = .ok as S2) : vSlot i m S = .ok (.slot i :: as) S2 := by unfold vSlot; rw [if_pos hm, hr]; rfl
theorem x_apply {Fn : List FA → RF} {as : List AV} {fs : List FA} {is : List Nat} {outs : List Own} (hf : fetch S as = some (fs, is)) (nd : nodupB is = true) (hF : Fn fs = .ok d outs) (hw : wb S is outs = some S1) : applyF Fn as S = .ok d S1 := by
  unfold applyF; simp only [hf, nd, if_true, hF, hw]
theorem x_callF {Fn : List FA → RF} {n m : Nat} {arr : List AV → List AV → List AV} {mA mK : MAv} {as bs : List AV} {fs : List FA} {is : List Nat} {outs : List Own} (ha : mA S = .ok as S1) (hk : mK S1 = .ok bs S2) (hl : as.length = n ∧ bs.length = m) (hf : fetch S2 (arr as bs) = some (fs, is)) (nd : nodupB is = true) (hF : Fn fs = .ok d outs) (hw : wb S2 is outs = some S3) : mCallF Fn n m arr mA mK S = .ok d S3 := by
  unfold mCallF; rw [ha, Rs.bind_ok, hk, Rs.bind_ok, if_pos hl]; exact x_apply hf nd hF hw
theorem fetch_dats {S : Sg} : ∀ {as : List AV} {fs : List FA}, datsOf as = some fs → fetch S as = some (fs, [])
  | [], _, h => by cases h; rfl
  | .dat d :: as, fs, h => by
    unfold datsOf at h
    cases hd : datsOf as with
    | none => rw [hd] at h; cases h
    | some q =>
      rw [hd] at h
      cases h
      unfold fetch
      rw [fetch_dats hd]
  | .slot i :: as, _, h => by cases h
theorem x_makeS {cn : Str} {Fn : List FA → RF} {n m : Nat} {arr : List AV → List AV → List AV} {mA mK : MAv} {as bs : List AV} {fs : List FA} {is : List Nat} {outs : List Own} {gs : List (Str × Dat)} (ha : mA S = .ok as S1) (hk : mK S1 = .ok bs S2) (hl : as.length = n ∧ bs.length = m) (hf : fetch S2 (arr as bs) = some (fs, is)) (hn : nodupB is = true) (hF : Fn (.own (.obj cn []) :: fs) = .ok .non (.obj cn gs :: outs)) (hw : wb S2 is outs = some S3) : mMake cn Fn n m arr mA mK S = .ok (.ins cn gs) S3 := by
  unfold mMake; rw [ha, Rs.bind_ok, hk, Rs.bind_ok, if_pos hl]; simp only [makeF, hf, hn, hF, hw, if_true]
theorem x_make {cn : Str} {Fn : List FA → RF} {n m : Nat} {arr : List AV → List AV → List AV} {mA mK : MAv} {as bs : List AV} {fs : List FA} {gs : List (Str × Dat)} (ha : mA S = .ok as S1) (hk : mK S1 = .ok bs S2) (hl : as.length = n ∧ bs.length = m) (hf : datsOf (arr as bs) = some fs) (hF : Fn (.own (.obj cn []) :: fs) = .ok .non [.obj cn gs]) : mMake cn Fn n m arr mA mK S = .ok (.ins cn gs) S2 :=
  x_makeS ha hk hl (fetch_dats hf) rfl hF rfl
theorem x_fstr {ms : List ME} {x : Str} (h : joinM ms Str.empty S = .ok x S1) : mFStr ms S = .ok (.str x) S1 := by unfold mFStr; rw [h]; rfl
theorem j_cons {ms : List ME} {acc y z : Str} (ha : ma S = .ok (.str y) S1) (hl : (acc ++ y).length ≤ sizeLine) (hr : joinM ms (acc ++ y) S1 = .ok z S2) : joinM (ma :: ms) acc S = .ok z S2 := by
  unfold joinM; rw [ha, Rs.bind_ok]; simp only [hl, if_true]; exact hr
/-! new lists -/
theorem l_lst {ds : List Dat} (h : mr S = .ok ds S1) (hl : ds.length ≤ lim) : lLst mr S = .ok ds S1 := by unfold lLst; rw [h, Rs.bind_ok, if_pos hl]
theorem l_call {L : List Dat → Option (List Dat)} {n : Nat} {mA : MAv} {as : List AV} {ds es : List Dat} (ha : mA S = .ok as S1) (hl : as.length = n) (hd : datsA as = some ds) (h : L ds = some es) : lCall L n mA S = .ok es S1 := by
  unfold lCall; rw [ha, Rs.bind_ok, if_pos hl]; simp only [hd, h]; rfl
/-! ### statements: P of what a def's body, or a loop's body, ends with -/
variable {P : Rs Fl → Prop} {m m' rest : MS}
theorem s_last (k : P (mSeq m mNext S)) : P (m S) := by
  have e : mSeq m mNext S = m S := by
    unfold mSeq mNext
    cases m S with
    | ok f S1 => cases f <;> rfl
    | _ => rfl
  rw [← e]; exact k
theorem s_assoc (k : P (mSeq m (mSeq m' rest) S)) : P (mSeq (mSeq m m') rest S) := by
  have e : mSeq (mSeq m m') rest S = mSeq m (mSeq m' rest) S := by
    unfold mSeq
    cases h : m S with
    | ok f S1 => cases f <;> rfl
    | _ => rfl
  rw [e]; exact k
theorem s_run (h : m S = .ok .nx S1) (k : P (rest S1)) : P (mSeq m rest S) := by
  have e : mSeq m rest S = rest S1 := by unfold mSeq; rw [h]
  rw [e]; exact k
theorem s_out {r : Rs Fl} (h : m S = r) (hr : ∀ S1, r ≠ .ok .nx S1) (k : P r) : P (mSeq m rest S) := by
  have e : mSeq m rest S = r := by
    unfold mSeq; rw [h]
    cases r with
    | ok f S1 =>
      cases f with
      | nx => exact absurd rfl (hr S1)
      | _ => rfl
    | _ => rfl
  rw [e]; exact k
theorem s_next (k : P (rest S)) : P (mSeq mNext rest S) := s_run rfl k
theorem s_ret (he : ma S = .ok d S1) (k : P (.ok (.rt d) S1)) : P (mSeq (mRet ma) rest S) := s_out (r := .ok (.rt d) S1) (by unfold mRet; rw [he]; rfl) (fun _ h => by cases h) k
theorem s_asg (he : ma S = .ok d S1) (hS : S1.set i (.dat d) = S2) (k : P (rest S2)) : P (mSeq (mAsg ma (gNm i)) rest S) := s_run (by unfold mAsg gNm; rw [he, Rs.bind_ok, Rs.bind_ok, hS]) k
theorem s_asgG {gt : MG} (he : ma S = .ok d S1) (hg : gt d S1 = .ok () S2) (k : P (rest S2)) : P (mSeq (mAsg ma gt) rest S) := s_run (by unfold mAsg; rw [he, Rs.bind_ok, hg]; rfl) k
theorem s_drop (he : ma S = .ok d S1) (k : P (rest S1)) : P (mSeq (mDrop ma) rest S) := s_run (by unfold mDrop; rw [he]; rfl) k
theorem s_if {ct : MT} {t : Bool} (hc : ct S = .ok t S1) (ha : t = true → P (mSeq m rest S1)) (hb : t = false → P (mSeq m' rest S1)) : P (mSeq (mIfS ct m m') rest S) := by
  have e : mSeq (mIfS ct m m') rest S = if t = true then mSeq m rest S1 else mSeq m' rest S1 := by
    unfold mSeq mIfS
    rw [hc, Rs.bind_ok]
    cases t <;> rfl
  rw [e]
  cases t with
  | true => exact ha rfl
  | false => exact hb rfl
theorem s_setF {mL : Sg → Rs (List Dat)} {ds : List Dat} (h : mL S = .ok ds S1) (hS : S1.set i (.loc ds) = S2) (k : P (rest S2)) : P (mSeq (mSetF i mL) rest S) := s_run (by unfold mSetF; rw [h, Rs.bind_ok, hS]) k
theorem s_par (h : mr S = .ok [a, b] S1) (hS : (S1.set i (.dat a)).set j (.dat b) = S2) (k : P (rest S2)) : P (mSeq (mPar i j mr) rest S) := s_run (by unfold mPar; rw [h, Rs.bind_ok]; simp only [hS]) k
theorem s_popL {ds : List Dat} (h : S[i]? = some (.loc ds)) (hl : ds.length ≠ 0) (hS : S.set i (.loc ds.dropLast) = S2) (k : P (rest S2)) : P (mSeq (mPop i) rest S) := s_run (by
  have m1 : isMut i S = true := by unfold isMut; rw [h]
  unfold mPop; rw [if_pos m1]
  unfold popAt
  simp only [h, hl, if_false, hS]) k
/-! targets -/
theorem g_tp {gs : MGs} {n : Nat} {ds : List Dat} (hn : ds.length = n) (h : gs ds S = .ok () S1) : gTpN n gs (.tup ds) S = .ok () S1 := by unfold gTpN gTp; simp only [hn, if_true, h]
theorem g_nl : gNl [] S = .ok () S := rfl
theorem g_cs {gt : MG} {gs : MGs} {ds : List Dat} (h : gt d S = .ok () S1) (hr : gs ds S1 = .ok () S2) : gCs gt gs (d :: ds) S = .ok () S2 := by unfold gCs; simp only []; rw [h, Rs.bind_ok, hr]
theorem g_fld {cs : List Str} {nm cn : Str} {k' : Nat} {gs : List (Str × Dat)} (h : S[i]? = some (.own k' (.obj cn gs))) (hc : cs.contains cn = true ∧ gs.length < 1000) (hS : S.set i (.own k' (.obj cn (putD nm d gs))) = S1) : gFld cs i nm d S = .ok () S1 := by
  unfold gFld stF; simp only [h]; rw [if_pos hc, hS]
/-! iterables -/
theorem i_its {f : List Dat → Option (List Dat)} {ds es : List Dat} (h : mr S = .ok ds S1) (hf : f ds = some es) : mIts f mr S = .ok es S1 := by unfold mIts; rw [h, Rs.bind_ok, hf]; rfl
theorem i_items {es : List Dat} (h : ma S = .ok a S1) (hf : itemsD a = some es) : mItems ma S = .ok es S1 := by unfold mItems; rw [h, Rs.bind_ok, hf]; rfl
end
/-! ### loops -/
inductive Stp (ρ σ : Type) where
  | nx (s : σ)
  | bk (s : σ)
  | rt (r : ρ)
/-- a loop that may break or return -/
def forL {ι ρ σ : Type} (b : ι → σ → Option (Stp ρ σ)) : List ι → σ → Option (Stp ρ σ)
  | [], s => some (.nx s)
  | x :: xs, s => (b x s).bind fun st => match st with
    | .nx s' => forL b xs s'
    | .bk s' => some (.nx s')
    | .rt r => some (.rt r)
/-- a loop that goes through -/
def foldO {ι σ : Type} (b : ι → σ → Option σ) : List ι → σ → Option σ
  | [], s => some s
  | x :: xs, s => (b x s).bind fun s' => foldO b xs s'
def LN {σ : Type} (T : σ → (Nat → Slot) → Sg) (s : σ) (r : Rs Fl) : Prop := ∃ j, r = .ok .nx (T s j) ∨ r = .ok .ct (T s j)
def LB {ρ σ : Type} (T : σ → (Nat → Slot) → Sg) (RT : ρ → Rs Fl → Prop) (st : Stp ρ σ) (r : Rs Fl) : Prop := match st with
  | .nx s => LN T s r
  | .bk s => ∃ j, r = .ok .bk (T s j)
  | .rt v => RT v r
def LE {ρ σ : Type} (T : σ → (Nat → Slot) → Sg) (RT : ρ → Rs Fl → Prop) (st : Stp ρ σ) (r : Rs Fl) : Prop := match st with
  | .nx s => ∃ j, r = .ok .nx (T s j)
  | .bk _ => False
  | .rt v => RT v r
theorem ln_nx {σ : Type} {T : σ → (Nat → Slot) → Sg} {s : σ} {S : Sg} (h : T s (fun i => S.getD i .no) = S) : LN T s (.ok .nx S) := ⟨_, .inl (by rw [h])⟩
theorem foldO_ok {ι σ : Type} {T : σ → (Nat → Slot) → Sg} {f : ι → Dat} {g : MG} {b : MS} {nb : ι → σ → Option σ}
    (hb : ∀ x s j s', nb x s = some s' → ∃ S1, g (f x) (T s j) = .ok () S1 ∧ LN T s' (b S1)) : ∀ (its : List ι) (s : σ) (j : Nat → Slot) (s' : σ), foldO nb its s = some s' → ∃ j', loopS g b (its.map f) (T s j) = .ok .nx (T s' j')
  | [], s, j, s', h => by cases h; exact ⟨j, rfl⟩
  | x :: xs, s, j, s', h => by
    obtain ⟨s1, h1, h2⟩ := bind_some h
    obtain ⟨S1, e1, j1, e2⟩ := hb x s j s1 h1
    obtain ⟨j2, e3⟩ := foldO_ok hb xs s1 j1 s' h2
    refine ⟨j2, ?_⟩
    rw [List.map_cons]
    unfold loopS
    rw [e1, Rs.bind_ok]
    rcases e2 with e2 | e2 <;> · rw [e2]; exact e3
theorem forL_ok {ι ρ σ : Type} {T : σ → (Nat → Slot) → Sg} {RT : ρ → Rs Fl → Prop} {f : ι → Dat} {g : MG} {b : MS} {nb : ι → σ → Option (Stp ρ σ)}
    (hR : ∀ v r, RT v r → ∃ d S, r = .ok (.rt d) S)
    (hb : ∀ x s j st, nb x s = some st → ∃ S1, g (f x) (T s j) = .ok () S1 ∧ LB T RT st (b S1)) : ∀ (its : List ι) (s : σ) (j : Nat → Slot) (st : Stp ρ σ), forL nb its s = some st → LE T RT st (loopS g b (its.map f) (T s j))
  | [], s, j, s', h => by cases h; exact ⟨j, rfl⟩
  | x :: xs, s, j, st, h => by
    obtain ⟨st1, h1, h2⟩ := bind_some h
    obtain ⟨S1, e1, e2⟩ := hb x s j st1 h1
    rw [List.map_cons]
    unfold loopS
    rw [e1, Rs.bind_ok]
    cases st1 with
    | nx s1 =>
      obtain ⟨j1, e2⟩ := e2
      have e3 := forL_ok hR hb xs s1 j1 st h2
      rcases e2 with e2 | e2 <;> · rw [e2]; exact e3
    | bk s1 =>
      obtain ⟨j1, e2⟩ := e2
      cases h2
      rw [e2]
      exact ⟨j1, rfl⟩
    | rt v =>
      cases h2
      obtain ⟨d, S2, e3⟩ := hR v _ e2
      have e4 : RT v (b S1) := e2
      rw [e3] at e4 ⊢
      exact e4
section
variable {S S1 S2 : Sg} {P : Rs Fl → Prop} {rest : MS}
theorem s_for {mi : Sg → Rs (List Dat)} {g : MG} {b : MS} {ds : List Dat} (h : mi S = .ok ds S1) (k : P (mSeq (loopS g b ds) rest S1)) : P (mSeq (mFor mi g b) rest S) := by
  have e : mSeq (mFor mi g b) rest S = mSeq (loopS g b ds) rest S1 := by unfold mSeq mFor; rw [h]; rfl
  rw [e]; exact k
end
/-! ### while -/
def whileF {σ : Type} (c : σ → Option Bool) (b : σ → Option σ) : Nat → σ → Option σ
  | 0, _ => none
  | n + 1, s => (c s).bind fun t => if t = true then (b s).bind fun s' => whileF c b n s' else some s
noncomputable def whileO {σ : Type} (c : σ → Option Bool) (b : σ → Option σ) (s : σ) : Option σ := open Classical in if h : ∃ n, whileF c b n s ≠ none then whileF c b (choose h) s else none
theorem whileF_mono {σ : Type} {c : σ → Option Bool} {b : σ → Option σ} : ∀ {n m : Nat} {s s' : σ}, n ≤ m → whileF c b n s = some s' → whileF c b m s = some s'
  | 0, _, _, _, _, h => by cases h
  | n + 1, 0, _, _, hm, _ => absurd hm (by omega)
  | n + 1, m + 1, s, s', hm, h => by
    unfold whileF at h ⊢
    obtain ⟨t, h1, h2⟩ := bind_some h
    rw [h1]
    show (if t = true then _ else _) = _
    cases t with
    | true =>
      obtain ⟨s1, h3, h4⟩ := bind_some h2
      have := whileF_mono (show n ≤ m by omega) h4
      simp only [if_true, h3]
      exact this
    | false => exact h2
theorem whileO_of {σ : Type} {c : σ → Option Bool} {b : σ → Option σ} {n : Nat} {s s' : σ} (h : whileF c b n s = some s') : whileO c b s = some s' := by
  unfold whileO
  have hx : ∃ n, whileF c b n s ≠ none := ⟨n, by rw [h]; simp⟩
  rw [dif_pos hx]
  have hc := Classical.choose_spec hx
  cases e : whileF c b (Classical.choose hx) s with
  | none => exact absurd e hc
  | some z =>
    have a := whileF_mono (Nat.le_max_left n (Classical.choose hx)) h
    have b := whileF_mono (Nat.le_max_right n (Classical.choose hx)) e
    rw [a] at b
    exact b.symm
theorem whileO_some {σ : Type} {c : σ → Option Bool} {b : σ → Option σ} {s s' : σ} (h : whileO c b s = some s') : ∃ n, whileF c b n s = some s' := by
  unfold whileO at h
  split at h
  · exact ⟨_, h⟩
  · cases h
theorem whileN_ok {σ : Type} {T : σ → (Nat → Slot) → Sg} {ct : MT} {b : MS} {nc : σ → Option Bool} {nb : σ → Option σ}
    (hc : ∀ s j t, nc s = some t → ct (T s j) = .ok t (T s j)) (hb : ∀ s j s', nb s = some s' → LN T s' (b (T s j))) : ∀ (n : Nat) (s : σ) (j : Nat → Slot) (s' : σ), whileF nc nb n s = some s' → ∃ j', whileN ct b n (T s j) = .ok .nx (T s' j')
  | 0, _, _, _, h => by cases h
  | n + 1, s, j, s', h => by
    unfold whileF at h
    obtain ⟨t, h1, h2⟩ := bind_some h
    have e1 := hc s j t h1
    unfold whileN
    rw [e1, Rs.bind_ok]
    cases t with
    | true =>
      obtain ⟨s1, h3, h4⟩ := bind_some h2
      obtain ⟨j1, e2⟩ := hb s j s1 h3
      obtain ⟨j2, e3⟩ := whileN_ok hc hb n s1 j1 s' h4
      refine ⟨j2, ?_⟩
      rw [if_pos rfl]
      rcases e2 with e2 | e2 <;> · rw [e2]; exact e3
    | false =>
      cases h2
      exact ⟨j, rfl⟩
theorem whileO_ok {σ : Type} {T : σ → (Nat → Slot) → Sg} {ct : MT} {b : MS} {nc : σ → Option Bool} {nb : σ → Option σ}
    (hc : ∀ s j t, nc s = some t → ct (T s j) = .ok t (T s j)) (hb : ∀ s j s', nb s = some s' → LN T s' (b (T s j))) (s : σ) (j : Nat → Slot) (s' : σ) (h : whileO nc nb s = some s') : ∃ j', mWhile ct b (T s j) = .ok .nx (T s' j') := by
  obtain ⟨n, hn⟩ := whileO_some h
  obtain ⟨j', e⟩ := whileN_ok hc hb n s j s' hn
  exact ⟨j', by rw [mWhile_of (n := n) (by rw [e]; simp), e]⟩
/-! ### comprehensions -/
/-- every item drawn from a state: none where the test says no -/
def lcS {ι α σ : Type} (nb : ι → σ → Option (Option α × σ)) : List ι → σ → Option (List α × σ)
  | [], s => some ([], s)
  | x :: xs, s => (nb x s).bind fun p => (lcS nb xs p.2).bind fun q => some (p.1.toList ++ q.1, q.2)
def mapS {ι α σ : Type} (nb : ι → σ → Option (α × σ)) : List ι → σ → Option (List α × σ)
  | [], s => some ([], s)
  | x :: xs, s => (nb x s).bind fun p => (mapS nb xs p.2).bind fun q => some (p.1 :: q.1, q.2)
def mapO {ι α : Type} (nb : ι → Option α) : List ι → Option (List α)
  | [] => some []
  | x :: xs => (nb x).bind fun p => (mapO nb xs).bind fun q => some (p :: q)
def lcO {ι α : Type} (nb : ι → Option (Option α)) : List ι → Option (List α)
  | [] => some []
  | x :: xs => (nb x).bind fun p => (lcO nb xs).bind fun q => some (p.toList ++ q)
def capL {α : Type} (xs : List α) : Option (List α) := if xs.length ≤ lim then some xs else none
theorem capL_some {α : Type} {xs ys : List α} (h : capL xs = some ys) : xs = ys ∧ ys.length ≤ lim := by
  unfold capL at h
  split at h
  · cases h; exact ⟨rfl, by assumption⟩
  · cases h
def capS {α σ : Type} (o : Option (List α × σ)) : Option (List α × σ) := o.bind fun p => if p.1.length ≤ lim then some p else none
def capO {α : Type} (o : Option (List α)) : Option (List α) := o.bind capL
section
variable {ι α σ : Type} {T : σ → Sg} {f : ι → Dat} {fo : α → Dat} {g : Dat → Sg → Option Sg} {c : MT} {e : ME} {vs : List Nat}
theorem loopC_lcS {nb : ι → σ → Option (Option α × σ)} (hb : ∀ x s p, nb x s = some p → ∃ S1, g (f x) (T s) = some S1 ∧ match p.1 with
      | none => ∃ S2, c S1 = .ok false S2 ∧ wipeS S2 vs = T p.2
      | some y => ∃ S2 S3, c S1 = .ok true S2 ∧ e S2 = .ok (fo y) S3 ∧ wipeS S3 vs = T p.2) : ∀ (its : List ι) (acc : List Dat) (s : σ) (ys : List α) (s' : σ), lcS nb its s = some (ys, s') → acc.length + ys.length ≤ lim → loopC g c e vs (its.map f) acc (T s) = .ok (acc ++ ys.map fo) (T s')
  | [], acc, s, ys, s', h, _ => by cases h; simp [loopC]
  | x :: xs, acc, s, ys, s', h, hl => by
    unfold lcS at h
    obtain ⟨⟨o, s1⟩, h1, h2⟩ := bind_some h
    obtain ⟨⟨qs, s2⟩, h3, h4⟩ := bind_some h2
    obtain ⟨rfl, rfl⟩ : o.toList ++ qs = ys ∧ s2 = s' := by
      have := Option.some.inj h4
      exact ⟨congrArg Prod.fst this, congrArg Prod.snd this⟩
    obtain ⟨S1, e1, e2⟩ := hb x s _ h1
    rw [List.map_cons]
    unfold loopC
    rw [e1, Rs.of_some, Rs.bind_ok]
    cases o with
    | none =>
      obtain ⟨S2, e3, e4⟩ := e2
      rw [e3, Rs.calm_ok, Rs.bind_ok, if_neg (by simp), e4]
      exact loopC_lcS hb xs acc s1 qs s2 h3 (by simpa using hl)
    | some y =>
      obtain ⟨S2, S3, e3, e4, e5⟩ := e2
      have hl2 : acc.length + (qs.length + 1) ≤ lim := by simpa using hl
      rw [e3, Rs.calm_ok, Rs.bind_ok, if_pos rfl, e4, Rs.calm_ok, Rs.bind_ok, if_pos (by omega), e5]
      have ih := loopC_lcS hb xs (acc ++ [fo y]) s1 qs s2 h3 (by simp; omega)
      rw [ih]
      simp
theorem lc_S {nb : ι → σ → Option (Option α × σ)} {mi : Sg → Rs (List Dat)} {S S1 : Sg} {its : List ι} {s s' : σ} {ys : List α} (hi : mi S = .ok (its.map f) S1) (hw : wipeS S1 vs = T s)
    (hb : ∀ x s p, nb x s = some p → ∃ S1, g (f x) (T s) = some S1 ∧ match p.1 with
      | none => ∃ S2, c S1 = .ok false S2 ∧ wipeS S2 vs = T p.2
      | some y => ∃ S2 S3, c S1 = .ok true S2 ∧ e S2 = .ok (fo y) S3 ∧ wipeS S3 vs = T p.2) (h : capS (lcS nb its s) = some (ys, s')) : lLc mi g c e vs S = .ok (ys.map fo) (T s') := by
  unfold capS at h
  obtain ⟨p, h1, h2⟩ := bind_some h
  split at h2
  · cases h2
    unfold lLc
    rw [hi, Rs.bind_ok, hw]
    have := loopC_lcS hb its [] s ys s' h1 (by simpa using by assumption)
    simpa using this
  · cases h2
theorem lcS_mapS {nb : ι → σ → Option (α × σ)} : ∀ (its : List ι) (s : σ), lcS (fun x s => (nb x s).bind fun p => some (some p.1, p.2)) its s = mapS nb its s
  | [], s => rfl
  | x :: xs, s => by
    unfold lcS mapS
    cases nb x s with
    | none => rfl
    | some p => simp [lcS_mapS xs p.2]
theorem lc_mapS {nb : ι → σ → Option (α × σ)} {mi : Sg → Rs (List Dat)} {S S1 : Sg} {its : List ι} {s s' : σ} {ys : List α} (hi : mi S = .ok (its.map f) S1) (hw : wipeS S1 vs = T s)
    (hb : ∀ x s p, nb x s = some p → ∃ S1 S3, g (f x) (T s) = some S1 ∧ e S1 = .ok (fo p.1) S3 ∧ wipeS S3 vs = T p.2) (h : capS (mapS nb its s) = some (ys, s')) : lLc mi g cYes e vs S = .ok (ys.map fo) (T s') := by
  refine lc_S (nb := fun x s => (nb x s).bind fun p => some (some p.1, p.2)) hi hw (fun x s p hp => ?_) (by rw [lcS_mapS]; exact h)
  obtain ⟨q, h1, h2⟩ := bind_some hp
  cases h2
  obtain ⟨S1, S3, a1, a2, a3⟩ := hb x s q h1
  exact ⟨S1, a1, S1, S3, rfl, a2, a3⟩
theorem lcS_lcO {nb : ι → Option (Option α)} : ∀ (its : List ι), lcS (σ := Unit) (fun x s => (nb x).bind fun p => some (p, ())) its () = (lcO nb its).bind fun ys => some (ys, ())
  | [] => rfl
  | x :: xs => by
    unfold lcS lcO
    cases nb x with
    | none => rfl
    | some p =>
      simp only [Option.bind_some]
      rw [lcS_lcO xs]
      cases lcO nb xs <;> rfl
theorem lc_O {nb : ι → Option (Option α)} {mi : Sg → Rs (List Dat)} {S S1 S0 : Sg} {its : List ι} {ys : List α} (hi : mi S = .ok (its.map f) S1) (hw : wipeS S1 vs = S0)
    (hb : ∀ x p, nb x = some p → ∃ S1, g (f x) S0 = some S1 ∧ match p with
      | none => ∃ S2, c S1 = .ok false S2 ∧ wipeS S2 vs = S0
      | some y => ∃ S2 S3, c S1 = .ok true S2 ∧ e S2 = .ok (fo y) S3 ∧ wipeS S3 vs = S0) (h : capO (lcO nb its) = some ys) : lLc mi g c e vs S = .ok (ys.map fo) S0 := by
  refine lc_S (σ := Unit) (T := fun _ => S0) (s := ()) (s' := ()) (nb := fun x s => (nb x).bind fun p => some (p, ())) hi hw (fun x s p hp => ?_) ?_
  · obtain ⟨q, h1, h2⟩ := bind_some hp
    cases h2
    exact hb x q h1
  · unfold capO at h
    obtain ⟨zs, h1, h2⟩ := bind_some h
    obtain ⟨rfl, h3⟩ := capL_some h2
    unfold capS
    rw [lcS_lcO, h1]
    simp [h3]
theorem lcO_mapO {nb : ι → Option α} : ∀ (its : List ι), lcO (fun x => (nb x).bind fun p => some (some p)) its = mapO nb its
  | [] => rfl
  | x :: xs => by
    unfold lcO mapO
    cases nb x with
    | none => rfl
    | some p => simp [lcO_mapO xs]
theorem lc_mapO {nb : ι → Option α} {mi : Sg → Rs (List Dat)} {S S1 S0 : Sg} {its : List ι} {ys : List α} (hi : mi S = .ok (its.map f) S1) (hw : wipeS S1 vs = S0)
    (hb : ∀ x p, nb x = some p → ∃ S1 S3, g (f x) S0 = some S1 ∧ e S1 = .ok (fo p) S3 ∧ wipeS S3 vs = S0) (h : capO (mapO nb its) = some ys) : lLc mi g cYes e vs S = .ok (ys.map fo) S0 := by
  refine lc_O (nb := fun x => (nb x).bind fun p => some (some p)) hi hw (fun x p hp => ?_) (by rw [lcO_mapO]; exact h)
  obtain ⟨q, h1, h2⟩ := bind_some hp
  cases h2
  obtain ⟨S1, S3, a1, a2, a3⟩ := hb x q h1
  exact ⟨S1, a1, S1, S3, rfl, a2, a3⟩
theorem lcO_map {F : ι → α} : ∀ (its : List ι), mapO (fun x => some (F x)) its = some (its.map F)
  | [] => rfl
  | x :: xs => by unfold mapO; simp [lcO_map xs]
theorem lc_map {F : ι → α} {mi : Sg → Rs (List Dat)} {S S1 S0 : Sg} {its : List ι} {ys : List α} (hi : mi S = .ok (its.map f) S1) (hw : wipeS S1 vs = S0)
    (hb : ∀ x, ∃ S1 S3, g (f x) S0 = some S1 ∧ e S1 = .ok (fo (F x)) S3 ∧ wipeS S3 vs = S0) (h : capL (its.map F) = some ys) : lLc mi g cYes e vs S = .ok (ys.map fo) S0 :=
  lc_mapO (nb := fun x => some (F x)) hi hw (fun x p hp => by cases hp; exact hb x) (by unfold capO; rw [lcO_map]; exact h)
end
theorem x_lc {mi : Sg → Rs (List Dat)} {g : Dat → Sg → Option Sg} {c : MT} {e : ME} {vs : List Nat} {S S1 : Sg} {ds : List Dat} (h : lLc mi g c e vs S = .ok ds S1) : mLc mi g c e vs S = .ok (.lst ds) S1 := by
  have e' : mLc mi g c e vs S = (lLc mi g c e vs S).bind fun acc S2 => .ok (.lst acc) S2 := by
    unfold mLc lLc
    cases mi S <;> rfl
  rw [e', h]; rfl
/-! ### native operations, and what the trees say -/
def ixN? {α : Type} (xs : List α) (i : Int) : Option α := L2.atI xs i
def mulN (a b : Int) : Option Int := if small64 a || small64 b then some (a * b) else none
def divN (a b : Int) : Option Int := if 0 < b ∧ b < 1073741824 then some (a / b) else none
def catN {α : Type} (xs ys : List α) : Option (List α) := if xs.length + ys.length ≤ lim then some (xs ++ ys) else none
def repN {α : Type} (xs : List α) (j : Int) : Option (List α) := if -(2 ^ 63) ≤ j ∧ j < 2 ^ 63 ∧ xs.length * j.toNat ≤ lim then some (List.replicate j.toNat xs).flatten else none
def popN {α : Type} (xs : List α) : Option (List α) := if xs.length = 0 then none else some xs.dropLast
def rangeI (a b : Int) : List Int := (List.range (b - a).toNat).map fun (k : Nat) => a + (k : Int)
def range1N (b : Int) : Option (List Int) := if -(2 ^ 62) ≤ b ∧ b < 2 ^ 62 then some (rangeI 0 b) else none
def range2N (a b : Int) : Option (List Int) := if -(2 ^ 62) ≤ a ∧ a < 2 ^ 62 ∧ -(2 ^ 62) ≤ b ∧ b < 2 ^ 62 then some (rangeI a b) else none
def enumN {α : Type} (n : Nat) : List α → List (Int × α)
  | [] => []
  | x :: xs => ((n : Int), x) :: enumN (n + 1) xs
theorem atI_map {α β : Type} (f : α → β) (xs : List α) (i : Int) : L2.atI (xs.map f) i = (L2.atI xs i).map f := by
  unfold L2.atI
  rw [List.length_map]
  cases L2.ixN xs.length i with
  | none => rfl
  | some k => simp
theorem q_ix {α : Type} {f : α → Dat} {xs : List α} {i : Int} {x : α} (h : ixN? xs i = some x) : ixD (eL f xs) (.int i) = some (f x) := by
  show L2.atI (xs.map f) i = _
  rw [atI_map, show L2.atI xs i = some x from h]; rfl
theorem q_mul {a b c : Int} (h : mulN a b = some c) : mulD (.int a) (.int b) = some (.int c) := by
  unfold mulN at h
  show mulI a b = _
  unfold mulI
  split at h
  · rename_i z; cases h; rw [if_pos z]
  · cases h
theorem q_div {a b c : Int} (h : divN a b = some c) : fdivD (.int a) (.int b) = some (.int c) := by
  unfold divN at h
  split at h
  · rename_i z; cases h; show (if 0 < b ∧ b < 1073741824 then _ else _) = _; rw [if_pos z]
  · cases h
theorem q_cat {α : Type} {f : α → Dat} {xs ys zs : List α} (h : catN xs ys = some zs) : addD (eL f xs) (eL f ys) = some (eL f zs) := by
  unfold catN at h
  split at h
  · rename_i z; cases h
    show (if (xs.map f).length + (ys.map f).length ≤ lim then _ else _) = _
    rw [List.length_map, List.length_map, if_pos z, ← List.map_append]
  · cases h
theorem map_flatten_rep {α β : Type} (f : α → β) (xs : List α) (n : Nat) : (List.replicate n (xs.map f)).flatten = ((List.replicate n xs).flatten).map f := by
  induction n with
  | zero => rfl
  | succ n ih => rw [List.replicate_succ, List.replicate_succ, List.flatten_cons, List.flatten_cons, List.map_append, ih]
theorem q_rep {α : Type} {f : α → Dat} {xs zs : List α} {j : Int} (h : repN xs j = some zs) : mulD (eL f xs) (.int j) = some (eL f zs) := by
  unfold repN at h
  split at h
  · rename_i z; cases h
    show (if -(2 ^ 63) ≤ j ∧ j < 2 ^ 63 ∧ (xs.map f).length * j.toNat ≤ lim then _ else _) = _
    rw [List.length_map, if_pos z, map_flatten_rep]
  · cases h
theorem q_max2 {a b : Int} : maxC [.int a, .int b] = some (.int (max a b)) := by
  show some (Dat.int (if b > a then b else a)) = _
  congr 2
  split <;> omega
theorem q_min2 {a b : Int} : minC [.int a, .int b] = some (.int (min a b)) := by
  show some (Dat.int (if b < a then b else a)) = _
  congr 2
  split <;> omega
theorem boolsOf_map : ∀ xs : List Bool, boolsOf (xs.map Dat.bl) = some xs
  | [] => rfl
  | x :: xs => by simp [boolsOf, boolsOf_map xs]
theorem q_all {xs : List Bool} : allC [eL eB xs] = some (.bl (xs.all id)) := by
  show (boolsOf (xs.map Dat.bl)).map _ = _; rw [boolsOf_map]; rfl
theorem q_len {α : Type} {f : α → Dat} {xs : List α} : lenC [eL f xs] = some (.int xs.length) := by
  show some (Dat.int ((xs.map f).length : Nat)) = _; rw [List.length_map]
theorem q_lenR {α : Type} {f : α → Dat} {xs : List α} : lenC [eR f xs] = some (.int xs.length) := by
  show some (Dat.int ((xs.map f).length : Nat)) = _; rw [List.length_map]
theorem q_eq {a b : Dat} {t : Bool} (h : eqB a b = some t) : eqD a b = some (.bl t) := by unfold eqD; rw [h]; rfl
theorem q_ne {a b : Dat} {t : Bool} (h : eqB a b = some t) : neD a b = some (.bl (!t)) := by unfold neD; rw [h]; rfl
theorem q_notN {α : Type} {f : α → Dat} {o : Option α} (hf : ∀ a, f a ≠ .non) : notND (eO f o) .non = some (.bl o.isSome) := by
  cases o with
  | none => rfl
  | some a =>
    show notND (f a) .non = _
    have := hf a
    unfold notND
    cases h : f a <;> first | rfl | exact absurd h this
theorem q_range1 {b : Int} {xs : List Int} (h : range1N b = some xs) : range1 [.int b] = some (xs.map eI) := by
  unfold range1N at h
  split at h
  · rename_i z; cases h
    show (if -(2 ^ 62) ≤ b ∧ b < 2 ^ 62 then _ else _) = _
    rw [if_pos z]
    unfold rangeI
    rw [List.map_map, show b - 0 = b by omega]
    rfl
  · cases h
theorem q_range2 {a b : Int} {xs : List Int} (h : range2N a b = some xs) : range2 [.int a, .int b] = some (xs.map eI) := by
  unfold range2N at h
  split at h
  · rename_i z; cases h
    show (if -(2 ^ 62) ≤ a ∧ a < 2 ^ 62 ∧ -(2 ^ 62) ≤ b ∧ b < 2 ^ 62 then _ else _) = _
    rw [if_pos z]
    unfold rangeI
    rw [List.map_map]
    rfl
  · cases h
theorem enumFrom_map {α : Type} {f : α → Dat} : ∀ (n : Nat) (xs : List α), enumFrom n (xs.map f) = (enumN n xs).map (e2 eI f)
  | _, [] => rfl
  | n, x :: xs => by simp [enumFrom, enumN, enumFrom_map (n + 1) xs]
theorem q_enum {α : Type} {f : α → Dat} {xs : List α} : enumD [eL f xs] = some ((enumN 0 xs).map (e2 eI f)) := by
  show some (enumFrom 0 (xs.map f)) = _; rw [enumFrom_map]
theorem q_pop {α : Type} {f : α → Dat} {xs ys : List α} (h : popN xs = some ys) : (xs.map f).length ≠ 0 ∧ (xs.map f).dropLast = ys.map f := by
  unfold popN at h
  split at h
  · cases h
  · rename_i z; cases h; exact ⟨by rw [List.length_map]; exact z, by rw [List.map_dropLast]⟩
theorem mul_l {a b : Int} (h : small64 a = true) : mulN a b = some (a * b) := by unfold mulN; rw [h]; rfl
theorem div_of {a b : Int} (h : 0 < b) (h2 : b < 1073741824) : divN a b = some (a / b) := if_pos ⟨h, h2⟩
theorem q_pow {a : Int} {j : Int} {n : Nat} (hn : j = (n : Int)) (h1 : n ≤ 1000000) (h2 : a.natAbs < 2 ^ 64) : powD (.int a) (.int j) = some (.int (a ^ n)) := by
  subst hn
  show (if 0 ≤ (n : Int) ∧ (n : Int) ≤ 1000000 ∧ a.natAbs < 2 ^ 64 then some (Dat.int (a ^ (n : Int).toNat)) else none) = _
  rw [if_pos ⟨by omega, by omega, h2⟩]
  rfl
section
variable {S S1 S2 S3 : Sg} {d : Dat} {ma : ME} {i : Nat} {P : Rs Fl → Prop} {m m' rest : MS}
theorem s_ifT {ct : MT} {t : Bool} (hc : ct S = .ok t S1) (ht : t = true) (k : P (mSeq m rest S1)) : P (mSeq (mIfS ct m m') rest S) := s_if hc (fun _ => k) (fun z => by rw [ht] at z; cases z)
theorem s_ifF {ct : MT} {t : Bool} (hc : ct S = .ok t S1) (ht : t = false) (k : P (mSeq m' rest S1)) : P (mSeq (mIfS ct m m') rest S) := s_if hc (fun z => by rw [ht] at z; cases z) (fun _ => k)
theorem s_popL' {ds ds' : List Dat} (h : S[i]? = some (.loc ds)) (hq : ds.length ≠ 0 ∧ ds.dropLast = ds') (hS : S.set i (.loc ds') = S2) (k : P (rest S2)) : P (mSeq (mPop i) rest S) := s_popL h hq.1 (by rw [hq.2]; exact hS) k
end
/-! ### ends -/
def Ends (k : Nat) (q : RF) (x : Rs Fl) : Prop := endF k x = q
def RTo {ρ : Type} (k : Nat) (res : ρ → RF) (v : ρ) (x : Rs Fl) : Prop := (∃ d S, x = .ok (.rt d) S) ∧ Ends k (res v) x
theorem rto {ρ : Type} {k : Nat} {res : ρ → RF} : ∀ v x, RTo k res v x → ∃ d S, x = .ok (.rt d) S := fun _ _ h => h.1
theorem rto_of {ρ : Type} {k : Nat} {res : ρ → RF} {v : ρ} {d : Dat} {S : Sg} (h : Ends k (res v) (.ok (.rt d) S)) : RTo k res v (.ok (.rt d) S) := ⟨⟨_, _, rfl⟩, h⟩
theorem f_run {np n : Nat} {m : MS} {as : List FA} {r : RF} {k : Nat} {S : Sg} (hl : as.length = np) (hk : nOwn as = k) (hS : mkSlots 0 as ++ List.replicate (n - np) .no = S) (h : Ends k r (m S)) : runDef np n m as = r := by
  unfold runDef; rw [if_pos hl, hk, hS]; exact h
def thenL {ρ σ τ : Type} (inj : ρ → τ) (o : Option (Stp ρ σ)) (k : σ → Option τ) : Option τ := o.bind fun st => match st with
  | .nx s => k s
  | .bk _ => none
  | .rt v => some (inj v)
theorem thenL_some {ρ σ τ : Type} {inj : ρ → τ} {o : Option (Stp ρ σ)} {k : σ → Option τ} {a : τ} (h : thenL inj o k = some a) : (∃ s, o = some (.nx s) ∧ k s = some a) ∨ (∃ v, o = some (.rt v) ∧ inj v = a) := by
  obtain ⟨st, h1, h2⟩ := bind_some h
  cases st with
  | nx s => exact .inl ⟨s, h1, h2⟩
  | bk s => cases h2
  | rt v => exact .inr ⟨v, h1, Option.some.inj h2⟩
/-! ### the draws -/
structure Rg where
  a : Int
  b : Int
  a0 : 0 ≤ a
  b0 : 0 ≤ b
  b1 : b < 2147483648
def Rg.ds (s : Rg) : List Dat := [.int s.a, .int s.b]
def Rg.own (s : Rg) : Own := .lst s.ds
def Rg.nb (s : Rg) : Int := (s.b * 48311 + 20011) % 2147483563
def Rg.val (s : Rg) (n : Int) : Int := if 0 < s.a then s.a % n else s.nb * s.nb % 2147483497 / 17 % n
def Rg.next (s : Rg) (n : Int) : Rg := if z : 0 < s.a ∧ 0 < n then ⟨s.a / n, s.b, Int.ediv_nonneg s.a0 (Int.le_of_lt z.2), s.b0, s.b1⟩ else ⟨s.a, s.nb, s.a0, Int.emod_nonneg _ (by decide), Int.lt_trans (Int.emod_lt_of_pos _ (by decide)) (by decide)⟩
theorem Rg.val0 (s : Rg) {n : Int} (h : 0 < n) : 0 ≤ s.val n := by
  unfold Rg.val
  split
  · exact Int.emod_nonneg _ (by omega)
  · exact Int.emod_nonneg _ (by omega)
theorem Rg.val1 (s : Rg) {n : Int} (h : 0 < n) : s.val n < n := by
  unfold Rg.val
  split
  · exact Int.emod_lt_of_pos _ h
  · exact Int.emod_lt_of_pos _ h
theorem small_of {i : Int} (h0 : 0 ≤ i) (h1 : i < 2147483648) : small64 i = true := by
  unfold small64
  simp only [Bool.and_eq_true, decide_eq_true_eq]
  omega
theorem nb_small (s : Rg) : small64 s.nb = true := small_of (Int.emod_nonneg _ (by decide)) (Int.lt_trans (Int.emod_lt_of_pos _ (by decide)) (by decide))
def drawN (s : Rg) (n : Int) : Option (Int × Rg) := if 0 < n ∧ n < 1073741824 then some (s.val n, s.next n) else none
/-- a draw -/
theorem drawN_of (s : Rg) {n : Int} (h : 0 < n) (h2 : n < 1073741824) : ∃ v s', drawN s n = some (v, s') ∧ 0 ≤ v ∧ v < n := ⟨_, _, if_pos ⟨h, h2⟩, s.val0 h, s.val1 h⟩
/-- a cell's source -/
def rngN (ns : List Int) (k : Nat) : Rg :=
  let c : Int := ns.getD k (7 * (k : Int) + 3)
  ⟨max 0 ((c.natAbs : Int) - 1000000000000000000), ((c.natAbs : Int) % 2147483549 + 1) * (2 * (k : Int) + 5) ^ 3 % 2147483543 + 1, by omega, by
    have := Int.emod_nonneg (((c.natAbs : Int) % 2147483549 + 1) * (2 * (k : Int) + 5) ^ 3) (show (2147483543 : Int) ≠ 0 by decide)
    omega, by
    have := Int.emod_lt_of_pos (((c.natAbs : Int) % 2147483549 + 1) * (2 * (k : Int) + 5) ^ 3) (show (0 : Int) < 2147483543 by decide)
    omega⟩
section
variable {S S1 S2 : Sg} {a b d : Dat} {ma mb : ME} {i : Nat} {P : Rs Fl → Prop} {rest : MS} {r : Rs Bool} {rd : Rs Dat}
theorem x_orF (ha : ma S = .ok (.bl false) S1) (hb : mb S1 = rd) : mOr ma mb S = rd := by unfold mOr; rw [ha, Rs.bind_ok]; exact hb
theorem g_fld' {cs : List Str} {nm cn : Str} {k' : Nat} {gs gs' : List (Str × Dat)} (h : S[i]? = some (.own k' (.obj cn gs))) (hc : cs.contains cn = true ∧ gs.length < 1000) (hp : putD nm d gs = gs') (hS : S.set i (.own k' (.obj cn gs')) = S1) : gFld cs i nm d S = .ok () S1 := g_fld h hc (by rw [hp]; exact hS)
theorem ma_eq2 {mr : MA} {a' b' : Dat} (h : mr S = .ok [a, b] S1) (e1 : a = a') (e2 : b = b') : mr S = .ok [a', b'] S1 := by rw [h, e1, e2]
theorem s_rto {ρ : Type} {k : Nat} {res : ρ → RF} {v : ρ} {m : MS} (h : RTo k res v (m S)) (hp : P (m S)) : P (mSeq m rest S) := by
  obtain ⟨d, S2, e⟩ := h.1
  exact s_out (r := m S) rfl (fun S3 z => by rw [e] at z; cases z) hp
end
/-! texts -/
def fcat : Str → List Str → Option Str
  | acc, [] => some acc
  | acc, y :: ys => if (acc ++ y).length ≤ sizeLine then fcat (acc ++ y) ys else none
theorem j_nilN {S : Sg} {acc z : Str} (h : fcat acc [] = some z) : joinM [] acc S = .ok z S := by cases h; rfl
theorem j_consN {S S1 S2 : Sg} {ma : ME} {ms : List ME} {acc y z : Str} {ys : List Str} (ha : ma S = .ok (.str y) S1) (h : fcat acc (y :: ys) = some z) (hr : fcat (acc ++ y) ys = some z → joinM ms (acc ++ y) S1 = .ok z S2) : joinM (ma :: ms) acc S = .ok z S2 := by
  unfold fcat at h
  split at h
  · rename_i w; exact j_cons ha w (hr h)
  · cases h
theorem q_fmtR {d : Dat} {s : Str} (h : reprS d = some s) : fmtR d = some (.str s) := by unfold fmtR; rw [h]; rfl
def isiB (tab : List (String × Bool)) (ct : List (Str × Bool)) (d : Dat) : Option Bool := match isiT tab ct d with
  | some (.bl b) => some b
  | _ => none
theorem q_isiB {tab : List (String × Bool)} {ct : List (Str × Bool)} {d : Dat} {t : Bool} (h : isiB tab ct d = some t) : isiT tab ct d = some (.bl t) := by
  unfold isiB at h
  split at h
  · rename_i b e; cases h; exact e
  · cases h
theorem lb_nx {ρ σ : Type} {T : σ → (Nat → Slot) → Sg} {RT : ρ → Rs Fl → Prop} {s : σ} {S : Sg} (h : T s (fun i => S.getD i .no) = S) : LB T RT (.nx s) (.ok .nx S) := ln_nx h
theorem le_nx {ρ σ : Type} {T : σ → (Nat → Slot) → Sg} {RT : ρ → Rs Fl → Prop} {s : σ} {r : Rs Fl} (h : LE T RT (.nx s) r) : ∃ j, r = .ok .nx (T s j) := h
theorem le_rt {ρ σ : Type} {T : σ → (Nat → Slot) → Sg} {RT : ρ → Rs Fl → Prop} {v : ρ} {r : Rs Fl} (h : LE T RT (.rt v) r) : RT v r := h
theorem q_powL {a j r : Int} {n : Nat} (hn : j = (n : Int)) (h1 : n ≤ 1000000) (h2 : a.natAbs < 2 ^ 64) (hr : a ^ n = r) : powD (.int a) (.int j) = some (.int r) := by rw [← hr]; exact q_pow hn h1 h2
end Mir
/-! MirV: the plain side: native operations at known values -/
namespace Mir
open PySem
/-- no proof by rfl: the kernel does not look into what is bound -/
theorem bnd {α β : Type} (x : α) (f : α → Option β) : (some x).bind f = f x := id (Option.bind_some x f)
section
variable {α β ι σ ρ : Type}
theorem ix_nat {xs : List α} {j : Nat} {v : α} (h : xs[j]? = some v) : ixN? xs (j : Int) = some v := L2.atI_nat h
theorem ix_of {xs : List α} {i : Int} (d : α) (h0 : 0 ≤ i) (h1 : i < xs.length) : ixN? xs i = some (xs.getD i.toNat d) := by
  obtain ⟨j, rfl⟩ : ∃ j : Nat, i = (j : Int) := ⟨i.toNat, by omega⟩
  have hj : j < xs.length := by omega
  refine ix_nat ?_
  rw [Int.toNat_natCast, List.getD_eq_getElem?_getD, List.getElem?_eq_getElem hj]
  rfl
theorem ix_getD {xs : List α} {j : Nat} (d : α) (h : j < xs.length) : ixN? xs (j : Int) = some (xs.getD j d) := by
  have := ix_of (i := (j : Int)) d (by omega) (by omega : (j : Int) < xs.length)
  rwa [Int.toNat_natCast] at this
theorem ix_neg {xs : List α} {k : Nat} (d : α) (h0 : 0 < k) (h : k ≤ xs.length) : ixN? xs (-(k : Int)) = some (xs.getD (xs.length - k) d) := by
  unfold ixN? L2.atI L2.ixN
  rw [if_neg (by omega), if_pos (by omega)]
  have hj : xs.length - k < xs.length := by omega
  rw [show (-(k : Int) + (xs.length : Int)).toNat = xs.length - k by omega, List.getD_eq_getElem?_getD, List.getElem?_eq_getElem hj]
  show xs[xs.length - k]? = _
  rw [List.getElem?_eq_getElem hj]
  rfl
theorem ix_last {xs : List α} (d : α) (h : 0 < xs.length) : ixN? xs (-1) = some (xs.getD (xs.length - 1) d) := ix_neg (k := 1) d (by omega) h
theorem ix_mem {xs : List α} {i : Int} (h0 : 0 ≤ i) (h1 : i < xs.length) : ∃ v, v ∈ xs ∧ ixN? xs i = some v := by
  obtain ⟨j, rfl⟩ : ∃ j : Nat, i = (j : Int) := ⟨i.toNat, by omega⟩
  have hj : j < xs.length := by omega
  exact ⟨xs[j], List.getElem_mem hj, ix_nat (List.getElem?_eq_getElem hj)⟩
theorem cap_of {xs : List α} (h : xs.length ≤ 1000000) : capL xs = some xs := if_pos h
theorem cat_of {xs ys : List α} (h : xs.length + ys.length ≤ 1000000) : catN xs ys = some (xs ++ ys) := if_pos h
theorem pop_of {xs : List α} (h : xs ≠ []) : popN xs = some xs.dropLast := if_neg (by intro z; exact h (List.length_eq_zero_iff.mp z))
theorem mul_of {a b : Int} (h0 : -9000000000000000000 ≤ a) (h1 : a ≤ 9000000000000000000) : mulN a b = some (a * b) := mul_l (by
  unfold small64
  simp only [Bool.and_eq_true, decide_eq_true_eq]
  omega)
theorem r1_of {b : Int} (h0 : -4000000000000000000 ≤ b) (h1 : b ≤ 4000000000000000000) : range1N b = some (rangeI 0 b) := if_pos ⟨by omega, by omega⟩
theorem r2_of {a b : Int} (h0 : -4000000000000000000 ≤ a) (h1 : a ≤ 4000000000000000000) (h2 : -4000000000000000000 ≤ b) (h3 : b ≤ 4000000000000000000) : range2N a b = some (rangeI a b) := if_pos ⟨by omega, by omega, by omega, by omega⟩
theorem rangeI_len (a b : Int) : (rangeI a b).length = (b - a).toNat := by unfold rangeI; simp
theorem mem_rangeI {a b x : Int} : x ∈ rangeI a b ↔ a ≤ x ∧ x < b := by
  unfold rangeI
  simp only [List.mem_map, List.mem_range]
  constructor
  · rintro ⟨k, hk, rfl⟩; omega
  · rintro ⟨h1, h2⟩; exact ⟨(x - a).toNat, by omega, by omega⟩
theorem rangeI_get {a b x : Int} {k : Nat} (h : (rangeI a b)[k]? = some x) : x = a + k ∧ a + k < b := by
  unfold rangeI at h
  rw [List.getElem?_map] at h
  cases e : (List.range (b - a).toNat)[k]? with
  | none => rw [e] at h; cases h
  | some j =>
    rw [e] at h
    cases h
    obtain ⟨h1, h2⟩ := List.getElem?_eq_some_iff.mp e
    simp at h1 h2
    subst h2
    exact ⟨rfl, by omega⟩
/-! loops -/
theorem foldO_cons (b : ι → σ → Option σ) (x : ι) (xs : List ι) (s : σ) : foldO b (x :: xs) s = (b x s).bind fun s' => foldO b xs s' := rfl
/-- by a count of rounds -/
theorem foldO_invN {b : ι → σ → Option σ} (I : Nat → σ → Prop) (its : List ι) (s : σ) (h : I 0 s) (st : ∀ k x s, its[k]? = some x → I k s → ∃ s', b x s = some s' ∧ I (k + 1) s') : ∃ s', foldO b its s = some s' ∧ I its.length s' := by
  have key : ∀ (n k : Nat) (s : σ), n = its.length - k → k ≤ its.length → I k s → ∃ s', foldO b (its.drop k) s = some s' ∧ I its.length s' := by
    intro n
    induction n with
    | zero =>
      intro k s hn hk hI
      have : k = its.length := by omega
      subst this
      exact ⟨s, by rw [List.drop_length]; rfl, hI⟩
    | succ n ih =>
      intro k s hn hk hI
      have hk2 : k < its.length := by omega
      obtain ⟨s1, e1, h1⟩ := st k its[k] s (List.getElem?_eq_getElem hk2) hI
      obtain ⟨s2, e2, h2⟩ := ih (k + 1) s1 (by omega) (by omega) h1
      refine ⟨s2, ?_, h2⟩
      rw [List.drop_eq_getElem_cons hk2, foldO_cons, e1]
      exact e2
  have := key its.length 0 s (by omega) (by omega) h
  rwa [List.drop_zero] at this
/-- a search -/
theorem forL_find {b : ι → Unit → Option (Stp ρ Unit)} {c : ι → Option ρ} : ∀ (its : List ι), (∀ x, x ∈ its → b x () = some (match c x with | none => .nx () | some r => .rt r)) → forL b its () = some (match its.findSome? c with | none => .nx () | some r => .rt r)
  | [], _ => rfl
  | x :: xs, h => by
    unfold forL
    rw [h x (List.mem_cons_self ..)]
    cases hc : c x with
    | none =>
      simp only [Option.bind_some, List.findSome?_cons, hc]
      exact forL_find xs fun y hy => h y (List.mem_cons_of_mem _ hy)
    | some r => simp only [Option.bind_some, List.findSome?_cons, hc]
theorem thenL_find {τ : Type} {inj : ρ → τ} {k : Unit → Option τ} (o : Option ρ) : thenL inj (some (match o with | none => Stp.nx () | some r => Stp.rt r)) k = match o with | none => k () | some r => some (inj r) := by
  cases o <;> rfl
/-! comprehensions -/
theorem mapO_of {nb : ι → Option α} {F : ι → α} : ∀ (its : List ι), (∀ x, x ∈ its → nb x = some (F x)) → mapO nb its = some (its.map F)
  | [], _ => rfl
  | x :: xs, h => by
    unfold mapO
    rw [h x (List.mem_cons_self ..), mapO_of xs fun y hy => h y (List.mem_cons_of_mem _ hy)]
    rfl
theorem capO_of {nb : ι → Option α} {F : ι → α} (its : List ι) (hl : its.length ≤ 1000000) (h : ∀ x, x ∈ its → nb x = some (F x)) : capO (mapO nb its) = some (its.map F) := by
  rw [mapO_of its h]
  show capL (its.map F) = _
  exact cap_of (by rw [List.length_map]; exact hl)
theorem lcO_of {nb : ι → Option (Option α)} {F : ι → Option α} : ∀ (its : List ι), (∀ x, x ∈ its → nb x = some (F x)) → lcO nb its = some (its.filterMap F)
  | [], _ => rfl
  | x :: xs, h => by
    unfold lcO
    rw [h x (List.mem_cons_self ..), lcO_of xs fun y hy => h y (List.mem_cons_of_mem _ hy)]
    cases hF : F x <;> simp [hF]
theorem capOF_of {nb : ι → Option (Option α)} {F : ι → Option α} (its : List ι) (hl : its.length ≤ 1000000) (h : ∀ x, x ∈ its → nb x = some (F x)) : capO (lcO nb its) = some (its.filterMap F) := by
  rw [lcO_of its h]
  show capL (its.filterMap F) = _
  exact cap_of (Nat.le_trans (List.length_filterMap_le ..) hl)
end
/-! greatest and least -/
/-! slices and sums -/
/-! texts of data -/
def Rpr (d : Dat) (k n : Nat) : Prop := ∃ p, toPy d = some p ∧ p.showable = true ∧ p.hasDict = false ∧ p.depth ≤ k ∧ p.shown.length ≤ n
def RprL (ds : List Dat) (k n : Nat) : Prop := ∃ ps, toPyAll ds = some ps ∧ PyData.showableAll ps = true ∧ PyData.hasDictAll ps = false ∧ PyData.depthAll ps ≤ k ∧ ((PyData.shownAll ps).map (·.length)).sum + 2 * ps.length ≤ n
theorem Rpr.up {d : Dat} {k n k' n' : Nat} (h : Rpr d k n) (h1 : k ≤ k') (h2 : n ≤ n') : Rpr d k' n' := by
  obtain ⟨p, a, b, c, e, f⟩ := h
  exact ⟨p, a, b, c, Nat.le_trans e h1, Nat.le_trans f h2⟩
theorem rpr_int {i : Int} {m : Nat} (hm : 0 < m) (hm2 : m ≤ 500) (h : i.natAbs < 10 ^ m) : Rpr (.int i) 0 (m + 1) := by
  refine ⟨.int i, by simp [toPy], ?_, by simp only [PyData.hasDict], by simp only [PyData.depth]; omega, ?_⟩
  · simp only [PyData.showable, decide_eq_true_eq]
    by_cases hz : i.natAbs = 0
    · rw [hz]; decide
    · refine (Nat.log2_lt hz).mpr (Nat.lt_of_lt_of_le h (Nat.le_trans (Nat.pow_le_pow_right (by decide) hm2) ?_))
      decide
  · have e := int_text_length_le10 hm h
    show (Str.ofString (toString i)).length ≤ m + 1
    rw [ofString_length]; exact e
theorem RprL.up {ds : List Dat} {k n k' n' : Nat} (h : RprL ds k n) (h1 : k ≤ k') (h2 : n ≤ n') : RprL ds k' n' := by
  obtain ⟨p, a, b, c, e, f⟩ := h
  exact ⟨p, a, b, c, Nat.le_trans e h1, Nat.le_trans f h2⟩
theorem repr_of {d : Dat} {k n : Nat} (h : Rpr d k n) (h1 : k ≤ 60) (h2 : n ≤ 16777216) : ∃ z, reprS d = some z := by
  obtain ⟨p, a, b, c, e, f⟩ := h
  refine ⟨p.shown, ?_⟩
  unfold reprS
  rw [a]
  show showP p = _
  unfold showP
  rw [if_pos]
  simp only [b, c, Bool.true_and, Bool.not_false, Bool.and_eq_true, decide_eq_true_eq]
  exact ⟨Nat.le_trans e h1, Nat.le_trans f h2⟩
/-! draws -/
theorem draw_of (s : Rg) {n : Int} (h : 0 < n) (h2 : n < 1000000000) : ∃ v s', drawN s n = some (v, s') ∧ 0 ≤ v ∧ v < n := drawN_of s h (by omega)
/-! equality of data -/
end Mir
/-! MirW: a + x and x + a, x a list that the def changes; e[::-1] -/
namespace Mir
open PySem L2
section
variable {X : Cx} {cm : CM} {W : WX} {a b o : Expr} {ma mb : ME} {pos p1 p2 p3 : Pos}
def catDD : Dat → Dat → Option Dat
  | .lst xs, .lst ys => if xs.length + ys.length ≤ lim then some (.lst (xs ++ ys)) else none
  | _, _ => none
theorem catDD_some {x y d : Dat} (h : catDD x y = some d) : ∃ xs ys, x = .lst xs ∧ y = .lst ys ∧ xs.length + ys.length ≤ lim ∧ d = .lst (xs ++ ys) := by
  unfold catDD at h
  split at h
  · rename_i xs ys
    split at h
    · rename_i z
      have e := Option.some.inj h
      exact ⟨xs, ys, rfl, rfl, z, e.symm⟩
    · exact nomatch h
  · exact nomatch h
end
/-! native -/
/-! own == and repr -/
end Mir
/-! MirX: exceptions of the program: made, raised, caught -/
namespace Mir
open PySem PySem.Spec PyProof.Rows L2
section
variable {X : Cx} {cm : CM} {W : WX} {k : Nat} {f : Addr} {fd : FuncData} {ps : List Str}
/-- C(us), C an own exception over ValueError, its __init__ walked as a def -/
theorem run_mkX {sp : Sp} {C : Addr} {pins : List (Addr × Obj)} {σ : L2.St} {H : Hp} {s : Shared} {Q : XK} {us : List Value} {xs : Addr → List V} (T : OexC X.K C) (iC : PySem.W.findIn X.K (.ref C) "__init__" = some (some (.ref f))) (tI : PySem.W.typeIn X.K (.ref f) = some (.type "function"))
    (Fk : FnG X.prog X.w X.K X.mg X.base (L2.CX X.prog X.w) k f fd ps sp) (hr : Room (k + 1) X.A) (hgd : X.A.guards = some []) (tk : Takes X W) (I : L2.Inv X pins σ H s) (hul : us.length ≤ sizeLine)
    (hb : ∀ (s' : Shared) (a : Addr), X.K.In s'.heap → ∃ ys, BindsTo s' fd ⟨.ref a :: us, []⟩ (ps.zip ys) ∧ Vals (xs a) ys)
    (h : ∀ a, H a = none → sp (xs a) (upd H a (exo a C none)) (fun v H2 => v = .non ∧ ∃ d gs, H2 a = some (exo a C (some d)) ∧ H2 d = some (exd d gs) ∧ H d = none ∧ Q (.ref C) (some d) (upd (del H2 a) d (.xd gs))) (fun _ _ _ => False)) :
    wpAny (model X.prog X.w) X.A (call (.ref C) us) (MkP X pins σ Q) X.xe s := by
  obtain ⟨z1, z2, z3, z4, z5, z6, z7, z8, z9, z10, y0, y1, y2, y3, y5, look, tail⟩ := T.cls
  obtain ⟨h0, g0, dr0, tk0, os0⟩ := s
  have new0 : h0.objs.size ≤ h0.objs.size + 1 := Nat.le_succ _
  have hq := h (h0.objs.size + 1) (I.hok.fresh new0)
  have grown : ∀ b o, h0.get? b = some o → ((h0.push (PySem.W.kdv_tup us)).push (PySem.HandSPX.excO C h0.objs.size)).get? b = some o := fun b o q => Heap.get?_push_of_some _ (Heap.get?_push_of_some _ q)
  have there : ((h0.push (PySem.W.kdv_tup us)).push (PySem.HandSPX.excO C h0.objs.size)).get? (h0.objs.size + 1) = some (PySem.HandSPX.excO C h0.objs.size) := by heap_get
  have J : L2.Inv X pins σ (upd H (h0.objs.size + 1) (exo (h0.objs.size + 1) C none)) ⟨(h0.push (PySem.W.kdv_tup us)).push (PySem.HandSPX.excO C h0.objs.size), g0, dr0, tk0, os0⟩ :=
    I.laid (t' := tk0) (a := h0.objs.size + 1) (o := exo (h0.objs.size + 1) C none) grown new0 (exo_ok there)
  obtain ⟨ys, hbi, rel⟩ := hb _ (h0.objs.size + 1) J.kIn
  have gd : (X.A.under (.builtin "type.__call__" ⟨.ref C :: us, []⟩)).guards = some [] := by
    simp [Around.under, Code.guards, Code.isGuard, guardIds, hgd, pushGuards]
  refine wpAny_call (PySem.HandSPX.call_own F.excBase_ValueError (fun Y => PySem.HandSPX.refsVE_contains Y z5 tail) (I.kIn _ _ look) (PySem.W.looks_findIn I.kIn iC) (fun self => PySem.W.bind_fn I.kIn self tI) hul
    (codeAny_mono (Fk.run _ X.stack _ _ ⟨Value.ref (h0.objs.size + 1) :: us, []⟩ ys _ _ (fun _ _ _ => False) (hr.make C us []) gd (J.env0.make C us []) hbi rel hq) fun res s' hres => ?_))
  rcases res with er | fl
  · exact passes_call tk (E := fun _ _ _ => False) (fun _ _ _ _ z => z.elim) pins σ _ _ er s' J hres
  · rcases fl with _ | _ | _ | u
    · exact False.elim hres
    · exact False.elim hres
    · exact False.elim hres
    · obtain ⟨v, H2, os2, bare2, un2, hok2, rv, ev, d, gs, ea, ed, hd0, q2⟩ := hres
      subst ev
      obtain ⟨h2, g2, d2, t2, os'⟩ := s'
      exact ⟨rv, mk_end (raises_own T.exC T.tyC) I new0 grown un2 hok2 os2 bare2 ea ed hd0 q2⟩
/-! ### the promise of an exception's __init__ -/
def spX (cm : CM) (K : PySem.W.Frag) (C : Addr) (Fx : List Dat → Option (List (Str × Dat))) : Sp := fun vs H Q E => ∃ M a ws ds fs, vs = .ref a :: ws ∧ live M H ∧ a ∈ M ∧ H a = some (exo a C none) ∧ RpAll cm K (hid M H) ws ds ∧ Fx ds = some fs ∧
  ∀ d gs H', (∀ b o, b ≠ a → H b = some o → H' b = some o) → H d = none → H' a = some (exo a C (some d)) → H' d = some (exd d gs) → RpF cm K (hid (M.cons d) H') gs fs → Q .non H'
/-! ### raise -/
def mRaise (c : Str) (Fx : List Dat → Option (List (Str × Dat))) (n : Nat) (mr : MAv) : MS := fun S => (mr S).bind fun as S1 => if as.length = n then (match datsA as with
  | some ds => (match Fx ds with
    | some fs => .exc c fs S1
    | none => .bad)
  | none => .bad) else .bad
variable {c : Str} {x : Str} {e : Expr} {es : List Expr} {p pos pos2 : Pos} {n : Nat} {mr : MAv} {Fx : List Dat → Option (List (Str × Dat))}
theorem gs_raise (hcalm : X.calm = true) (T : OexC X.K (cm c)) (iC : PySem.W.findIn X.K (.ref (cm c)) "__init__" = some (some (.ref f))) (tI : PySem.W.typeIn X.K (.ref f) = some (.type "function"))
    (Fk : FnG X.prog X.w X.K X.mg X.base (L2.CX X.prog X.w) k f fd ps (spX cm X.K (cm c) Fx)) (hr : Room (k + 1) X.A) (hgd : X.A.guards = some []) (tk : Takes X W) (hg : Gl X x) (hm : X.mg x = some (.ref (cm c))) (hb : ∃ g, KBn X.K fd ps (n + 1) [] g (fun vs _ => vs)) (hn : n ≤ 1000)
    (ha : PA X (e :: es) (tAv cm X.K W mr)) (hdb : (x == ("__debug__" : Str)) = false := by decide) (he : starEach (e :: es) X.env = (false, eval e X.env) :: starEach es X.env := by rfl) (hpl : (backTo pos (starEach es X.env)).any (·.1) = false := by rfl) :
    PS X (.Raise (some (.Call (.Name x p) (e :: es) [] pos)) none pos2) (tS cm X.K W (mRaise c Fx n mr)) := by
  obtain ⟨g, hb⟩ := hb
  have mk : PMk X (.Call (.Name x p) (e :: es) [] pos) (fun σ H Q => ∃ F S, F.cm = cm ∧ F.K = X.K ∧ Rel F S σ H ∧ out F W σ (vis F S σ H) (fun _ _ (_ : Unit) (_ : Unit) => True) (fun _ _ => False) ((mr S).bind fun as S1 => if as.length = n then (match datsA as with
      | some ds => (match Fx ds with
        | some fs => Rs.exc c fs S1
        | none => .bad)
      | none => .bad) else .bad) ∧ (∀ cls d H', W cls d σ H' → Q cls d H')) := by
    intro pins s σ H Q I ⟨F, S, e1, e2, R, h, hW⟩
    refine wpAny_Call_Name_kw (ld_glob I hg hm (PySem.W.callWith_K (h₀ := X.base) I.ok.mod.kin T.kC (thn (ha.run pos pins s σ H (fun vs H1 => ∃ F : Fm, ∃ as S1, F.cm = cm ∧ F.K = X.K ∧ Rel F S1 σ H1 ∧ AvsOk cm X.K σ (vis F S1 σ H1) vs as ∧ out F W σ (vis F S1 σ H1) (fun _ _ (_ : Unit) (_ : Unit) => True) (fun _ _ => False) (if as.length = n then (match datsA as with
      | some ds => (match Fx ds with
        | some fs => Rs.exc c fs S1
        | none => .bad)
      | none => .bad) else .bad)) I
      (tG_bind e1 e2 R h fun F vs H1 as S1 e1 e2 R1 s1 p1 h1 => ⟨F, as, S1, e1, e2, R1, p1, h1⟩)) fun us s1 ⟨vs, H1, I1, r, F, as, S1, e1, e2, R1, p1, h1⟩ => ⟨I1.kIn, ?_⟩) he hpl) hdb)
    by_cases hz : as.length = n
    · rw [if_pos hz] at h1
      cases hd : datsA as with
      | none => rw [hd] at h1; exact h1.elim
      | some ds =>
        rw [hd] at h1
        dsimp only at h1
        cases hx : Fx ds with
        | none => rw [hx] at h1; exact h1.elim
        | some fs =>
          rw [hx] at h1
          have lv : vs.length = n := by rw [AvsOk.length p1]; exact hz
          have rp := datsA_ok p1 hd
          have lu : us.length = n := by rw [← r.length]; exact lv
          refine run_mkX (us := us) (xs := fun a => .ref a :: vs) T iC tI Fk hr hgd tk I1 (by rw [lu, sizeLine_eq]; omega) (fun s' a kin => ⟨g (.ref a :: us) [], hb.to s' (.ref a :: us) [] kin (by rw [List.length_cons, lu]) rfl, hb.rel (.cons rfl r) .nil⟩) fun a hna => ?_
          have fresh := R1.fresh hna
          have sn := same_new (o := exo a (cm c) none) hna
          have gg : Same (vis F S1 σ H1) (hid ((F.M ++ locs S1 σ).cons a) (upd H1 a (exo a (cm c) none))) := hid_to (fun b o hb' q => ⟨fun z => (Hd.mem_cons.mp z).elim (ne_of_none q hna) hb', sn b o q⟩) fun _ _ z => z
          refine ⟨(F.M ++ locs S1 σ).cons a, a, vs, ds, fs, rfl, ⟨fun m hm' => ?_⟩, Hd.mem_cons.mpr (.inl rfl), upd_same, rp.mono gg, hx, fun d gs H' kp hd0 ea ed rf => ⟨rfl, d, gs, ea, ed, ?_, hW _ _ _ ?_⟩⟩
          · rcases Hd.mem_cons.mp hm' with z | z
            · rw [z, upd_same]; exact trivial
            · exact (R1.hlv z).upd trivial
          · by_cases z : d = a
            · rw [z]; exact hna
            · rw [upd_ne z] at hd0; exact hd0
          · -- the exception leaves
            have hda : d ≠ a := fun z => by rw [z, upd_same] at hd0; cases hd0
            have hd1 : H1 d = none := by rw [upd_ne hda] at hd0; exact hd0
            have kp1 : L2.Same H1 (upd (del H' a) d (.xd gs)) := fun b o q => by
              rw [upd_ne (ne_of_none q hd1), del_ne (ne_of_none q hna)]
              exact kp b o (ne_of_none q hna) (by rw [upd_ne (ne_of_none q hna)]; exact q)
            have R2 := R1.grow kp1
            have fin : RpF F.cm F.K (vis F S1 σ (upd (del H' a) d (.xd gs))) gs fs := ?_
            · have key := h1 d gs _ R2 (vis_grow kp1) (by unfold vis; rw [hid_out (R1.fresh hd1), upd_same]) fin
              rw [e1] at key
              exact key
            rw [e1, e2]
            refine RpF.mono (G := hid (((F.M ++ locs S1 σ).cons a).cons d) H') (G' := vis F S1 σ (upd (del H' a) d (.xd gs))) ⟨fun b o q => ?_, fun _ _ z => z⟩ rf
            by_cases hb' : b ∈ ((F.M ++ locs S1 σ).cons a).cons d
            · rw [hid_in hb'] at q; cases q
            · rw [hid_out hb'] at q
              have nd : b ≠ d := fun z => hb' (Hd.mem_cons.mpr (.inl z))
              have na : b ≠ a := fun z => hb' (Hd.mem_cons.mpr (.inr (Hd.mem_cons.mpr (.inl z))))
              have nb : b ∉ F.M ++ locs S1 σ := fun z => hb' (Hd.mem_cons.mpr (.inr (Hd.mem_cons.mpr (.inr z))))
              unfold vis
              rw [hid_out nb, upd_ne nd, del_ne na]
              exact q
    · rw [if_neg hz] at h1; exact h1.elim
  refine PS.weak (ps_raise hcalm tk mk) fun D σ H ⟨F, S, e1, e2, R, h⟩ => ⟨F, S, e1, e2, R, ?_, fun cls d H' w => w⟩
  unfold mRaise at h
  cases hm : mr S with
  | bad => rw [hm] at h; exact h.elim
  | exc c' fs' S' => rw [hm] at h; exact h σ
  | ok as S1 =>
    rw [hm] at h
    rw [Rs.bind_ok] at h ⊢
    by_cases hz : as.length = n
    · rw [if_pos hz] at h ⊢
      cases hd : datsA as with
      | none => rw [hd] at h; exact h.elim
      | some ds =>
        rw [hd] at h
        dsimp only at h ⊢
        cases hx : Fx ds with
        | none => rw [hx] at h; exact h.elim
        | some fs => rw [hx] at h; exact h σ
    · rw [if_neg hz] at h; exact h.elim
end
/-! ### the __init__ of an exception -/
section
variable {X : Cx} {x : Str} {e : Expr} {es : List Expr} {ta : TA} {p1 p2 pos : Pos} {B : Addr}
/-- B.__init__(self, ..), B a class of the program without an own __init__ -/
theorem pe_binit {pl : Sem Bool} (hg : Gl X x) (hm : X.mg x = some (.ref B)) (gB : PySem.W.specialIn X.K (.ref B) "__getattribute__" = some (some (.builtin "type.__getattribute__"))) (rB : PySem.W.readsIn X.K B (.type "type") = true)
    (vB : PySem.W.findCls X.K (.ref B) (.type "type") "__init__" = some (.val (.builtin "ValueError.__init__"))) (ha : PA X (e :: es) ta) (hdb : (x == ("__debug__" : Str)) = false := by decide)
    (hc : eval (.Call (.Attribute (.Name x p1) "__init__" p2) (e :: es) [] pos) X.env = (do
      let ov ← eval (.Name x p1) X.env
      standAt p2.atName
      let (fv, first) ← holding [ov] (getMethod ov "__init__" pl)
      callWith pos fv first (backTo pos (starEach (e :: es) X.env)) (backToKw pos (keywordEach [] X.env))) := by rfl)
    (hs : starEach (e :: es) X.env = (false, eval e X.env) :: starEach es X.env := by rfl) (hpl : (backTo pos (starEach es X.env)).any (·.1) = false := by rfl) :
    PE X (.Call (.Attribute (.Name x p1) "__init__" p2) (e :: es) [] pos) (tVeI X.K ta) := by
  refine ⟨fun pins s σ H Q I h => PySem.W.methodCall_KW (ld_glob I hg hm ?_ hdb) hc⟩
  refine PySem.W.method_cls I.kIn gB (PySem.W.cls_value I.kIn rB vB (by decide +kernel) ?_)
  show wpAny _ _ (callWith pos (Value.builtin "ValueError.__init__") [] (backTo pos (starEach (e :: es) X.env)) []) _ _ _
  refine PyProof.Rows.callWith_method1 (thn (ha.run pos pins _ σ H _ (I.tok _) h) fun us s1 ⟨vs, H1, J, rel, a, C, ws, ev, hl, T, ea, q⟩ => ?_) hs hpl
  subst ev
  cases rel with
  | @cons _ u0 _ ur ra rw' =>
    obtain rfl : u0 = Value.ref a := ra
    exact oinit_ok T J ea (by rw [← Paired.length rw', sizeLine_eq]; omega) fun s' J' => ⟨.non, H1, J', rfl, q⟩
end
/-- self.f = p, one after the other: names and slots -/
def tFlds (K : PySem.W.Frag) : List (Str × Nat) → TS
  | [] => fun D σ H => D.nx σ H
  | [(f, j)] => tOst K f (tVar 0) (tVar j)
  | (f, j) :: r => tSeq (tOst K f (tVar 0) (tVar j)) (tFlds K r)
def putsX (σ : L2.St) : List (Str × Nat) → List (Str × V) → List (Str × V)
  | [], gs => gs
  | (f, j) :: r, gs => putsX σ r ((f, (σ.getD j none).getD .non) :: gs)
theorem upd_upd {H : Hp} {a : Addr} {o u : HO} : upd (upd H a o) a u = upd H a u := by
  funext b
  by_cases h : b = a
  · rw [h, upd_same, upd_same]
  · rw [upd_ne h, upd_ne h, upd_ne h]
theorem flds_more {K : PySem.W.Frag} {D : L2.Ends} {σ : L2.St} {a C dx : Addr} (T : OexC K C) (hs : σ[0]? = some (some (.ref a))) : ∀ (flds : List (Str × Nat)) (gs : List (Str × V)) (H : Hp), flds ≠ [] → (∀ q, q ∈ flds → PySem.W.findIn K (.ref C) q.1 = some none ∧ ∃ v, σ[q.2]? = some (some v)) →
    H a = some (exo a C (some dx)) → H dx = some (exd dx gs) → dx ≠ a → gs.length + flds.length ≤ 900 → D.nx σ (upd H dx (exd dx (putsX σ flds gs))) → tFlds K flds D σ H
  | [], _, _, h, _, _, _, _, _, _ => absurd rfl h
  | [(f, j)], gs, H, _, hf, ea, ed, ne, hl, hD => by
    obtain ⟨h1, v, hv⟩ := hf (f, j) (List.mem_cons_self ..)
    refine ⟨v, hv, _, hs, a, C, rfl, T, h1, .inr ⟨dx, gs, ea, ed, by simp at hl; omega, ?_⟩⟩
    have e : (σ.getD j none).getD .non = v := by rw [List.getD_eq_getElem?_getD, show σ[j]? = some (some v) from hv]; rfl
    unfold putsX putsX at hD
    rw [e] at hD
    exact hD
  | (f, j) :: q :: r, gs, H, _, hf, ea, ed, ne, hl, hD => by
    obtain ⟨h1, v, hv⟩ := hf (f, j) (List.mem_cons_self ..)
    refine ⟨v, hv, _, hs, a, C, rfl, T, h1, .inr ⟨dx, gs, ea, ed, by simp at hl; omega, ?_⟩⟩
    have e : (σ.getD j none).getD .non = v := by rw [List.getD_eq_getElem?_getD, show σ[j]? = some (some v) from hv]; rfl
    refine flds_more T hs (q :: r) ((f, v) :: gs) _ (by simp) (fun z hz => hf z (List.mem_cons_of_mem _ hz)) (by rw [upd_ne (Ne.symm ne)]; exact ea) upd_same ne (by simp at hl ⊢; omega) ?_
    unfold putsX at hD
    rw [e] at hD
    rw [upd_upd]
    exact hD
theorem flds_ok {K : PySem.W.Frag} {D : L2.Ends} {σ : L2.St} {a C : Addr} (T : OexC K C) (hs : σ[0]? = some (some (.ref a))) (flds : List (Str × Nat)) (H : Hp) (hne : flds ≠ []) (hf : ∀ q, q ∈ flds → PySem.W.findIn K (.ref C) q.1 = some none ∧ ∃ v, σ[q.2]? = some (some v))
    (ea : H a = some (exo a C none)) (hl : flds.length ≤ 900) (hD : ∀ dx, H dx = none → dx ≠ a → D.nx σ (upd (upd H dx (exd dx (putsX σ flds []))) a (exo a C (some dx)))) : tFlds K flds D σ H := by
  match flds, hne, hf, hl, hD with
  | [(f, j)], _, hf, _, hD =>
    obtain ⟨h1, v, hv⟩ := hf (f, j) (List.mem_cons_self ..)
    refine ⟨v, hv, _, hs, a, C, rfl, T, h1, .inl ⟨ea, fun dx n ne => ?_⟩⟩
    have e : (σ.getD j none).getD .non = v := by rw [List.getD_eq_getElem?_getD, show σ[j]? = some (some v) from hv]; rfl
    have := hD dx n ne
    unfold putsX putsX at this
    rw [e] at this
    exact this
  | (f, j) :: q :: r, _, hf, hl, hD =>
    obtain ⟨h1, v, hv⟩ := hf (f, j) (List.mem_cons_self ..)
    refine ⟨v, hv, _, hs, a, C, rfl, T, h1, .inl ⟨ea, fun dx n ne => ?_⟩⟩
    have e : (σ.getD j none).getD .non = v := by rw [List.getD_eq_getElem?_getD, show σ[j]? = some (some v) from hv]; rfl
    refine flds_more (dx := dx) T hs (q :: r) [(f, v)] _ (by simp) (fun z hz => hf z (List.mem_cons_of_mem _ hz)) upd_same (by rw [upd_ne ne, upd_same]) ne (by simp at hl ⊢; omega) ?_
    have := hD dx n ne
    unfold putsX at this
    rw [e] at this
    have sw : upd (upd (upd H dx (exd dx [(f, v)])) a (exo a C (some dx))) dx (exd dx (putsX σ (q :: r) [(f, v)])) = upd (upd H dx (exd dx (putsX σ (q :: r) [(f, v)]))) a (exo a C (some dx)) := by
      funext b
      by_cases h1 : b = dx
      · rw [h1, upd_same, upd_ne ne, upd_same]
      · by_cases h2 : b = a
        · rw [h2, upd_ne (Ne.symm ne), upd_same, upd_same]
        · rw [upd_ne h1, upd_ne h2, upd_ne h1, upd_ne h2, upd_ne h1]
    rw [sw]
    exact this
/-- what the exception then has: by the def's arguments; mf: its text -/
def putsD (ds : List Dat) : List (Str × Nat) → List (Str × Dat) → List (Str × Dat)
  | [], gs => gs
  | (f, j) :: r, gs => putsD ds r ((f, ds.getD (j - 1) .non) :: gs)
def fxOf (np : Nat) (mf : ME) (flds : List (Str × Nat)) (ds : List Dat) : Option (List (Str × Dat)) := if ds.length = np then (match mf (.no :: ds.map Slot.dat) with
  | .ok _ _ => some (putsD ds flds [])
  | _ => none) else none
section
variable {P : Program} {w : World} {K : PySem.W.Frag} {mg : Str → Option Value} {base : Heap} {cm : CM}
theorem fnX_of {x qual : Str} {params : Arguments} {body : List Stmt} {scope : Scope} {dvs : List V} {kws : List (Str × V)} {f C : Addr} {fd : FuncData} {ps : List Str} {k np : Nat} {mf : ME} {flds : List (Str × Nat)} (F : FunD K x qual params body scope dvs kws f fd) (S : FnScope ps ps scope) (hp : ps.length = np + 1)
    (T : OexC K C) (hne : flds ≠ []) (hfl : flds.length ≤ 900) (hf : ∀ q, q ∈ flds → PySem.W.findIn K (.ref C) q.1 = some none ∧ 0 < q.2 ∧ q.2 ≤ np)
    (hbody : ∀ (cdv : Value) (A : Around) (outer : List Env) (s : Shared) (H : Hp) (E : XK), Room k (A.deeper (envOfC qual scope s.heap.objs.size f cdv)) → (A.deeper (envOfC qual scope s.heap.objs.size f cdv)).guards = some [] →
      PSs (cxOf (L2.CX P w) P w K mg base ps qual scope f cdv A outer s H E) body (tSeq (tDrop (tVeI K (tCons (tVar 0) (tCons (tE cm K (fun cls d _ H' => E cls d H') mf) tNil)))) (tFlds K flds))) : FnG P w K mg base (L2.CX P w) (k + 1) f fd ps (spX cm K C (fxOf np mf flds)) := by
  have len : ∀ vs H Q E, spX cm K C (fxOf np mf flds) vs H Q E → vs.length = ps.length := fun vs H Q E ⟨M, a, ws, ds, fs, ev, _, _, _, r, hx, _⟩ => by
    unfold fxOf at hx
    by_cases hl : ds.length = np
    · rw [ev, List.length_cons, r.length, hl, hp]
    · rw [if_neg hl] at hx; cases hx
  obtain ⟨oc, od, dV, kV, doc, pm, an, cdv, ct, osl, rfl, lk, hcd, _, _⟩ := F.ex
  refine ⟨len, fun A outer s H args us vs Q E hr hg e0 hb r hsp => ?_⟩
  have hl := len _ _ _ _ hsp
  have KX : K.In s.heap := e0.mod.kin.keeps fun b o e => (e0.bs b o e).1
  have lim0 : s.heap.NoLimit := e0.mod.nolimit.keeps fun b o e => (e0.bs b o e).1
  refine codeAny_call_function hr.depth (KX _ _ lk) rfl S.co S.gen rfl (PySem.W.codeRec_of KX hcd) (hb _ _ _ _ (wpAny_newFunctionEnv_cells S.kind (fun ⟨nm, v⟩ hy => ?_) fun env he s1 y => ?_))
  · rcases S.par nm (List.of_mem_zip hy).1 with q | q
    · exact Or.inl q
    · exact Or.inr ⟨q, PySem.W.cellsFrom_some _ _ _ (Or.inl q)⟩
  · subst he
    refine ⟨lim0.keeps y.toInCall.keep, codeAny_func ?_⟩
    have I : L2.Inv (cxOf (L2.CX P w) P w K mg base ps qual scope f cdv A outer s H E) [] (L2.start ps vs) H s1 := inv_start S hr.hd e0 hl r y
    have ht := hbody cdv A outer s H E (hr.deeper _) (guards_deeper hg)
    obtain ⟨M, a, ws, ds, fs, ev, lv, ham, ea, rp, hx, hq⟩ := hsp
    subst ev
    unfold fxOf at hx
    by_cases hdl : ds.length = np
    · rw [if_pos hdl] at hx
      have lw : ws.length = np := by rw [rp.length]; exact hdl
      have st : L2.start ps (V.ref a :: ws) = some (V.ref a) :: ws.map some := by
        unfold L2.start
        rw [show ps.length - (V.ref a :: ws).length = 0 by rw [hp, List.length_cons, lw]; omega]
        simp
      have R0 : Rel (Fm.at cm K M H []) (.no :: ds.map Slot.dat) (L2.start ps (V.ref a :: ws)) H := by
        have lc : ∀ σ : L2.St, locs (.no :: ds.map Slot.dat) σ = [] := locs_none fun s hs => by
          rcases List.mem_cons.mp hs with h | h
          · rw [h]; rfl
          · obtain ⟨d, _, rfl⟩ := List.mem_map.mp h; rfl
        have ow : owns (.no :: ds.map Slot.dat) = [] := by
          have : ∀ l : List Dat, owns (l.map Slot.dat) = [] := by
            intro l
            induction l with
            | nil => rfl
            | cons d l ih => simpa [owns] using ih
          simpa [owns] using this ds
        refine ⟨(by rw [st]; simp [lw, hdl]), fun i s v ha hb => ?_, (by rw [lc]; exact List.nodup_nil), fun l h => (by rw [lc] at h; cases h), (by rw [ow]; exact List.nodup_nil), List.nodup_nil, fun a h => (by cases h), lv.v, fun l h => (by rw [lc] at h; cases h), fun p h => (by cases h), fun a o q _ => q, HpOk.start lv fun i T z => ?_⟩
        rotate_left
        · cases i with
          | zero => cases z
          | succ i =>
            rw [List.getElem?_cons_succ, List.getElem?_map] at z
            cases hd : ds[i]? with
            | none => rw [hd] at z; cases z
            | some d => rw [hd] at z; cases z
        have eV : vis (Fm.at cm K M H []) (.no :: ds.map Slot.dat) (L2.start ps (V.ref a :: ws)) H = hid M H := by
          unfold vis; rw [lc, Hd.app_nil]
        rw [eV]
        rw [st] at hb
        cases i with
        | zero => simp at ha; subst ha; exact .no
        | succ i =>
          rw [List.getElem?_cons_succ, List.getElem?_map] at ha hb
          cases hd : ds[i]? with
          | none => rw [hd] at ha; cases ha
          | some d =>
            rw [hd] at ha
            cases ha
            obtain ⟨v', hv', rv⟩ := rp.get hd
            rw [hv'] at hb
            cases hb
            exact .dat rv
      have hs0 : (L2.start ps (V.ref a :: ws))[0]? = some (some (V.ref a)) := by rw [st]; rfl
      have key : (tSeq (tDrop (tVeI K (tCons (tVar 0) (tCons (tE cm K (fun cls d _ H' => E cls d H') mf) tNil)))) (tFlds K flds)) { nx := fun _ H' => Q .non H', rt := Q } (L2.start ps (V.ref a :: ws)) H := by
        refine ⟨_, hs0, ⟨Fm.at cm K M H [], _, rfl, rfl, R0, ?_⟩⟩
        cases hm : mf (.no :: ds.map Slot.dat) with
        | bad => rw [hm] at hx; cases hx
        | exc c' fs' S' => rw [hm] at hx; cases hx
        | ok d S' =>
          rw [hm] at hx
          cases hx
          intro F1 v H1 R1 g1 _ t1
          obtain rfl := t1.pure rfl
          have ea1 : H1 a = some (exo a C none) := R1.keep a _ ea (by simp)
          refine ⟨a, C, [v], rfl, by simp, T, ea1, ?_⟩
          refine flds_ok T hs0 flds H1 hne (fun q hq' => ?_) ea1 hfl fun dx n ne => ?_
          · obtain ⟨h1, h2, h3⟩ := hf q hq'
            refine ⟨h1, ?_⟩
            have hi : q.2 - 1 < ws.length := by omega
            obtain ⟨t, ht⟩ : ∃ t, q.2 = t + 1 := ⟨q.2 - 1, by omega⟩
            rw [ht] at hi ⊢; rw [Nat.add_sub_cancel] at hi
            refine ⟨ws[t], ?_⟩
            rw [st, List.getElem?_cons_succ, List.getElem?_map, List.getElem?_eq_getElem hi]
            rfl
          · have hd0 : H dx = none := by
              cases hh : H dx with
              | none => rfl
              | some o => rw [R1.keep dx o hh (by simp)] at n; cases n
            refine hq dx _ _ (fun b o nb q => ?_) hd0 upd_same (by rw [upd_ne ne, upd_same]) ?_
            · have q1 := R1.keep b o q (by simp)
              rw [upd_ne nb, upd_ne (ne_of_none q1 n)]
              exact q1
            · have sm : Same (hid M H) (hid (M.cons dx) (upd (upd H1 dx (exd dx (putsX (L2.start ps (V.ref a :: ws)) flds []))) a (exo a C (some dx)))) := hid_to (fun b o hb' q => by
                have nd : b ≠ dx := ne_of_none q hd0
                have na : b ≠ a := fun z => hb' (by rw [z]; exact ham)
                exact ⟨fun z => (Hd.mem_cons.mp z).elim nd hb', by rw [upd_ne na, upd_ne nd]; exact R1.keep b o q (by simp)⟩) fun _ _ z => z
              obtain ⟨GG, hGG⟩ : ∃ GG, hid (M.cons dx) (upd (upd H1 dx (exd dx (putsX (L2.start ps (V.ref a :: ws)) flds []))) a (exo a C (some dx))) = GG := ⟨_, rfl⟩
              rw [hGG] at sm ⊢
              have rp2 := rp.mono sm
              have all : ∀ (l : List (Str × Nat)) (gs : List (Str × V)) (es : List (Str × Dat)), (∀ q, q ∈ l → 0 < q.2 ∧ q.2 ≤ np) → RpF cm K GG gs es → RpF cm K GG (putsX (L2.start ps (V.ref a :: ws)) l gs) (putsD ds l es) := by
                intro l
                induction l with
                | nil => intro gs es _ h; exact h
                | cons q l ih =>
                  intro gs es hq' h
                  obtain ⟨fq, jq⟩ := q
                  obtain ⟨b1, b2⟩ := hq' (fq, jq) (List.mem_cons_self ..)
                  dsimp only at b1 b2
                  have hi : jq - 1 < ds.length := by omega
                  obtain ⟨v', hv', rv⟩ := rp2.get (List.getElem?_eq_getElem hi)
                  unfold putsX putsD
                  refine ih _ _ (fun z hz => hq' z (List.mem_cons_of_mem _ hz)) (.cons ?_ h)
                  have e1 : (L2.start ps (V.ref a :: ws)).getD jq none = some v' := by
                    rw [st, List.getD_eq_getElem?_getD, show jq = (jq - 1) + 1 by omega, List.getElem?_cons_succ, List.getElem?_map, hv']
                    rfl
                  have e2 : ds.getD (jq - 1) .non = ds[jq - 1] := by rw [List.getD_eq_getElem?_getD, List.getElem?_eq_getElem hi]; rfl
                  rw [e1, e2]
                  exact rv
              exact all flds [] [] (fun q hq' => (hf q hq').2) .nil
      refine wpAny_mono (ht.run [] s1 (L2.start ps (V.ref a :: ws)) H _ I key) (fun fl s' hs => ?_) fun e s' hs => hs
      cases fl with
      | ret u => obtain ⟨v, σ', H', J, rv, q⟩ := hs; exact ⟨v, H', J.os, J.bare, J.base, J.hok, rv, q⟩
      | next => obtain ⟨σ', H', J, q⟩ := hs; exact ⟨V.non, H', J.os, J.bare, J.base, J.hok, (rfl : Value.none = Value.none), q⟩
      | brk => obtain ⟨_, _, _, q⟩ := hs; exact q.elim
      | cont => obtain ⟨_, _, _, q⟩ := hs; exact q.elim
    · rw [if_neg hdl] at hx; cases hx
end
end Mir
/-! MirXB: exceptions of the program over other built-in classes than ValueError -/
namespace Mir
open PySem PySem.Spec PySem.W PySem.Calls PyProof.Rows
end Mir
namespace Mir
open PySem PySem.Spec PyProof.Rows L2
/-- what the written part says of the class -/
structure OexB (b : Bse) (K : PySem.W.Frag) (C : Addr) : Prop where
  cls : ∃ nm q N bs bm sn sub ab col dd k0 k1 k2 k3 k5, K.lookup C = some (excClassObj nm q C N bs bm true sn sub ab col dd k0 k1 k2 k3 k5 b.nw) ∧ PySem.W.excTail b.bm bm = true
  sa : PySem.W.findIn K (.ref C) "__setattr__" = some (some (.builtin "object.__setattr__"))
  exC : PySem.W.subIn K (.ref C) (.type "BaseException") = some true
  tyC : PySem.W.typeIn K (.ref C) = some (.type "type")
  kC : PySem.W.keepIn K (.ref C) = true
theorem Kn.oeb {fa : List Fc} {fn : List DefM} {K : PySem.W.Frag} {mg : Str → Option Value} {x : Str} {b : Bse} (c : Kn fa fn K mg) (i : Nat) (h : fa[i]? = some (.oeb x b) := by rfl) : OexB b K (He.ga K x) := by
  obtain ⟨c1, z⟩ := He.ba (c.fact i h)
  obtain ⟨c2, z⟩ := He.ba z
  obtain ⟨c3, z⟩ := He.ba z
  obtain ⟨c4, c5⟩ := He.ba z
  exact ⟨oebB_ok c1, He.eqO_ok c2, of_decide_eq_true c3, of_decide_eq_true c4, c5⟩
theorem Kn.xbt {fa : List Fc} {fn : List DefM} {K : PySem.W.Frag} {mg : Str → Option Value} {b : Bse} (c : Kn fa fn K mg) (i : Nat) (h : fa[i]? = some (.xbt b) := by rfl) : PySem.W.findCls K (.type b.B) (.type "type") "__init__" = some (.val (.builtin b.ini)) := by
  have z : (match PySem.W.findCls K (.type b.B) (.type "type") "__init__" with
    | some (.val (.builtin id)) => id == b.ini
    | _ => false) = true := c.fact i h
  split at z
  · rename_i id e
    rw [e, beq_iff_eq.mp z]
  · cases z
/-! ### readings and rules -/
end Mir
/-! MirY: try, and what an except suite may ask of its exception -/
namespace Mir
open PySem PySem.Spec PyProof.Rows L2
section
variable {cm cm' : CM} {K : PySem.W.Frag} {G : VH}
mutual
theorem Rp.cast (e : cm.at_ = cm'.at_) : ∀ {v : V} {d : Dat}, Rp cm K G v d → Rp cm' K G v d
  | _, _, .non => .non
  | _, _, .bl b => .bl b
  | _, _, .int i => .int i
  | _, _, .str x => .str x
  | _, _, .lst s r => .lst s (RpAll.cast e r)
  | _, _, .ro s r => .ro s (RpAll.cast e r)
  | _, _, .tup s r => .tup s (RpAll.cast e r)
  | _, _, .ins (c := c) s r => .ins (by rw [← e]; exact s) (RpF.cast e r)
  | _, _, .dic s r => .dic s (RpK.cast e r)
  | _, _, .ptr q => .ptr q
theorem RpAll.cast (e : cm.at_ = cm'.at_) : ∀ {vs : List V} {ds : List Dat}, RpAll cm K G vs ds → RpAll cm' K G vs ds
  | _, _, .nil => .nil
  | _, _, .cons a b => .cons (Rp.cast e a) (RpAll.cast e b)
theorem RpF.cast (e : cm.at_ = cm'.at_) : ∀ {vs : List (Str × V)} {ds : List (Str × Dat)}, RpF cm K G vs ds → RpF cm' K G vs ds
  | _, _, .nil => .nil
  | _, _, .cons a b => .cons (Rp.cast e a) (RpF.cast e b)
theorem RpK.cast (e : cm.at_ = cm'.at_) : ∀ {vs : List (Key × V)} {ds : List (Key × Dat)}, RpK cm K G vs ds → RpK cm' K G vs ds
  | _, _, .nil => .nil
  | _, _, .cons a b => .cons (Rp.cast e a) (RpK.cast e b)
end
theorem RpT.cast (e : cm.at_ = cm'.at_) : ∀ {vs : List (List Key × V)} {ds : List (List Key × Dat)}, RpT cm K G vs ds → RpT cm' K G vs ds
  | _, _, .nil => .nil
  | _, _, .cons a b => .cons (Rp.cast e a) (RpT.cast e b)
theorem OwnOk.cast {H : Hp} {l : Addr} {o : Own} (e : cm.at_ = cm'.at_) (el : ∀ (n : Nat) (x : Addr × HO), cm.lk[n]? = some x → cm'.lk[n]? = some x) (x : OwnOk cm K G H l o) : OwnOk cm' K G H l o := by
  cases x with
  | lst h r => exact .lst h (r.cast e)
  | obj h r => exact .obj (by rw [← e]; exact h) (r.cast e)
  | dic h r => exact .dic h (r.cast e)
  | dit h r => exact .dit h (r.cast e)
  | gone h q v => exact .gone (el _ _ h) q v
end
def Fm.cw (F : Fm) (cm : CM) : Fm := { F with cm := cm }
theorem Fm.to.cw {F F2 : Fm} {c : CM} (t : (F.cw c).to F2) : F.to (F2.cw F.cm) := by
  obtain ⟨t1, t2⟩ := t
  refine ⟨?_, t2⟩
  show { F2.toFb with cm := F.cm } = F.toFb
  rw [t1]
  rfl
def noExn (S : Sg) : Bool := S.all fun s => match s with
  | .exn _ _ => false
  | _ => true
theorem noExn_at {S : Sg} {i : Nat} {c : Str} {fs : List (Str × Dat)} (h : noExn S = true) : S[i]? ≠ some (.exn c fs) := fun z => by
  have := List.all_eq_true.mp h _ (List.mem_of_getElem? z)
  cases this
theorem Rel.cast {F : Fm} {S : Sg} {σ : L2.St} {H : Hp} (R : Rel F S σ H) {cm : CM} (e : F.cm.at_ = cm.at_) (el : ∀ (n : Nat) (x : Addr × HO), F.cm.lk[n]? = some x → cm.lk[n]? = some x) (hn : ∀ (i : Nat) (c : Str) (fs : List (Str × Dat)), S[i]? ≠ some (Slot.exn c fs)) : Rel (F.cw cm) S σ H where
  len := R.len
  sl := fun i s v a b => by
    have y := R.sl i s v a b
    cases y with
    | no => exact .no
    | dat r => exact .dat (r.cast e)
    | loc h r => exact .loc h (r.cast e)
    | own h r => exact .own h (r.cast e el)
    | exn _ _ _ => exact absurd a (hn _ _ _)
    | heap e1 f => exact .heap e1 fun k o hk => (f k o hk).imp fun l z => ⟨z.1, z.2.1, z.2.2.cast e el⟩
  nd := R.nd
  new := R.new
  ond := R.ond
  and_ := R.and_
  ain := R.ain
  liv := R.liv
  lom := R.lom
  tmp := R.tmp
  keep := R.keep
  hp := ⟨R.hp.one, R.hp.him, R.hp.thl, R.hp.lnd, R.hp.thn, R.hp.n0, R.hp.nr⟩
theorem Rel.noEx {F : Fm} {S : Sg} {σ : L2.St} {H : Hp} (R : Rel F S σ H) (h : F.cm.ex = none) : ∀ (i : Nat) (c : Str) (fs : List (Str × Dat)), S[i]? ≠ some (Slot.exn c fs) := fun i c fs z => by
  have hl : i < σ.length := by rw [← R.len]; exact (List.getElem?_eq_some_iff.mp z).1
  have y := R.sl i _ _ z (List.getElem?_eq_getElem hl)
  generalize σ[i] = w at y
  cases y with
  | exn e _ _ => rw [h] at e; cases e
/-- try: body, except .. as n: suite -/
def mTry (tab : List (Str × Bool)) (i : Nat) (mb ms : MS) : MS := fun S => match mb S with
  | .exc c fs S1 => (match tab.lookup c with
    | some true => (match ms (S1.set i (.exn c fs)) with
      | .ok fl S2 => if noExn (S2.set i .no) = true then .ok fl (S2.set i .no) else .bad
      | _ => .bad)
    | some false => .exc c fs S1
    | none => .bad)
  | r => r
section
variable {X : Cx} {cm : CM} {W : WX} {x n : Str} {cv : Value} {i : Nat} {body suite : List Stmt} {b₀ : Stmt} {np pos pos' : Pos} {tab : List (Str × Bool)} {mb ms : MS}
theorem lookup_mem {tab : List (Str × Bool)} {c : Str} {b : Bool} (h : tab.lookup c = some b) : (c, b) ∈ tab := by
  induction tab with
  | nil => cases h
  | cons q l ih =>
    obtain ⟨d, b'⟩ := q
    simp only [List.lookup] at h
    cases e : (c == d) with
    | true => rw [e] at h; cases h; rw [beq_iff_eq.mp e]; exact List.mem_cons_self ..
    | false => rw [e] at h; exact List.mem_cons_of_mem _ (ih h)
theorem gs_tryAs (hs : X.stack = X.env :: X.outer) (hf : X.env.frame = some X.env.locals) (hN : X.N.Nodup) (hi : X.N[i]? = some n) (hln : X.env.kindOf n = some .local) (hc : Names X x cv) (tk : Takes X W) (hex : cm.ex = none)
    (htab : ∀ q, q ∈ tab → PySem.W.exmOne X.K (.ref (cm q.1)) cv = some q.2)
    (hb : ∀ (W' : WX) (pn : List (Addr × Obj)) (xe : Value → Shared → Prop), Takes (X.tr pn xe) W' → PassesOwn (model X.prog X.w) X.A X.env xe → PSs (X.tr pn xe) body (tS cm X.K W' mb))
    (hsu : ∀ (a : Addr) (oe : Obj) (c : Str) (dd : Addr) (pn : List (Addr × Obj)), Zc (.ref (cm c)) (some dd) oe → (∃ vs, oe.data = .fields vs) → PSs (X.suite a ((a, oe) :: pn)) (b₀ :: suite) (tS (cm.sx (some (a, c, dd))) X.K W0 ms)) :
    PS X (.Try body [.ExceptHandler (some (.Name x np)) (some n) (b₀ :: suite) pos'] [] [] pos) (tS cm X.K W (mTry tab i mb ms)) := by
  refine PS.weak (ps_try_as (tb := fun W' => tS cm X.K W' mb) (ts := fun a cls d D σ H => ∃ c dd, cls = .ref (cm c) ∧ d = some dd ∧ tS (cm.sx (some (a, c, dd))) X.K W0 ms D σ H) hs hf hN hi hln hc tk hb ?_) ?_
  · intro a oe cls d pn hz hv
    refine ⟨fun pins s σ H D I ⟨c, dd, e1, e2, h⟩ => ?_⟩
    subst e1 e2
    exact (hsu a oe c dd pn hz hv).run pins s σ H D I h
  · intro D σ H ⟨F, S, e1, e2, R, h⟩
    refine ⟨F, S, e1, e2, R, ?_⟩
    unfold mTry at h
    cases hm : mb S with
    | bad => rw [hm] at h; exact h
    | ok fl S1 =>
      rw [hm] at h
      cases fl <;> exact h
    | exc c fs S1 =>
      rw [hm] at h
      dsimp only at h
      intro σ' F1 da gs H' R' sm hda rg t1
      cases ht : tab.lookup c with
      | none => rw [ht] at h; exact h.elim
      | some b =>
        rw [ht] at h
        refine ⟨b, (by rw [t1.cm, e1]; exact htab _ (lookup_mem ht)), fun hbt => ?_, fun hbf => ?_⟩
        · subst hbt
          intro a hna
          have f1 : F1.cm = cm := t1.cm.trans e1
          refine ⟨c, da, (by rw [f1]), rfl, F1.cw (cm.sx (some (a, c, da))), S1.set i (.exn c fs), rfl, t1.K.trans e2, ?_⟩
          have at1 : F1.cm.at_ = cm.at_ := by rw [f1]
          have R2 : Rel (F1.cw (cm.sx (some (a, c, da)))) S1 σ' H' := R'.cast at1 (by rw [f1]; exact fun _ _ z => z) (R'.noEx (by rw [f1]; exact hex))
          have ok : SlotOk (F1.cw (cm.sx (some (a, c, da)))) (vis (F1.cw (cm.sx (some (a, c, da)))) S1 σ' H') H' (.exn c fs) (some (.ref a)) := .exn rfl hda (RpF.cast (cm' := (cm.sx (some (a, c, da)))) at1 rg)
          obtain ⟨R3, s3⟩ := R2.set (i := i) rfl (fun _ _ z => by cases z) (fun _ z => by cases z) ok
          refine ⟨R3, ?_⟩
          dsimp only at h
          cases hsu2 : ms (S1.set i (.exn c fs)) with
          | bad => rw [hsu2] at h; exact h.elim
          | exc _ _ _ => rw [hsu2] at h; exact h.elim
          | ok fl S2 =>
            rw [hsu2] at h
            dsimp only at h
            by_cases hne : noExn (S2.set i .no) = true
            · rw [if_pos hne] at h
              have back : ∀ {F2 : Fm} {σ2 : L2.St} {H2 : Hp}, (F1.cw (cm.sx (some (a, c, da)))).to F2 → Rel F2 S2 σ2 H2 → Rel (F2.cw F1.cm) (S2.set i .no) (σ2.set i none) H2 ∧ Same (vis F2 S2 σ2 H2) (vis (F2.cw F1.cm) (S2.set i .no) (σ2.set i none) H2) := by
                intro F2 σ2 H2 tt q
                obtain ⟨q1, g1⟩ := q.no (i := i) (v := none)
                have q2 := q1.cast (cm := F1.cm) (by rw [tt.cm]; exact at1.symm) (by rw [tt.cm, f1]; exact fun _ _ z => z) (fun k c' fs' z => noExn_at hne z)
                exact ⟨q2, g1⟩
              have g0 : Same (vis F S σ H) (vis (F1.cw (cm.sx (some (a, c, da)))) (S1.set i (.exn c fs)) (σ'.set i (some (.ref a))) H') := sm.trans s3
              cases fl with
              | nx =>
                intro F2 σ2 H2 q g2 t2
                obtain ⟨q2, g3⟩ := back t2 q
                exact h _ _ q2 ((g0.trans g2).trans g3) (t1.trans t2.cw)
              | bk =>
                intro F2 σ2 H2 q g2 t2
                obtain ⟨q2, g3⟩ := back t2 q
                exact h _ _ q2 ((g0.trans g2).trans g3) (t1.trans t2.cw)
              | ct =>
                intro F2 σ2 H2 q g2 t2
                obtain ⟨q2, g3⟩ := back t2 q
                exact h _ _ q2 ((g0.trans g2).trans g3) (t1.trans t2.cw)
              | rt d =>
                intro F2 v σ2 H2 q g2 rv t2
                obtain ⟨q2, g3⟩ := back t2 q
                exact h v _ _ q2 ((g0.trans g2).trans g3) ((Rp.cast (cm := F2.cm) (cm' := F1.cm) (by rw [t2.cm]; exact at1.symm) rv).mono g3) (t1.trans t2.cw)
            · rw [if_neg hne] at h; exact h.elim
        · subst hbf
          dsimp only at h
          exact h σ' da gs H' R' sm hda rg t1
end
/-! ### e.f -/
section
variable {X : Cx} {cm : CM} {W : WX} {i : Nat} {e : Expr} {nm : Str} {pos p : Pos} {a dd : Addr} {c : Str} {oe : Obj} {pn : List (Addr × Obj)}
def mXf (cs : List Str) (i : Nat) (nm : Str) : ME := fun S => match S[i]? with
  | some (.exn c fs) => if cs.contains c then Rs.of (fs.lookup nm) S else .bad
  | _ => .bad
theorem slot_exn {F : Fm} {S : Sg} {σ : L2.St} {H : Hp} {c : Str} {fs : List (Str × Dat)} (R : Rel F S σ H) (hs : S[i]? = some (.exn c fs)) (hcm : F.cm.ex = some (a, c', dd)) : c = c' ∧ σ[i]? = some (some (.ref a)) ∧ ∃ gs, vis F S σ H dd = some (.xd gs) ∧ RpF F.cm F.K (vis F S σ H) gs fs := by
  have hl : i < σ.length := by rw [← R.len]; exact (List.getElem?_eq_some_iff.mp hs).1
  have hv : σ[i]? = some σ[i] := List.getElem?_eq_getElem hl
  have q := R.sl i _ _ hs hv
  generalize σ[i] = w at hv q
  cases q with
  | exn e1 e2 e3 =>
    rw [hcm] at e1
    cases e1
    exact ⟨rfl, hv, _, e2, e3⟩
theorem ge_xf {cs : List Str} (hcm : cm.ex = some (a, c, dd)) (hcs : ∀ q, q ∈ cs → XfC X.K (cm q) ∧ PySem.W.findIn X.K (.ref (cm q)) nm = some none) (hz : Zc (.ref (cm c)) (some dd) oe) (hfv : ∃ vs, oe.data = .fields vs) (he : PE (X.suite a ((a, oe) :: pn)) e (tVar i))
    (hb : attributeBase e nm X.env (eval e X.env) = eval e X.env := by rfl) : PE (X.suite a ((a, oe) :: pn)) (.Attribute e nm pos) (tE cm X.K W (mXf cs i nm)) := by
  refine ⟨fun pins s σ H Q I h => ?_⟩
  obtain ⟨F, S, e1, e2, R, h⟩ := h
  unfold mXf at h
  cases hs : S[i]? with
  | none => rw [hs] at h; exact h.elim
  | some sl =>
    rw [hs] at h
    cases sl with
    | exn c' fs =>
      dsimp only at h
      by_cases hz2 : cs.contains c' = true
      · rw [if_pos hz2] at h
        obtain ⟨rfl, hv, gs, hd, rg⟩ := slot_exn (c' := c) R hs (by rw [e1]; exact hcm)
        obtain ⟨k1, k2⟩ := hcs c' (by simpa using hz2)
        obtain ⟨d, hd2, hq⟩ := out_of (cm := cm) (K := X.K) R h
        obtain ⟨v, hv2, rv⟩ := rg.lookup hd2
        refine (pe_xf k1 k2 hz hfv he hb).run pins s σ H Q I ⟨_, hv, rfl, rfl, dd, gs, v, rfl, hid_le _ _ hd, hv2, hq v H (.refl _) ?_⟩
        rw [← e1, ← e2]
        exact rv
      · rw [if_neg hz2] at h; exact h.elim
    | _ => exact h.elim
/-! ### isinstance(e, ..) -/
/-- what a class of the program must say of its exceptions -/
structure XcC (K : PySem.W.Frag) (C : Addr) : Prop where
  cl : (PySem.W.clsIn K C).isSome = true
  ga : PySem.W.findIn K (.ref C) "__getattribute__" = some (some (.builtin "BaseException.__getattribute__"))
  gt : PySem.W.findIn K (.ref C) "__getattr__" = some none
  sb : PySem.W.subIn K (.ref C) (.type "BaseException") = some true
  ca : PySem.W.findIn K (.ref C) "__class__" = some (some (.builtin "object.__class__"))
  sp : PySem.W.specialIn K (.builtin "object.__class__") "__get__" = some (some (.builtin "getset_descriptor.__get__"))
  tk : PySem.W.takesIn K (.builtin "object.__class__") = some true
  mo : PySem.W.mroIn K C (.type "object") = some true
theorem Kn.xc {fa : List Fc} {fn : List DefM} {K : PySem.W.Frag} {mg : Str → Option Value} {x : Str} (c : Kn fa fn K mg) (i : Nat) (h : fa[i]? = some (.xc x) := by rfl) : XcC K (He.ga K x) := by
  have z := c.fact i h
  obtain ⟨c1, z⟩ := He.ba z
  obtain ⟨c2, z⟩ := He.ba z
  obtain ⟨c3, z⟩ := He.ba z
  obtain ⟨c4, z⟩ := He.ba z
  obtain ⟨c5, z⟩ := He.ba z
  obtain ⟨c6, z⟩ := He.ba z
  obtain ⟨c7, c8⟩ := He.ba z
  exact ⟨c1, He.eqO_ok c2, He.eqO_ok c3, of_decide_eq_true c4, He.eqO_ok c5, He.eqO_ok c6, of_decide_eq_true c7, of_decide_eq_true c8⟩
theorem inst_exn {P : Program} {w : World} {H : Hp} {h : Heap} {D : Addr} {gs : List (Str × V)} (hz : Zc (.ref D) (some dd) oe) (hfv : ∃ vs, oe.data = .fields vs) (hget : h.get? a = some oe) (hok : HOk P w H h) (hd : H dd = some (.xd gs)) : ∃ od, PySem.W.InstAt h a oe D (some od) := by
  obtain ⟨mA, ⟨o, es, ep, ho, _⟩, _⟩ := (hok dd _ hd : ∃ mA, h.Ns1 dd mA ∧ ∀ f, RelO (gs.lookup f) (mA f))
  obtain ⟨vs, hv⟩ := hfv
  obtain ⟨oc, od, oda, osl⟩ := oe
  obtain ⟨h1, h2⟩ := hz
  dsimp only at h1 h2 hv
  subst h1 h2 hv
  exact ⟨o, hget, rfl, rfl, ho⟩
/-- isinstance(e, T) -/
def rIsX (K : PySem.W.Frag) (D a dd : Addr) : List V → Hp → VK → Prop := fun xs H Q => ∃ (t : V) (tv : Value) (b : Bool) (gs : List (Str × V)), xs = [.ref a, t] ∧ (∀ u, RelV t u → u = tv) ∧ H dd = some (.xd gs) ∧ PySem.W.kitOne K (.ref D) tv = some b ∧ Q (.bl b) H
theorem call_isX {D : Addr} (C : XcC X.K D) (hz : Zc (.ref D) (some dd) oe) (hfv : ∃ vs, oe.data = .fields vs) : CallR (X.suite a ((a, oe) :: pn)) (.builtin "isinstance") (rIsX X.K D a dd) := by
  intro pins s σ H xs us Q I r h
  obtain ⟨t, tv, b, gs, rfl, htv, hd, hk, q⟩ := h
  cases r with
  | cons rx rr =>
    cases rr with
    | cons rt rr =>
      cases rr
      cases rx
      have ec := htv _ rt
      subst ec
      obtain ⟨hget, _⟩ := I.pin (a, oe) (List.mem_append.mpr (.inl List.mem_cons_self))
      obtain ⟨od, J⟩ := inst_exn hz hfv hget I.hok hd
      exact PySem.W.kia_one (PySem.W.kitx_exc C.cl C.ga C.gt C.sb C.ca C.sp C.tk C.mo) I.kIn J hk (fun z => nomatch z) fun tk => ⟨.bl b, H, I.kept (t' := tk) fun _ _ z => z, rfl, q⟩
def mIsX (tab : List (Str × Bool)) (i : Nat) : ME := fun S => match S[i]? with
  | some (.exn c _) => Rs.of ((tab.lookup c).map Dat.bl) S
  | _ => .bad
theorem ge_isX {tab : List (Str × Bool)} {b : Expr} {cvv : V} {u : Value} (hcm : cm.ex = some (a, c, dd)) (hm : X.mg "isinstance" = none) (hg : Gl X "isinstance") (htab : ∀ q, q ∈ tab → XcC X.K (cm q.1) ∧ PySem.W.kitOne X.K (.ref (cm q.1)) u = some q.2) (hz : Zc (.ref (cm c)) (some dd) oe) (hfv : ∃ vs, oe.data = .fields vs)
    (he : PE (X.suite a ((a, oe) :: pn)) e (tVar i)) (hT : PE (X.suite a ((a, oe) :: pn)) b (tC cvv)) (hu : ClsV cvv u) (hv : bootBuiltins ("isinstance" : Str) = some (.builtin "isinstance") := by decide +kernel)
    (h1 : starEach [e, b] X.env = (false, eval e X.env) :: starEach [b] X.env := by rfl) (h2 : starEach [b] X.env = (false, eval b X.env) :: starEach [] X.env := by rfl) (hpl : (backTo pos (starEach [b] X.env)).any (·.1) = false := by rfl) :
    PE (X.suite a ((a, oe) :: pn)) (.Call (.Name "isinstance" p) [e, b] [] pos) (tE cm X.K W (mIsX tab i)) := by
  refine ⟨fun pins s σ H Q I h => ?_⟩
  obtain ⟨F, S, e1, e2, R, h⟩ := h
  unfold mIsX at h
  cases hs : S[i]? with
  | none => rw [hs] at h; exact h.elim
  | some sl =>
    rw [hs] at h
    cases sl with
    | exn c' fs =>
      dsimp only at h
      obtain ⟨rfl, hvv, gs, hd, rg⟩ := slot_exn (c' := c) R hs (by rw [e1]; exact hcm)
      obtain ⟨d, hd2, hq⟩ := out_of (cm := cm) (K := X.K) R h
      cases ht : tab.lookup c' with
      | none => rw [ht] at hd2; cases hd2
      | some t =>
        rw [ht] at hd2
        cases hd2
        obtain ⟨k1, k2⟩ := htab _ (lookup_mem ht)
        refine (pe_callB (X := X.suite a ((a, oe) :: pn)) (call_isX k1 hz hfv) hg hm hv (pa_cons he (pa_cons hT pa_nil h2) h1) (by decide) (by decide) h1 hpl).run pins s σ H Q I ?_
        exact ⟨_, hvv, cvv, u, t, gs, rfl, fun u' r => hu.eq r, hid_le _ _ hd, k2, hq (.bl t) H (.refl _) (.bl t)⟩
    | _ => exact h.elim
/-- isinstance(e, (T, ..)) -/
def rIsXT (K : PySem.W.Frag) (D a dd : Addr) : List V → Hp → VK → Prop := fun xs H Q => ∃ (tp : Addr) (cs : List V) (us : List Value) (b : Bool) (gs : List (Str × V)), xs = [.ref a, .ref tp] ∧ H tp = some (.tup cs) ∧ Paired ClsV cs us ∧ H dd = some (.xd gs) ∧ PySem.W.kitAny K (.ref D) us = some b ∧ Q (.bl b) H
theorem call_isXT {D : Addr} (C : XcC X.K D) (hz : Zc (.ref D) (some dd) oe) (hfv : ∃ vs, oe.data = .fields vs) : CallR (X.suite a ((a, oe) :: pn)) (.builtin "isinstance") (rIsXT X.K D a dd) := by
  intro pins s σ H xs us Q I r h
  obtain ⟨tp, cs, ws, b, gs, rfl, hT, pc, hd, hk, q⟩ := h
  cases r with
  | cons rx rr =>
    cases rr with
    | cons rt rr =>
      cases rr
      cases rx
      cases rt
      obtain ⟨hget, _⟩ := I.pin (a, oe) (List.mem_append.mpr (.inl List.mem_cons_self))
      obtain ⟨od, J⟩ := inst_exn hz hfv hget I.hok hd
      obtain ⟨_, its, rv, o, h1, h2, n, h3⟩ := (show ObjOk X.prog X.w H s.heap tp (.tup cs) from I.hok tp _ hT)
      have ew := ClsV.all pc rv
      subst ew
      obtain ⟨oc, od', dt, sl⟩ := o
      dsimp only at h2 h3
      subst h2 h3
      exact PySem.W.kia_tup (PySem.W.kitx_exc C.cl C.ga C.gt C.sb C.ca C.sp C.tk C.mo) I.kIn J h1 hk (fun z => nomatch z) fun tk => ⟨.bl b, H, I.kept (t' := tk) fun _ _ z => z, rfl, q⟩
/-- classes, one after the other -/
def tCl : List V → TA
  | [] => tNil
  | v :: r => tCons (tC v) (tCl r)
theorem tCl_run {σ : L2.St} {H : Hp} : ∀ (vs : List V) {Q : List V → Hp → Prop}, Q vs H → tCl vs σ H Q
  | [], _, h => h
  | _ :: vs, _, h => tCl_run vs h
theorem ge_isXT {tab : List (Str × Bool)} {bs : List Expr} {cs : List V} {us : List Value} {apos : Pos} {ct} (hcm : cm.ex = some (a, c, dd)) (hm : X.mg "isinstance" = none) (hg : Gl X "isinstance") (htab : ∀ q, q ∈ tab → XcC X.K (cm q.1) ∧ PySem.W.kitAny X.K (.ref (cm q.1)) us = some q.2) (hz : Zc (.ref (cm c)) (some dd) oe) (hfv : ∃ vs, oe.data = .fields vs)
    (he : PE (X.suite a ((a, oe) :: pn)) e (tVar i)) (hT : PA (X.suite a ((a, oe) :: pn)) bs (tCl cs)) (hu : Paired ClsV cs us) (hlen : cs.length ≤ 1000) (hv : bootBuiltins ("isinstance" : Str) = some (.builtin "isinstance") := by decide +kernel)
    (h1 : starEach [e, .Tuple bs ct apos] X.env = (false, eval e X.env) :: starEach [.Tuple bs ct apos] X.env := by rfl) (h2 : starEach [.Tuple bs ct apos] X.env = (false, eval (.Tuple bs ct apos) X.env) :: starEach [] X.env := by rfl) (hpl : (backTo pos (starEach [.Tuple bs ct apos] X.env)).any (·.1) = false := by rfl) :
    PE (X.suite a ((a, oe) :: pn)) (.Call (.Name "isinstance" p) [e, .Tuple bs ct apos] [] pos) (tE cm X.K W (mIsX tab i)) := by
  refine ⟨fun pins s σ H Q I h => ?_⟩
  obtain ⟨F, S, e1, e2, R, h⟩ := h
  unfold mIsX at h
  cases hs : S[i]? with
  | none => rw [hs] at h; exact h.elim
  | some sl =>
    rw [hs] at h
    cases sl with
    | exn c' fs =>
      dsimp only at h
      obtain ⟨rfl, hvv, gs, hd, rg⟩ := slot_exn (c' := c) R hs (by rw [e1]; exact hcm)
      obtain ⟨d, hd2, hq⟩ := out_of (cm := cm) (K := X.K) R h
      cases ht : tab.lookup c' with
      | none => rw [ht] at hd2; cases hd2
      | some t =>
        rw [ht] at hd2
        cases hd2
        obtain ⟨k1, k2⟩ := htab _ (lookup_mem ht)
        refine (pe_callB (X := X.suite a ((a, oe) :: pn)) (call_isXT k1 hz hfv) hg hm hv (pa_cons he (pa_cons (pe_tup hT) pa_nil h2) h1) (by decide) (by decide) h1 hpl).run pins s σ H Q I ?_
        refine ⟨_, hvv, tCl_run cs ⟨by rw [sizeLine_eq]; omega, fun q hqn => ?_⟩⟩
        have hdd : H dd = some (.xd gs) := hid_le _ _ hd
        have sn := same_new (o := .tup cs) hqn
        exact ⟨q, cs, us, t, gs, rfl, upd_same, hu, sn _ _ hdd, k2, hq (.bl t) _ sn (.bl t)⟩
    | _ => exact h.elim
end
/-! ### isinstance(x, (T, ..)) of a value -/
end Mir
/-! MirZ: a, b = [], x; new lists by if; list(range(a, b)) -/
namespace Mir
open PySem PySem.Spec PyProof.Rows L2
end Mir
/-! MirZA: for i, x in enumerate(reversed(a list), start=k) -/
namespace Mir
open PySem PySem.Spec PyProof.Rows L2
end Mir
/-! MirZB: lists of the caller's own that a def only looks at; defs that give new lists -/
namespace Mir
open PySem PySem.Spec PyProof.Rows L2
mutual
/-- no list, no object -/
def flat : Dat → Bool
  | .non => true
  | .bl _ => true
  | .int _ => true
  | .str _ => true
  | .tup ds => flats ds
  | .lst _ => false
  | .ro _ => false
  | .ins _ _ => false
  | .dic _ => false
  | .ptr _ => false
def flats : List Dat → Bool
  | [] => true
  | d :: ds => flat d && flats ds
end
def flatF : List (Str × Dat) → Bool
  | [] => true
  | (_, d) :: r => flat d && flatF r
def flatO : List Own → Bool
  | [] => true
  | .lst ds :: r => flats ds && flatO r
  | .obj _ fs :: r => flatF fs && flatO r
  | .dic _ :: _ => false
  | .dit _ :: _ => false
  | .gone _ :: _ => false
section
variable {cm : CM} {K : PySem.W.Frag} {M M' : Hd} {H : Hp}
theorem sqT_flat (hl : ∀ a, a ∈ M → a ∈ M' ∨ ∃ us, H a = some (.lst us)) {a : Addr} {xs : List V} (h : SqT K (hid M' H) a xs) : SqT K (hid M H) a xs := by
  have key : ∀ o, hid M' H a = some o → (∀ us, o ≠ .lst us) → hid M H a = some o := fun o e n => by
    by_cases ha : a ∈ M
    · rcases hl a ha with z | ⟨us, z⟩
      · rw [hid_in z] at e; cases e
      · by_cases hb : a ∈ M'
        · rw [hid_in hb] at e; cases e
        · rw [hid_out hb, z] at e; cases e; exact absurd rfl (n us)
    · rw [hid_out ha]
      by_cases hb : a ∈ M'
      · rw [hid_in hb] at e; cases e
      · rw [hid_out hb] at e; exact e
  rcases h with (h | ⟨o, h⟩) | h
  · exact .inl (.inl (key _ h fun us z => by cases z))
  · exact .inl (.inr ⟨o, key _ h fun us z => by cases z⟩)
  · exact .inr h
mutual
theorem flt_rp (hl : ∀ a, a ∈ M → a ∈ M' ∨ ∃ us, H a = some (.lst us)) : ∀ {v : V} {d : Dat}, Rp cm K (hid M' H) v d → flat d = true → Rp cm K (hid M H) v d
  | _, _, .non, _ => .non
  | _, _, .bl b, _ => .bl b
  | _, _, .int i, _ => .int i
  | _, _, .str x, _ => .str x
  | _, _, .tup s r, h => .tup (sqT_flat hl s) (flts_rp hl r (by unfold flat at h; exact h))
  | _, _, .lst s r, h => by unfold flat at h; cases h
  | _, _, .ro s r, h => by unfold flat at h; cases h
  | _, _, .ins s r, h => by unfold flat at h; cases h
  | _, _, .dic s r, h => by unfold flat at h; cases h
  | _, _, .ptr q, h => by unfold flat at h; cases h
theorem flts_rp (hl : ∀ a, a ∈ M → a ∈ M' ∨ ∃ us, H a = some (.lst us)) : ∀ {vs : List V} {ds : List Dat}, RpAll cm K (hid M' H) vs ds → flats ds = true → RpAll cm K (hid M H) vs ds
  | _, _, .nil, _ => .nil
  | _, _, .cons a b, h => by
    unfold flats at h
    rw [Bool.and_eq_true] at h
    exact .cons (flt_rp hl a h.1) (flts_rp hl b h.2)
end
theorem flatF_rp (hl : ∀ a, a ∈ M → a ∈ M' ∨ ∃ us, H a = some (.lst us)) : ∀ {vs : List (Str × V)} {ds : List (Str × Dat)}, RpF cm K (hid M' H) vs ds → flatF ds = true → RpF cm K (hid M H) vs ds
  | _, _, .nil, _ => .nil
  | _, _, .cons a b, h => by
    unfold flatF at h
    rw [Bool.and_eq_true] at h
    exact .cons (flt_rp hl a h.1) (flatF_rp hl b h.2)
theorem flatO_rp (hl : ∀ a, a ∈ M → a ∈ M' ∨ ∃ us, H a = some (.lst us)) : ∀ {ls : List Addr} {os : List Own}, OutsOk cm K (hid M' H) H ls os → flatO os = true → OutsOk cm K (hid M H) H ls os
  | _, _, .nil, _ => .nil
  | _, _, .cons (.lst e r) b, h => by
    unfold flatO at h
    rw [Bool.and_eq_true] at h
    exact .cons (.lst e (flts_rp hl r h.1)) (flatO_rp hl b h.2)
  | _, _, .cons (.obj e r) b, h => by
    unfold flatO at h
    rw [Bool.and_eq_true] at h
    exact .cons (.obj e (flatF_rp hl r h.1)) (flatO_rp hl b h.2)
  | _, _, .cons (.dic e r) b, h => by
    unfold flatO at h
    cases h
  | _, _, .cons (.dit e r) b, h => by
    unfold flatO at h
    cases h
  | _, _, .cons (.gone e q r) b, h => by
    unfold flatO at h
    cases h
end
def insAt (o : Own) : Nat → List Own → List Own
  | 0, os => o :: os
  | j + 1, [] => [o]
  | j + 1, x :: os => x :: insAt o j os
theorem outs_ins {cm : CM} {K : PySem.W.Frag} {G : VH} {H : Hp} {l : Addr} {o : Own} (ok : OwnOk cm K G H l o) : ∀ {ls : List Addr} {j : Nat} {os : List Own}, ls[j]? = some l → OutsOk cm K G H (ls.eraseIdx j) os → OutsOk cm K G H ls (insAt o j os)
  | [], j, os, h, _ => by simp at h
  | x :: ls, 0, os, h, r => by simp at h; subst h; exact .cons ok r
  | x :: ls, j + 1, [], h, r => by cases r
  | x :: ls, j + 1, y :: os, h, r => by
    cases r with
    | cons a b => exact .cons a (outs_ins ok (by simpa using h) b)
theorem args_see {cm : CM} {K : PySem.W.Frag} {G : VH} {H : Hp} {ds : List Dat} : ∀ {vs : List V} {as : List FA} {ls : List Addr} {n : Nat}, ArgsOk cm K G H vs as ls → as[n]? = some (.own (.lst ds)) →
    ∃ l us, ls[nOwn (as.take n)]? = some l ∧ H l = some (.lst us) ∧ RpAll cm K G us ds ∧ ∀ G', Same G G' → G' l = some (.lst us) → ArgsOk cm K G' H vs (as.set n (.dat (.lst ds))) (ls.eraseIdx (nOwn (as.take n)))
  | _, _, _, n, .nil, h => by simp at h
  | _, _, _, 0, .dat a b, h => by simp at h
  | _, _, _, n + 1, .dat (as := as) a b, h => by
    obtain ⟨l, us, c1, c2, c3, c4⟩ := args_see b (n := n) (by simpa using h)
    exact ⟨l, us, c1, c2, c3, fun G' s e => .dat (a.mono s) (c4 G' s e)⟩
  | _, _, _, 0, .own (l := l) ok b, h => by
    simp at h
    subst h
    cases ok with
    | @lst us _ e r =>
      exact ⟨l, us, rfl, e, r, fun G' s e' => .dat (.lst e' (r.mono s)) (args_mono s b)⟩
  | _, _, _, n + 1, .own (l := l) ok b, h => by
    obtain ⟨l', us, c1, c2, c3, c4⟩ := args_see b (n := n) (by simpa using h)
    exact ⟨l', us, c1, c2, c3, fun G' s e => .own (ok.mono s fun _ q => q) (c4 G' s e)⟩
where args_mono {cm : CM} {K : PySem.W.Frag} {G G' : VH} {H : Hp} (s : Same G G') : ∀ {vs : List V} {as : List FA} {ls : List Addr}, ArgsOk cm K G H vs as ls → ArgsOk cm K G' H vs as ls
  | _, _, _, .nil => .nil
  | _, _, _, .dat a b => .dat (a.mono s) (args_mono s b)
  | _, _, _, .own a b => .own (a.mono s fun _ q => q) (args_mono s b)
def seeR (j : Nat) (o : Own) : RF → RF
  | .ok d outs => if flat d && flatO outs then .ok d (insAt o j outs) else .bad
  | .exc c es outs => if flatF es && flatO outs then .exc c es (insAt o j outs) else .bad
  | .bad => .bad
/-- the n-th argument, a list of the caller's own, is only looked at -/
def see1 (n : Nat) (Fn : List FA → RF) (as : List FA) : RF := match as[n]? with
  | some (.own (.lst ds)) => seeR (nOwn (as.take n)) (.lst ds) (Fn (as.set n (.dat (.lst ds))))
  | _ => Fn as
section
variable {cm : CM} {K : PySem.W.Frag} {M : Hd} {H : Hp} {ls : List Addr} {j : Nat} {l : Addr} {us : List V} {ds : List Dat}
/-- what is known when one lent list is shown -/
structure Shown (cm : CM) (K : PySem.W.Frag) (M : Hd) (H : Hp) (ls : List Addr) (j : Nat) (l : Addr) (us : List V) (ds : List Dat) : Prop where
  at_ : ls[j]? = some l
  hl : H l = some (.lst us)
  rp : RpAll cm K (hid M H) us ds
  lv : live M H
  sub : ∀ l, l ∈ ls → l ∈ M
  nd : ls.Nodup
theorem Shown.out (z : Shown cm K M H ls j l us ds) : ∀ x, x ∈ ls.eraseIdx j → x ∈ ls ∧ x ≠ l := fun x hx => by
  refine ⟨List.mem_of_mem_eraseIdx hx, fun e => ?_⟩
  subst e
  obtain ⟨i, hi, e⟩ := List.getElem_of_mem hx
  have h2 : (ls.eraseIdx j)[i]? = some x := by rw [List.getElem?_eq_getElem hi, e]
  rw [List.getElem?_eraseIdx] at h2
  split at h2
  · exact absurd (nd_ix z.nd h2 z.at_) (by omega)
  · exact absurd (nd_ix z.nd h2 z.at_) (by omega)
theorem Shown.keep (z : Shown cm K M H ls j l us ds) {H' : Hp} (kp : ∀ a o, H a = some o → a ∉ ls.eraseIdx j → H' a = some o) :
    H' l = some (.lst us) ∧ (∀ a o, H a = some o → a ∉ ls → H' a = some o) ∧ (∀ a, a ∈ M → a ∈ M.wo l ∨ ∃ us, H' a = some (.lst us)) ∧ OwnOk cm K (hid M H') H' l (.lst ds) := by
  have h1 : H' l = some (.lst us) := kp l _ z.hl fun q => (z.out l q).2 rfl
  have h2 : ∀ a o, H a = some o → a ∉ ls → H' a = some o := fun a o e n => kp a o e fun q => n (z.out a q).1
  refine ⟨h1, h2, fun a ha => ?_, .lst h1 (z.rp.mono (hid_same fun a o n e => h2 a o e fun q => n (z.sub a q)))⟩
  by_cases e : a = l
  · exact .inr ⟨us, by rw [e]; exact h1⟩
  · exact .inl (Hd.mem_wo.mpr ⟨ha, e⟩)
theorem see_sp {n : Nat} {Fn : List FA → RF} {vs : List V} {Q : VK} {E : XK} (h : spF cm K (see1 n Fn) vs H Q E) : spF cm K Fn vs H Q E := by
  obtain ⟨M, as, ls, lv, lm, ln, ao, of⟩ := h
  unfold see1 at of
  split at of
  · rename_i ds hn
    obtain ⟨l, us, c1, c2, c3, c4⟩ := args_see ao hn
    have z : Shown cm K M H ls _ l us ds := ⟨c1, c2, c3, lv, lm, ln⟩
    have sM : Same (hid M H) (hid (M.wo l) H) := hid_sub (fun a ha => (Hd.mem_wo.mp ha).1) rfl
    have hlv : hid (M.wo l) H l = some (.lst us) := by
      rw [hid_out, c2]
      exact fun q => (Hd.mem_wo.mp q).2 rfl
    refine ⟨M.wo l, _, _, ⟨fun m hm => lv.v m (Hd.mem_wo.mp hm).1⟩, fun x hx => Hd.mem_wo.mpr ⟨lm x (z.out x hx).1, (z.out x hx).2⟩, ln.sublist (List.eraseIdx_sublist ..), c4 _ sM hlv, ?_⟩
    cases hF : Fn (as.set n (.dat (.lst ds))) with
    | bad => rw [hF] at of; exact of
    | ok d outs =>
      rw [hF] at of
      intro v H' kp oo rv
      obtain ⟨k1, k2, k3, k4⟩ := z.keep kp
      unfold seeR at of
      dsimp only at of
      split at of
      · rename_i hf
        rw [Bool.and_eq_true] at hf
        exact of v H' k2 (outs_ins k4 c1 (flatO_rp k3 oo hf.2)) (flt_rp k3 rv hf.1)
      · exact of.elim
    | exc c es outs =>
      rw [hF] at of
      intro da gs H' kp oo hda rg
      obtain ⟨k1, k2, k3, k4⟩ := z.keep kp
      unfold seeR at of
      dsimp only at of
      split at of
      · rename_i hf
        rw [Bool.and_eq_true] at hf
        refine of da gs H' k2 (outs_ins k4 c1 (flatO_rp k3 oo hf.2)) ?_ (flatF_rp k3 rg hf.1)
        by_cases hd : da ∈ M.wo l
        · rw [hid_in hd] at hda; cases hda
        · rw [hid_out hd] at hda
          rw [hid_out, hda]
          intro q
          rcases k3 da q with y | ⟨_, y⟩
          · exact hd y
          · rw [y] at hda; cases hda
      · exact of.elim
  · exact ⟨M, as, ls, lv, lm, ln, ao, of⟩
end
theorem FnG.weak {P : Program} {w : World} {K : PySem.W.Frag} {mg : Str → Option Value} {base : Heap} {CX : CXT} {k : Nat} {f : Addr} {fd : FuncData} {ps : List Str} {sp sp' : Sp} (F : FnG P w K mg base CX k f fd ps sp) (h : ∀ vs H Q E, sp' vs H Q E → sp vs H Q E) : FnG P w K mg base CX k f fd ps sp' :=
  ⟨fun vs H Q E z => F.len vs H Q E (h vs H Q E z), fun A outer s H args us vs Q E hr hg e0 hb r z => F.run A outer s H args us vs Q E hr hg e0 hb r (h vs H Q E z)⟩
theorem FnG.see {P : Program} {w : World} {K : PySem.W.Frag} {mg : Str → Option Value} {base : Heap} {CX : CXT} {k : Nat} {f : Addr} {fd : FuncData} {ps : List Str} {cm : CM} {Fn : List FA → RF} (n : Nat) (F : FnG P w K mg base CX k f fd ps (spF cm K Fn)) : FnG P w K mg base CX k f fd ps (spF cm K (see1 n Fn)) := F.weak fun _ _ _ _ h => see_sp h
end Mir
/-! MirZC: enumerate(reversed(a list), start=k) as a walk -/
namespace Mir
open PySem PySem.Spec PyProof.Rows L2
end Mir
/-! MirZD: defs that give new lists, whatever they are given -/
namespace Mir
open PySem PySem.Spec PyProof.Rows L2
inductive RN where
  | ok (ds : List Dat) (outs : List Own)
  | exc (c : Str) (fs : List (Str × Dat)) (outs : List Own)
  | bad
def outN (cm : CM) (K : PySem.W.Frag) (M : Hd) (ls : List Addr) (H : Hp) (Q : VK) (E : XK) : RN → Prop
  | .ok ds outs => ∀ l xs H', (∀ a o, H a = some o → a ∉ ls → H' a = some o) → OutsOk cm K (hid M H') H' ls outs → H' l = none → RpAll cm K (hid M H') xs ds → Q (.ref l) (upd H' l (.lst xs))
  | .exc c fs outs => ∀ da gs H', (∀ a o, H a = some o → a ∉ ls → H' a = some o) → OutsOk cm K (hid M H') H' ls outs → hid M H' da = some (.xd gs) → RpF cm K (hid M H') gs fs → E (.ref (cm c)) (some da) H'
  | .bad => False
def spN (cm : CM) (K : PySem.W.Frag) (L : List FA → RN) : Sp := fun vs H Q E => ∃ M as ls, live M H ∧ (∀ l, l ∈ ls → l ∈ M) ∧ ls.Nodup ∧ ArgsOk cm K (hid M H) H vs as ls ∧ outN cm K M ls H Q E (L as)
/-- the new list as a plain value -/
def datN (L : List FA → RN) (as : List FA) : RF := match L as with
  | .ok ds outs => .ok (.lst ds) outs
  | .exc c fs outs => .exc c fs outs
  | .bad => .bad
theorem outs_mono {cm : CM} {K : PySem.W.Frag} {G G' : VH} {H H' : Hp} (s : Same G G') (e : ∀ a o, H a = some o → H' a = some o) : ∀ {ls : List Addr} {os : List Own}, OutsOk cm K G H ls os → OutsOk cm K G' H' ls os
  | _, _, .nil => .nil
  | _, _, .cons a b => .cons (a.mono s fun _ q => e _ _ q) (outs_mono s e b)
theorem outs_live {cm : CM} {K : PySem.W.Frag} {G : VH} {H : Hp} : ∀ {ls : List Addr} {os : List Own}, OutsOk cm K G H ls os → ∀ l, l ∈ ls → Lv (H l)
  | _, _, .nil, l, h => by cases h
  | _, _, .cons a b, l, h => by
    rcases List.mem_cons.mp h with z | z
    · rw [z]; exact a.lv
    · exact outs_live b l z
section
variable {cm : CM} {K : PySem.W.Frag} {H : Hp} {vs : List V} {Q : VK} {E : XK} {L : List FA → RN} {n : Nat}
theorem dat_sp (h : spF cm K (datN L) vs H Q E) : spN cm K L vs H Q E := by
  obtain ⟨M, as, ls, lv, lm, ln, ao, of⟩ := h
  refine ⟨M, as, ls, lv, lm, ln, ao, ?_⟩
  unfold datN at of
  cases hF : L as with
  | bad => rw [hF] at of; exact of
  | exc c es outs => rw [hF] at of; exact of
  | ok ds outs =>
    rw [hF] at of
    intro l xs H' kp oo hl rx
    have lv' : live M H' := ⟨fun m hm => by
      by_cases hm2 : m ∈ ls
      · exact outs_live oo m hm2
      · have y := lv.v m hm
        cases q : H m with
        | none => exact absurd q y.ne
        | some o => rw [kp m o q hm2]; rw [q] at y; exact y⟩
    have sn : L2.Same H' (upd H' l (.lst xs)) := same_new hl
    exact of _ _ (fun a o e n => sn a o (kp a o e n)) (outs_mono (hid_grow sn) sn oo) (.lst (hid_new lv' hl) (RpAll.mono (hid_grow sn) rx))
end
section
variable {P : Program} {w : World} {K : PySem.W.Frag} {mg : Str → Option Value} {base : Heap} {CX : CXT} {k : Nat} {f : Addr} {fd : FuncData} {ps : List Str} {cm : CM} {L : List FA → RN}
theorem FnG.dat (F : FnG P w K mg base CX k f fd ps (spN cm K L)) : FnG P w K mg base CX k f fd ps (spF cm K (datN L)) := F.weak fun _ _ _ _ h => dat_sp h
end
/-! ### bodies -/
/-- the def's own list leaves it -/
theorem Rel.drop {F : Fm} {S : Sg} {σ : L2.St} {H : Hp} (R : Rel F S σ H) {i : Nat} {l : Addr} {ds : List Dat} (hi : S[i]? = some (.loc ds)) (hl : σ[i]? = some (some (.ref l))) :
    ∃ vs H', H = upd H' l (.lst vs) ∧ H' l = none ∧ Rel F (S.set i .no) σ H' ∧ vis F (S.set i .no) σ H' = vis F S σ H ∧ RpAll F.cm F.K (vis F S σ H) vs ds := by
  have hin : l ∈ locs S σ := mem_locs.mpr ⟨i, ds, hi, hl⟩
  have hM := R.locM hin
  have nl : F.H0 l = none := R.new l hin
  have y := R.sl i _ _ hi hl
  have sub : List.Sublist (locs (S.set i .no) σ) (locs S σ) := by
    have := locs_set_sub (S := S) (σ := σ) (i := i) (s := .no) (v := some (.ref l)) rfl
    rw [set_same hl] at this
    exact this
  have gone : l ∉ locs (S.set i .no) σ := locs_set_gone R.nd hi hl rfl
  have inS : ∀ a, a ∈ locs S σ → a = l ∨ a ∈ locs (S.set i .no) σ := fun a ha => by
    obtain ⟨k, es, a1, a2⟩ := mem_locs.mp ha
    by_cases e : k = i
    · subst e; rw [hl] at a2; cases a2; exact .inl rfl
    · exact .inr (mem_locs.mpr ⟨k, es, by rw [List.getElem?_set_ne fun z => e z.symm]; exact a1, a2⟩)
  cases y with
  | @loc _ _ vs eh r =>
    refine ⟨vs, fun a => if a = l then none else H a, ?_, if_pos rfl, ?_, ?_, r⟩
    · funext a
      by_cases e : a = l
      · rw [e, upd_same]; exact eh
      · rw [upd_ne e, if_neg e]
    all_goals
      have eV : vis F (S.set i .no) σ (fun a => if a = l then none else H a) = vis F S σ H := by
        have e : (vis F (S.set i .no) σ (fun a => if a = l then none else H a)).h = (vis F S σ H).h := by
          funext a
          unfold vis
          by_cases e : a = l
          · rw [e, hid_in (M := F.M ++ locs S σ) (Hd.mem_right _ hin)]
            rw [hid_out fun z => (Hd.mem_app.mp z).elim hM gone, if_pos rfl]
          · by_cases ha : a ∈ F.M ++ locs S σ
            · rw [hid_in ha]
              refine hid_in ?_
              rcases Hd.mem_app.mp ha with z | z
              · exact Hd.mem_left _ z
              · exact Hd.mem_right _ ((inS a z).resolve_left e)
            · rw [hid_out ha, hid_out, if_neg e]
              intro z
              refine ha ?_
              rcases Hd.mem_app.mp z with z | z
              · exact Hd.mem_left _ z
              · exact Hd.mem_right _ (sub.subset z)
        show (⟨(vis F (S.set i .no) σ (fun a => if a = l then none else H a)).h, F.M.ρ⟩ : VH) = ⟨(vis F S σ H).h, F.M.ρ⟩
        rw [e]
    · refine ⟨by rw [List.length_set]; exact R.len, fun k t w a b => ?_, R.nd.sublist sub, fun x hx => R.new x (sub.subset hx), R.ond.sublist (owns_set_sub fun _ _ z => by cases z), R.and_, R.ain, fun a h => ?_, fun x hx => R.lom x (sub.subset hx), fun q h => ⟨?_, (R.tmp q h).2⟩, fun a o q n => ?_, ?_⟩
      · rw [eV]
        rcases get_set_cases a with ⟨ek, rfl⟩ | ⟨ek, a⟩
        · exact .no
        · refine (R.sl k t w a b).mono (.refl _) fun l' x hd q => ?_
          show (if l' = l then none else H l') = some x
          rw [if_neg fun z => ek (R.apart a b hi hl (by rw [← z]; exact hd) rfl)]; exact q
      · show Lv (if a = l then none else H a)
        rw [if_neg fun z => hM (by rw [← z]; exact h)]
        exact R.liv a h
      · show (if q.1 = l then none else H q.1) = some q.2
        rw [if_neg fun z => hM (by rw [← z]; exact (R.tmp q h).2.1)]
        exact (R.tmp q h).1
      · show (if a = l then none else H a) = some o
        rw [if_neg fun z => by rw [z, nl] at q; cases q]
        exact R.keep a o q n
      · have y := R.hp.set (H' := H) (i := i) (s := .no) (fun _ z => by cases z) (fun _ _ z => by cases z) fun _ z => z
        exact ⟨y.one, y.him, y.thl, y.lnd, y.thn, y.n0, y.nr⟩
    · exact eV
end Mir
/-! MirZE: the defs that give new lists, and their calls -/
namespace Mir
open PySem PySem.Spec PyProof.Rows L2
end Mir
/-! MirZF: the native side of MirZ .. MirZE -/
namespace Mir
open PySem
end Mir
/-! MirZG: what a body of a def that gives a new list comes to -/
namespace Mir
open PySem
end Mir
/-! MirZH: own +, a new dict, repr of several classes; exceptions on the native side -/
namespace Mir
open PySem PySem.Spec PyProof.Rows L2
/-! ### own + of two objects of one class -/
structure AddF (K : PySem.W.Frag) (C f : Addr) : Prop where
  ad : PySem.W.findIn K (.ref C) "__add__" = some (some (.ref f))
  fn : PySem.W.isFn K (.ref f) = true
  sf : PySem.W.selfFirst K C = true
theorem Kn.addI {fa : List Fc} {fn : List DefM} {K : PySem.W.Frag} {mg : Str → Option Value} {x y : Str} (c : Kn fa fn K mg) (i : Nat) (h : fa[i]? = some (.addI x y) := by rfl) : AddF K (He.ga K x) (He.ma K (He.ga K y) "__add__") := by
  have z := c.fact i h
  obtain ⟨c1, z⟩ := He.ba z
  obtain ⟨c2, c3⟩ := He.ba z
  exact ⟨He.eqO_ok c1, c2, c3⟩
/-! ### exceptions, native -/
abbrev Exc := Str × List (Str × Dat)
def EndsX (k : Nat) (e : Exc) (x : Rs Fl) : Prop := ∃ o, endF k x = .exc e.1 e.2 o ∧ o.length = k
def RTx (k : Nat) (e : Exc) (x : Rs Fl) : Prop := (∃ c fs S, x = .exc c fs S) ∧ EndsX k e x
theorem rtx_of {k : Nat} {e : Exc} {c : Str} {fs : List (Str × Dat)} {S : Sg} (h : EndsX k e (.exc c fs S)) : RTx k e (.exc c fs S) := ⟨⟨_, _, _, rfl⟩, h⟩
theorem rtx {k : Nat} : ∀ (v : Exc) (x : Rs Fl), RTx k v x → ∃ c fs S, x = .exc c fs S := fun _ _ h => h.1
def orX {τ : Type} (inj : Exc → τ) (x : Option Exc) (y : Option τ) : Option τ := match x with
  | some e => some (inj e)
  | none => y
theorem orX_some {τ : Type} {inj : Exc → τ} {x : Option Exc} {y : Option τ} {a : τ} (h : orX inj x y = some a) : (∃ e, x = some e ∧ inj e = a) ∨ (x = none ∧ y = some a) := by
  cases x with
  | some e => exact .inl ⟨e, rfl, Option.some.inj h⟩
  | none => exact .inr ⟨rfl, h⟩
theorem f_runX {np n : Nat} {m : MS} {as : List FA} {a : Exc} {k : Nat} {S : Sg} (hl : as.length = np) (hk : nOwn as = k) (hS : mkSlots 0 as ++ List.replicate (n - np) .no = S) (h : EndsX k a (m S)) : ∃ o, runDef np n m as = .exc a.1 a.2 o ∧ o.length = k := by
  obtain ⟨o, h1, h2⟩ := h
  exact ⟨o, by unfold runDef; rw [if_pos hl, hk, hS]; exact h1, h2⟩
section
variable {S S1 S2 S3 : Sg} {ma : ME} {P : Rs Fl → Prop} {m rest : MS} {e : Exc}
theorem s_raise {c : Str} {Fx : List Dat → Option (List (Str × Dat))} {n : Nat} {mr : MAv} {as : List AV} {ds : List Dat} {fs : List (Str × Dat)} (ha : mr S = .ok as S1) (hl : as.length = n) (hd : datsA as = some ds) (hx : Fx ds = some fs) (k : P (.exc c fs S1)) : P (mSeq (mRaise c Fx n mr) rest S) :=
  s_out (r := .exc c fs S1) (by unfold mRaise; rw [ha, Rs.bind_ok, if_pos hl, hd]; simp only [hx]) (fun _ h => by cases h) k
theorem s_excD (he : ma S = .exc e.1 e.2 S1) (k : P (.exc e.1 e.2 S1)) : P (mSeq (mDrop ma) rest S) := s_out (r := .exc e.1 e.2 S1) (by unfold mDrop; rw [he]; rfl) (fun _ h => by cases h) k
/-- calls that raise; nothing is lent -/
theorem x_applyX {Fn : List FA → RF} {as : List AV} {fs : List FA} (hf : fetch S as = some (fs, [])) (hF : ∃ o, Fn fs = .exc e.1 e.2 o ∧ o.length = 0) : applyF Fn as S = .exc e.1 e.2 S := by
  obtain ⟨o, h1, h2⟩ := hF
  obtain rfl := List.length_eq_zero_iff.mp h2
  unfold applyF
  simp only [hf, h1]
  rfl
theorem x_callFX {Fn : List FA → RF} {n m : Nat} {arr : List AV → List AV → List AV} {mA mK : MAv} {as bs : List AV} {fs : List FA} (ha : mA S = .ok as S1) (hk : mK S1 = .ok bs S2) (hl : as.length = n ∧ bs.length = m) (hf : fetch S2 (arr as bs) = some (fs, [])) (hF : ∃ o, Fn fs = .exc e.1 e.2 o ∧ o.length = 0) : mCallF Fn n m arr mA mK S = .exc e.1 e.2 S2 := by
  unfold mCallF; rw [ha, Rs.bind_ok, hk, Rs.bind_ok, if_pos hl]; exact x_applyX hf hF
theorem x_makeX {cn : Str} {Fn : List FA → RF} {n m : Nat} {arr : List AV → List AV → List AV} {mA mK : MAv} {as bs : List AV} {fs : List FA} (ha : mA S = .ok as S1) (hk : mK S1 = .ok bs S2) (hl : as.length = n ∧ bs.length = m) (hf : datsOf (arr as bs) = some fs) (hF : ∃ o, Fn (.own (.obj cn []) :: fs) = .exc e.1 e.2 o ∧ o.length = 1) : mMake cn Fn n m arr mA mK S = .exc e.1 e.2 S2 := by
  obtain ⟨o, h1, h2⟩ := hF
  obtain ⟨o1, rfl⟩ := List.length_eq_one_iff.mp h2
  unfold mMake; rw [ha, Rs.bind_ok, hk, Rs.bind_ok, if_pos hl]; simp only [makeF, fetch_dats hf, h1]; rfl
/-! try -/
def tryN {τ : Type} (n : Option Unit) (x : Option Exc) (k : Option τ) (h : Exc → Option τ) : Option τ := match n with
  | some _ => k
  | none => x.bind h
theorem tryN_some {τ : Type} {n : Option Unit} {x : Option Exc} {k : Option τ} {hh : Exc → Option τ} {a : τ} (h : tryN n x k hh = some a) : (n = some () ∧ k = some a) ∨ (∃ e, n = none ∧ x = some e ∧ hh e = some a) := by
  cases n with
  | some u => exact .inl ⟨rfl, h⟩
  | none =>
    obtain ⟨e, h1, h2⟩ := bind_some (show x.bind hh = some a from h)
    exact .inr ⟨e, rfl, h1, h2⟩
def catches (tab : List (Str × Bool)) (e : Exc) : Option Unit := if tab.lookup e.1 = some true then some () else none
theorem catches_some {tab : List (Str × Bool)} {e : Exc} {u : Unit} (h : catches tab e = some u) : tab.lookup e.1 = some true := by
  unfold catches at h
  split at h
  · assumption
  · cases h
/-- what an except suite must end with -/
def TryP (i : Nat) (rest : MS) (P : Rs Fl → Prop) : Rs Fl → Prop
  | .ok .nx S => noExn (S.set i .no) = true ∧ P (rest (S.set i .no))
  | .ok (.rt d) S => noExn (S.set i .no) = true ∧ P (.ok (.rt d) (S.set i .no))
  | _ => False
theorem tp_nx {i : Nat} (h0 : S.set i .no = S1) (h : noExn S1 = true) (k : P (rest S1)) : TryP i rest P (mNext S) := by
  show noExn (S.set i .no) = true ∧ P (rest (S.set i .no))
  rw [h0]; exact ⟨h, k⟩
theorem s_tryOk {tab : List (Str × Bool)} {i : Nat} {mb ms : MS} (h : mb S = .ok .nx S1) (k : P (rest S1)) : P (mSeq (mTry tab i mb ms) rest S) := s_run (by unfold mTry; rw [h]) k
theorem s_tryX {tab : List (Str × Bool)} {i : Nat} {mb ms : MS} (h : mb S = .exc e.1 e.2 S1) (ht : tab.lookup e.1 = some true) (hS : S1.set i (.exn e.1 e.2) = S2) (k : TryP i rest P (ms S2)) : P (mSeq (mTry tab i mb ms) rest S) := by
  have e0 : mTry tab i mb ms S = (match ms S2 with
      | .ok fl S3 => if noExn (S3.set i .no) = true then .ok fl (S3.set i .no) else .bad
      | _ => .bad) := by unfold mTry; rw [h]; simp only [ht, hS]; all_goals rfl
  cases hm : ms S2 with
  | bad => rw [hm] at k; exact k.elim
  | exc _ _ _ => rw [hm] at k; exact k.elim
  | ok fl S3 =>
    rw [hm] at k e0
    cases fl with
    | nx =>
      obtain ⟨k1, k2⟩ := k
      dsimp only at e0
      rw [if_pos k1] at e0
      exact s_run e0 k2
    | rt d =>
      obtain ⟨k1, k2⟩ := k
      dsimp only at e0
      rw [if_pos k1] at e0
      exact s_out e0 (fun _ z => by cases z) k2
    | bk => exact k.elim
    | ct => exact k.elim
def xfN (cs : List Str) (nm : Str) (e : Exc) : Option Dat := if cs.contains e.1 then e.2.lookup nm else none
theorem x_xf {cs : List Str} {nm : Str} {i : Nat} {d : Dat} (h : S[i]? = some (.exn e.1 e.2)) (hx : xfN cs nm e = some d) : mXf cs i nm S = .ok d S := by
  unfold xfN at hx
  unfold mXf
  simp only [h]
  split at hx
  · rename_i z; rw [if_pos z, hx]; rfl
  · cases hx
theorem x_isX {tab : List (Str × Bool)} {i : Nat} {t : Bool} (h : S[i]? = some (.exn e.1 e.2)) (hx : tab.lookup e.1 = some t) : mIsX tab i S = .ok (.bl t) S := by
  unfold mIsX
  simp only [h, hx]
  rfl
theorem fx_of {np : Nat} {mf : ME} {flds : List (Str × Nat)} {ds : List Dat} {d : Dat} {fs : List (Str × Dat)} (hl : ds.length = np) (h : mf (.no :: ds.map Slot.dat) = .ok d S) (hf : putsD ds flds [] = fs) : fxOf np mf flds ds = some fs := by
  unfold fxOf; rw [if_pos hl, h]; exact congrArg some hf
end
/-! loops whose body may raise -/
theorem forLX_ok {ι ρ σ : Type} {T : σ → (Nat → Slot) → Sg} {RT : ρ → Rs Fl → Prop} {f : ι → Dat} {g : MG} {b : MS} {nb : ι → σ → Option (Stp ρ σ)}
    (hR : ∀ v r, RT v r → ∃ c fs S, r = .exc c fs S)
    (hb : ∀ x s j st, nb x s = some st → ∃ S1, g (f x) (T s j) = .ok () S1 ∧ LB T RT st (b S1)) : ∀ (its : List ι) (s : σ) (j : Nat → Slot) (st : Stp ρ σ), forL nb its s = some st → LE T RT st (loopS g b (its.map f) (T s j))
  | [], s, j, s', h => by cases h; exact ⟨j, rfl⟩
  | x :: xs, s, j, st, h => by
    obtain ⟨st1, h1, h2⟩ := bind_some h
    obtain ⟨S1, e1, e2⟩ := hb x s j st1 h1
    rw [List.map_cons]
    unfold loopS
    rw [e1, Rs.bind_ok]
    cases st1 with
    | nx s1 =>
      obtain ⟨j1, e2⟩ := e2
      have e3 := forLX_ok hR hb xs s1 j1 st h2
      rcases e2 with e2 | e2 <;> · rw [e2]; exact e3
    | bk s1 =>
      obtain ⟨j1, e2⟩ := e2
      cases h2
      rw [e2]
      exact ⟨j1, rfl⟩
    | rt v =>
      cases h2
      obtain ⟨c, fs, S2, e3⟩ := hR v _ e2
      have e4 : RT v (b S1) := e2
      rw [e3] at e4 ⊢
      exact e4
theorem s_rtx {k : Nat} {v : Exc} {m rest : MS} {S : Sg} {P : Rs Fl → Prop} (h : RTx k v (m S)) (hp : P (m S)) : P (mSeq m rest S) := by
  obtain ⟨c, fs, S2, e⟩ := h.1
  exact s_out (r := m S) rfl (fun S3 z => by rw [e] at z; cases z) hp
/-! comparisons of any values -/
def cmpB (g : Dat → Dat → Option Dat) (a b : Dat) : Option Bool := match g a b with
  | some (.bl t) => some t
  | _ => none
theorem q_cmpB {g : Dat → Dat → Option Dat} {a b : Dat} {t : Bool} (h : cmpB g a b = some t) : g a b = some (.bl t) := by
  unfold cmpB at h
  split at h
  · rename_i z; cases h; exact z
  · cases h
end Mir
namespace Mir
open PySem L2
end Mir
/-! MirZI: more of the native side (not needed by the mirrors) -/
namespace Mir
open PySem L2
def TrN (S : Sg) (r : Rs Fl) : Prop := r = .ok .nx S
def TrX (S : Sg) (a : Exc) (r : Rs Fl) : Prop := r = .exc a.1 a.2 S
end Mir
/-! MirZJ: classmethods with a star parameter; str by an own __str__; is True -/
namespace Mir
open PySem PySem.Spec PyProof.Rows L2
/-! ### C.m(e, ..) -/
/-! ### str by an own __str__ -/
end Mir
/-! MirZK: enumerate(a tuple); == of objects of a family -/
namespace Mir
open PySem PySem.Spec PyProof.Rows L2
/-! ### a, b, c = x, y, z -/
/-! ### == of a family -/
end Mir
/-! MirZL: the native side of MirZJ, MirZK -/
namespace Mir
open PySem
section
variable {S S1 S2 : Sg} {d : Dat} {e : Exc}
/-! any -/
def lenB : Dat → Option Int
  | .lst ds => some ds.length
  | .tup ds => some ds.length
  | .ro ds => some ds.length
  | _ => none
theorem q_lenB {d : Dat} {i : Int} (h : lenB d = some i) : lenC [d] = some (.int i) := by
  cases d <;> first | (cases h; rfl) | cases h
theorem eL_any {α : Type} {f : α → Dat} {xs : List α} : eL f xs = eL eD (xs.map f) := by
  show Dat.lst (xs.map f) = Dat.lst ((xs.map f).map eD)
  congr 1
  exact (List.map_id _).symm
end
end Mir
/-! MirZM: == of objects where the right one's class is under the left one's; a, b, c = new list, x, y -/
namespace Mir
open PySem PySem.Spec PyProof.Rows L2
/-! ### == of a family, the right one of any kind. tb: a class, the classes that may stand to the right as usual, those that are asked first -/
/-! ### x, y, z = new list, value, value -/
end Mir
/-! MirZN: the native side of MirZM -/
namespace Mir
open PySem
/-! a comprehension in which a list of the def's own is first read -/
end Mir
/-! MirZO: methods with keywords; methods that give new lists; range downwards; own lists cleared and turned -/
namespace Mir
open PySem PySem.Spec PyProof.Rows L2
/-! ### range downwards -/
end Mir
/-! MirZP: the native side of MirZO -/
namespace Mir
open PySem L2
end Mir
/-! MirZQ: comprehensions with two fors -/
namespace Mir
open PySem PySem.Spec PyProof.Rows L2
section
variable {X : Cx} {cm : CM} {W : WX} {elt tg iter tg1 iter1 : Expr} {ifs ifs1 : List Expr} {scope : Scope} {own : List (Str × Nat)} {vs1 : List Nat} {pos : Pos} {mi mi1 : Sg → Rs (List Dat)} {t t1 : TG} {g g1 : Dat → Sg → Option Sg} {c c1 : MT} {e : ME}
theorem TgOk.sub {K : PySem.W.Frag} {ws vs : List Nat} (h : TgOk cm K t ws g) (hs : ∀ i, i ∈ ws → i ∈ vs) : TgOk cm K t vs g := fun F S σ H x d S' Q e1 e2 R p e k =>
  h F S σ H x d S' Q e1 e2 R p e fun σ2 ew R2 s2 => k σ2 (by
    rw [← wipe_idem vs ws σ2 hs, ew, wipe_idem vs ws σ hs]) R2 s2
end
/-! ### native -/
end Mir
/-! MirZR: things: read, changed, new -/
namespace Mir
open PySem PySem.Spec PyProof.Rows L2
/-- the things in a slot -/
def thsAt (g : Nat) (S : Sg) : Option Ths := match S[g]? with
  | some (.heap T) => some T
  | _ => none
def thAt (g k : Nat) (S : Sg) : Option Own := match S[g]? with
  | some (.heap T) => T[k]?
  | _ => none
theorem thAt_of {g k : Nat} {S : Sg} {o : Own} (h : thAt g k S = some o) : ∃ T, S[g]? = some (.heap T) ∧ T[k]? = some o := by
  unfold thAt at h
  cases hs : S[g]? with
  | none => rw [hs] at h; cases h
  | some s =>
    rw [hs] at h
    cases s with
    | heap T => exact ⟨T, rfl, h⟩
    | _ => cases h
/-- a thing gets another content -/
def setTh (g k : Nat) (o : Own) (S : Sg) : Sg := match S[g]? with
  | some (.heap T) => S.set g (.heap (T.set k o))
  | _ => S
section
variable {F : Fm} {S : Sg} {σ : L2.St} {H : Hp} {g k : Nat}
theorem locs_heap {T U : Ths} (h : S[g]? = some (.heap T)) : locs (S.set g (.heap U)) σ = locs S σ := by
  have key : ∀ (S : Sg) (σ : L2.St) (g : Nat), S[g]? = some (.heap T) → locs (S.set g (.heap U)) σ = locs S σ := by
    intro S
    induction S with
    | nil => intro σ g h; simp at h
    | cons s S ih =>
      intro σ g h
      cases σ with
      | nil =>
        have : ∀ T : Sg, locs T [] = [] := fun T => by cases T with
          | nil => rfl
          | cons x r => cases x <;> rfl
        simp [this]
      | cons v σ =>
        cases g with
        | zero => simp at h; subst h; rfl
        | succ g =>
          have := ih σ g (by simpa using h)
          show locs (s :: S.set g _) (v :: σ) = locs (s :: S) (v :: σ)
          cases s with
          | loc ds =>
            cases v with
            | none => exact this
            | some v =>
              cases v with
              | ref l => simp [locs, this]
              | _ => exact this
          | _ => simpa [locs] using this
  exact key S σ g h
theorem owns_heap {T U : Ths} (h : S[g]? = some (.heap T)) : owns (S.set g (.heap U)) = owns S := by
  have key : ∀ (S : Sg) (g : Nat), S[g]? = some (.heap T) → owns (S.set g (.heap U)) = owns S := by
    intro S
    induction S with
    | nil => intro g h; simp at h
    | cons s S ih =>
      intro g h
      cases g with
      | zero => simp at h; subst h; rfl
      | succ g =>
        have := ih g (by simpa using h)
        show owns (s :: S.set g _) = owns (s :: S)
        cases s with
        | own j o => simp [owns, this]
        | _ => simpa [owns] using this
  exact key S g h
theorem Rel.slotAt (R : Rel F S σ H) {i : Nat} {s : Slot} (h : S[i]? = some s) : ∃ v, σ[i]? = some v ∧ SlotOk F (vis F S σ H) H s v := by
  have hl : i < σ.length := by rw [← R.len]; exact (List.getElem?_eq_some_iff.mp h).1
  exact ⟨_, List.getElem?_eq_getElem hl, R.sl i s _ h (List.getElem?_eq_getElem hl)⟩
/-- a thing, where it stands -/
theorem Rel.th (R : Rel F S σ H) {T : Ths} {o : Own} (hg : S[g]? = some (.heap T)) (hk : T[k]? = some o) : ∃ l, F.M.ρ[k]? = some l ∧ l ∈ F.M ∧ OwnOk F.cm F.K (vis F S σ H) H l o := by
  obtain ⟨v, _, y⟩ := R.slotAt hg
  cases y with
  | heap e f => exact f k o hk
theorem Rel.thl (R : Rel F S σ H) {T : Ths} (hg : S[g]? = some (.heap T)) : T.length = F.M.ρ.length := by
  obtain ⟨v, _, y⟩ := R.slotAt hg
  cases y with
  | heap e f => exact e
/-- a thing changes -/
theorem Rel.thSet (R : Rel F S σ H) {T : Ths} {o u : Own} {l : Addr} {ho : HO} (hg : S[g]? = some (.heap T)) (hk : T[k]? = some o) (hl : F.M.ρ[k]? = some l) (r : OwnOk F.cm F.K (vis F S σ H) (upd H l ho) l u) :
    Rel F (S.set g (.heap (T.set k u))) σ (upd H l ho) ∧ Same (vis F S σ H) (vis F (S.set g (.heap (T.set k u))) σ (upd H l ho)) := by
  obtain ⟨l', hl', hM, ok⟩ := R.th hg hk
  rw [hl] at hl'; cases hl'
  obtain ⟨t1, t2, t3⟩ := R.hp.thl g T k o l hg hk hl
  have eL : locs (S.set g (.heap (T.set k u))) σ = locs S σ := locs_heap hg
  have eG : vis F (S.set g (.heap (T.set k u))) σ (upd H l ho) = vis F S σ H := by
    unfold vis
    rw [eL, hid_upd (Hd.mem_left _ hM)]
  obtain ⟨vg, hvg, yg⟩ := R.slotAt hg
  -- a live thing of the new table is one of the old
  have old : ∀ (n : Nat) (w : Own), (T.set k u)[n]? = some w → ∃ w', T[n]? = some w' := fun n w h => by
    rcases get_set_cases h with ⟨e, _⟩ | ⟨_, h⟩
    · exact ⟨o, by rw [e]; exact hk⟩
    · exact ⟨w, h⟩
  have hpS : ∀ (i : Nat) (U : Ths), (S.set g (.heap (T.set k u)))[i]? = some (.heap U) → i = g ∧ U = T.set k u := fun i U h => by
    rcases get_set_cases h with ⟨e, e2⟩ | ⟨e, h⟩
    · exact ⟨e, by cases e2; rfl⟩
    · exact absurd (R.hp.one i g _ _ h hg) e
  refine ⟨⟨by rw [List.length_set]; exact R.len, fun i s v a b => ?_, by rw [eL]; exact R.nd, fun x hx => R.new x (by rw [← eL]; exact hx), by rw [owns_heap hg]; exact R.ond, R.and_, R.ain, fun a h => (R.liv a h).set r.lv, fun x hx => R.lom x (by rw [← eL]; exact hx), fun p h => ⟨by rw [upd_ne (t2 p h)]; exact (R.tmp p h).1, (R.tmp p h).2⟩, fun a x q n => ?_, ?_⟩, by rw [eG]; exact .refl _⟩
  · rw [eG]
    rcases get_set_cases a with ⟨ei, rfl⟩ | ⟨ei, a⟩
    · cases yg with
      | heap e f =>
        refine .heap (by rw [List.length_set]; exact e) fun n w hn => ?_
        rcases get_set_cases hn with ⟨en, ew⟩ | ⟨en, hn⟩
        · cases ew; rw [en]; exact ⟨l, hl, hM, r⟩
        · obtain ⟨x, x1, x2, x3⟩ := f n w hn
          refine ⟨x, x1, x2, x3.mono (.refl _) fun y q => ?_⟩
          rw [upd_ne fun z => en (R.hp.lnd g T n k w o l hg hn hk (by rw [← z]; exact x1) hl)]
          exact q
    · refine (R.sl i s v a b).mono (.refl _) fun x y hd q => ?_
      rw [upd_ne fun z => ei (R.apart a b hg hvg (by rw [← z]; exact hd) ⟨k, o, hk, hl⟩)]
      exact q
  · have hne : a ≠ l := fun z => by
      rw [z] at q n
      rcases t1 with t1 | t1
      · exact n t1
      · rw [t1] at q; cases q
    rw [upd_ne hne]
    exact R.keep a x q n
  · refine ⟨fun i j U V a b => ?_, fun i U a => R.hp.him g T hg, fun i U n w x a b c => ?_, fun i U n m w y x a b c d e => ?_, fun i U n w x a b c d => ?_, R.hp.n0, R.hp.nr⟩
    · rw [(hpS i U a).1, (hpS j V b).1]
    · obtain ⟨_, rfl⟩ := hpS i U a
      obtain ⟨w', hw⟩ := old n w b
      obtain ⟨z1, z2, z3⟩ := R.hp.thl g T n w' x hg hw c
      refine ⟨z1, z2, fun j m v hv => ?_⟩
      rcases get_set_cases hv with ⟨_, e⟩ | ⟨_, hv⟩
      · cases e
      · exact z3 j m v hv
    · obtain ⟨_, rfl⟩ := hpS i U a
      obtain ⟨w', hw⟩ := old n w b
      obtain ⟨y', hy⟩ := old m y c
      exact R.hp.lnd g T n m w' y' x hg hw hy d e
    · obtain ⟨_, rfl⟩ := hpS i U a
      obtain ⟨w', hw⟩ := old n w b
      exact R.hp.thn g T n w' x hg hw c d
/-- one more thing -/
def Fm.more (F : Fm) (p : Addr) : Fm := { F with M := ⟨p :: F.M.as, F.M.ρ ++ [p]⟩ }
theorem Fm.more_to {F : Fm} {p : Addr} (h : F.im = true) : F.to (F.more p) := ⟨rfl, fun z => by rw [h] at z; cases z⟩
theorem Rel.thNew (R : Rel F S σ H) {T : Ths} {u : Own} {p : Addr} {H' : Hp} (hg : S[g]? = some (.heap T)) (hp : H p = none) (hs : L2.Same H H') (r : ∀ G, Same (vis F S σ H) G → OwnOk F.cm F.K G H' p u) :
    F.to (F.more p) ∧ Rel (F.more p) (S.set g (.heap (T ++ [u]))) σ H' ∧ Same (vis F S σ H) (vis (F.more p) (S.set g (.heap (T ++ [u]))) σ H') := by
  have fr := R.fresh hp
  have frM := R.freshM hp
  have him := R.hp.him g T hg
  obtain ⟨vg, hvg, yg⟩ := R.slotAt hg
  have eL : locs (S.set g (.heap (T ++ [u]))) σ = locs S σ := locs_heap hg
  have gg : Same (vis F S σ H) (vis (F.more p) (S.set g (.heap (T ++ [u]))) σ H') := by
    refine hid_to (fun a o ha q => ⟨fun z => ?_, hs a o q⟩) fun n a h => ?_
    · rcases Hd.mem_app.mp z with z | z
      · rcases List.mem_cons.mp (show a ∈ p :: F.M.as from z) with z | z
        · exact ne_of_none q hp z
        · exact ha (Hd.mem_left _ z)
      · rw [eL] at z; exact ha (Hd.mem_right _ z)
    · show (F.M.ρ ++ [p])[n]? = some a
      have h : F.M.ρ[n]? = some a := h
      rw [List.getElem?_append_left (List.getElem?_eq_some_iff.mp h).1]; exact h
  have lT := R.thl hg
  have atN : ∀ {n : Nat} {x : Addr}, n < T.length → (F.M.ρ ++ [p])[n]? = some x → F.M.ρ[n]? = some x := fun hn h => by
    rw [List.getElem?_append_left (by omega)] at h; exact h
  have hpS : ∀ (i : Nat) (U : Ths), (S.set g (.heap (T ++ [u])))[i]? = some (.heap U) → i = g ∧ U = T ++ [u] := fun i U h => by
    rcases get_set_cases h with ⟨e, e2⟩ | ⟨e, h⟩
    · exact ⟨e, by cases e2; rfl⟩
    · exact absurd (R.hp.one i g _ _ h hg) e
  have old : ∀ (n : Nat) (w : Own), (T ++ [u])[n]? = some w → (n < T.length ∧ T[n]? = some w) ∨ (n = T.length ∧ w = u) := fun n w h => by
    by_cases hn : n < T.length
    · rw [List.getElem?_append_left hn] at h; exact .inl ⟨hn, h⟩
    · have hlt := (List.getElem?_eq_some_iff.mp h).1
      rw [List.length_append] at hlt
      have en : n = T.length := by simp at hlt; omega
      subst en
      rw [List.getElem?_append_right (Nat.le_refl _), Nat.sub_self] at h
      cases h
      exact .inr ⟨rfl, rfl⟩
  have newx : ∀ {x : Addr}, (F.M.ρ ++ [p])[T.length]? = some x → x = p := fun h => by
    rw [lT, List.getElem?_append_right (Nat.le_refl _), Nat.sub_self] at h
    cases h; rfl
  have oldM : ∀ {n : Nat} {w : Own} {x : Addr}, T[n]? = some w → F.M.ρ[n]? = some x → x ≠ p := fun {n w x} hw hx z => by
    obtain ⟨x', h1, h2, _⟩ := R.th hg hw
    rw [hx] at h1; cases h1
    exact frM (by rw [← z]; exact h2)
  refine ⟨Fm.more_to him, ⟨by rw [List.length_set]; exact R.len, fun i s v a b => ?_, by rw [eL]; exact R.nd, fun x hx => R.new x (by rw [← eL]; exact hx), by rw [owns_heap hg]; exact R.ond, R.and_, fun a h => List.mem_cons_of_mem _ (R.ain a h), fun a h => ?_, fun x hx z => ?_, fun q h => ⟨hs _ _ (R.tmp q h).1, List.mem_cons_of_mem _ (R.tmp q h).2.1, (R.tmp q h).2.2⟩, fun a x q n => hs a x (R.keep a x q n), ?_⟩, gg⟩
  · rcases get_set_cases a with ⟨ei, rfl⟩ | ⟨ei, a⟩
    · cases yg with
      | heap e f =>
        refine .heap (by show (T ++ [u]).length = (F.M.ρ ++ [p]).length; rw [List.length_append, List.length_append, e]; rfl) fun n w hn => ?_
        rcases old n w hn with ⟨hlt, hn⟩ | ⟨en, ew⟩
        · obtain ⟨x, x1, x2, x3⟩ := f n w hn
          exact ⟨x, by show (F.M.ρ ++ [p])[n]? = some x; rw [List.getElem?_append_left (by omega)]; exact x1, List.mem_cons_of_mem _ x2, x3.mono gg fun y q => hs _ _ q⟩
        · refine ⟨p, ?_, List.mem_cons_self .., by rw [ew]; exact r _ gg⟩
          show (F.M.ρ ++ [p])[n]? = some p
          rw [en, lT, List.getElem?_append_right (Nat.le_refl _), Nat.sub_self]; rfl
    · have y := (R.sl i s v a b).mono gg fun x y _ q => hs x y q
      cases y with
      | no => exact .no
      | dat r => exact .dat r
      | loc h r => exact .loc h r
      | own h r => exact .own h r
      | exn h q r => exact .exn h q r
      | heap e f => exact absurd (R.hp.one i g _ _ a hg) ei
  · rcases List.mem_cons.mp (show a ∈ p :: F.M.as from h) with z | z
    · rw [z]; exact (r _ gg).lv
    · exact (R.liv a z).same hs
  · rw [eL] at hx
    rcases List.mem_cons.mp (show x ∈ p :: F.M.as from z) with z | z
    · exact fr (by rw [← z]; exact Hd.mem_right _ hx)
    · exact R.lom x hx z
  · refine ⟨fun i j U V a b => ?_, fun i U a => him, fun i U n w x a b c => ?_, fun i U n m w y x a b c d e => ?_, fun i U n w x a b c d => ?_, fun a h => List.mem_cons_of_mem _ (R.hp.n0 a h), ?_⟩
    · rw [(hpS i U a).1, (hpS j V b).1]
    · obtain ⟨_, rfl⟩ := hpS i U a
      have own : ∀ (j m : Nat) (v : Own), (S.set g (.heap (T ++ [u])))[j]? = some (.own m v) → S[j]? = some (.own m v) := fun j m v hv => by
        rcases get_set_cases hv with ⟨_, e⟩ | ⟨_, hv⟩
        · cases e
        · exact hv
      rcases old n w b with ⟨hlt, hn⟩ | ⟨en, ew⟩
      · obtain ⟨z1, z2, z3⟩ := R.hp.thl g T n w x hg hn (atN hlt c)
        exact ⟨z1, z2, fun j m v hv => z3 j m v (own j m v hv)⟩
      · have c : (F.M.ρ ++ [p])[n]? = some x := c
        rw [en] at c
        obtain rfl := newx c
        refine ⟨.inr (R.fresh0 hp), fun q h z => R.freshM hp (by rw [← z]; exact (R.tmp q h).2.1), fun j m v hv z => R.alv _ (List.mem_of_getElem? z) hp⟩
    · obtain ⟨_, rfl⟩ := hpS i U a
      have d : (F.M.ρ ++ [p])[n]? = some x := d
      have e : (F.M.ρ ++ [p])[m]? = some x := e
      rcases old n w b with ⟨hn, b⟩ | ⟨hn, _⟩
      · rcases old m y c with ⟨hm, c⟩ | ⟨hm, _⟩
        · exact R.hp.lnd g T n m w y x hg b c (atN hn d) (atN hm e)
        · rw [hm] at e; obtain rfl := newx e
          exact absurd rfl (oldM b (atN hn d))
      · rw [hn] at d; obtain rfl := newx d
        rcases old m y c with ⟨hm, c⟩ | ⟨hm, _⟩
        · exact absurd rfl (oldM c (atN hm e))
        · rw [hn, hm]
    · obtain ⟨_, rfl⟩ := hpS i U a
      rcases old n w b with ⟨hlt, hn⟩ | ⟨en, ew⟩
      · exact R.hp.thn g T n w x hg hn (atN hlt c) d
      · have c : (F.M.ρ ++ [p])[n]? = some x := c
        rw [en] at c
        obtain rfl := newx c
        exact R.fresh0 hp
    · obtain ⟨r, hr⟩ := R.hp.nr
      exact ⟨r ++ [p], by show F.M.ρ ++ [p] = _; rw [hr, List.append_assoc]; rfl⟩
end
end Mir
/-! MirZS: things: fields, new lists, append -/
namespace Mir
open PySem PySem.Spec PyProof.Rows L2
/-- a list: a value, or a thing's -/
def lstAt (g : Nat) (d : Dat) (S : Sg) : Option (List Dat) := match d with
  | .ptr k => (match thAt g k S with
    | some (.lst ds) => some ds
    | _ => none)
  | _ => none
section
variable {F : Fm} {S : Sg} {σ : L2.St} {H : Hp} {g k : Nat}
theorem Rel.thPtr (R : Rel F S σ H) {o : Own} {v : V} (r : Rp F.cm F.K (vis F S σ H) v (.ptr k)) (h : thAt g k S = some o) : ∃ T l, S[g]? = some (.heap T) ∧ T[k]? = some o ∧ F.M.ρ[k]? = some l ∧ l ∈ F.M ∧ v = .ref l ∧ OwnOk F.cm F.K (vis F S σ H) H l o := by
  obtain ⟨T, hg, hk⟩ := thAt_of h
  obtain ⟨l, hl, hM, ok⟩ := R.th hg hk
  cases r with
  | ptr e =>
    have e : F.M.ρ[k]? = some _ := e
    rw [hl] at e
    cases e
    exact ⟨T, l, hg, hk, hl, hM, rfl, ok⟩
end
section
variable {X : Cx} {cm : CM} {W : WX} {a b e o : Expr} {ma mb me mo : ME} {mL : Sg → Rs (List Dat)} {pos pos' p : Pos} {nm : Str} {g : Nat} {cs : List Str}
/-- a new list as a thing -/
def mNewL (g : Nat) (mL : Sg → Rs (List Dat)) : ME := fun S => (mL S).bind fun ds S1 => match thsAt g S1 with
  | some T => .ok (.ptr T.length) (S1.set g (.heap (T ++ [.lst ds])))
  | none => .bad
theorem thsAt_of {S : Sg} {T : Ths} (h : thsAt g S = some T) : S[g]? = some (.heap T) := by
  unfold thsAt at h
  cases hs : S[g]? with
  | none => rw [hs] at h; cases h
  | some s =>
    rw [hs] at h
    cases s with
    | heap T => cases h; rfl
    | _ => cases h
theorem ge_newL (h : PE X e (tL cm X.K W mL)) : PE X e (tE cm X.K W (mNewL g mL)) := PE.weak h fun σ H Q ⟨F, S, e1, e2, R, h⟩ => by
  refine ⟨F, S, e1, e2, R, ?_⟩
  unfold mNewL at h
  cases hm : mL S with
  | bad => rw [hm] at h; exact h
  | exc c fs S1 => rw [hm] at h; exact h
  | ok ds S1 =>
    rw [hm, Rs.bind_ok] at h
    cases ht : thsAt g S1 with
    | none => rw [ht] at h; exact h.elim
    | some T =>
      rw [ht] at h
      intro F1 l xs H1 R1 s1 hl rx t1
      have hg := thsAt_of ht
      have sn : L2.Same H1 (upd H1 l (.lst xs)) := same_new hl
      obtain ⟨t2, R2, s2⟩ := R1.thNew (u := .lst ds) (H' := upd H1 l (.lst xs)) hg hl sn fun G sG => .lst upd_same (rx.mono sG)
      refine h (.ref l) _ R2 (s1.trans s2) ?_ (t1.trans t2)
      refine .ptr ?_
      show (F1.M.ρ ++ [l])[T.length]? = some l
      rw [R1.thl hg, List.getElem?_append_right (Nat.le_refl _), Nat.sub_self]; rfl
/-- o.append(e), o a thing -/
def appT (g : Nat) (x d : Dat) (S : Sg) : Rs Fl := match x with
  | .ptr k => (match thAt g k S with
    | some (.lst ds) => if ds.length < lim then .ok .nx (setTh g k (.lst (ds ++ [d])) S) else .bad
    | _ => .bad)
  | _ => .bad
def mAppT (g : Nat) (mo me : ME) : MS := fun S => (mo S).bind fun x S1 => match lstAt g x S1 with
  | some _ => (me S1).bind fun d S2 => appT g x d S2
  | none => .bad
theorem gs_appT {apos cpos : Pos} (ho : PE X o (tE cm X.K W mo)) (he : PE X e (tE cm X.K W me)) (hab : attributeBase o "append" X.env (eval o X.env) = eval o X.env := by rfl)
    (hst : starEach [e] X.env = (false, eval e X.env) :: starEach [] X.env := by rfl) (hln : (apos.endLine == cpos.line) = true := by rfl) (hs : swapsWith (.Call (.Attribute o "append" apos) [e] [] cpos) none pos.line X.env = pure false := by rfl)
    (h4 : (((backTo cpos (starEach [e] X.env)).all fun x => !x.1) && ((backToKw cpos (keywordEach [] X.env)).all fun x => x.1.isSome) && decide (([e].length + ([] : List Keyword).length + if ([] : List Keyword).isEmpty = true then 0 else 1) < 30)) = true := by rfl) :
    PS X (.Expr (.Call (.Attribute o "append" apos) [e] [] cpos) pos) (tS cm X.K W (mAppT g mo me)) :=
  PS.weak (ps_expr (pe_bm PySem.F.plainAttrs_list PySem.F.slot_list_append PySem.F.type_list_append mt_append ho (pa_cons he pa_nil hst) hab h4 hln hst (by rfl)) hs) fun D σ H ⟨F, S, e1, e2, R, h⟩ => tG_bindS e1 e2 R h fun F x H1 dx S1 e1 e2 R1 s1 p1 h1 => by
    unfold lstAt at h1
    cases dx with
    | ptr k =>
      dsimp only at h1
      cases ht : thAt g k S1 with
      | none => rw [ht] at h1; exact h1.elim
      | some w =>
        rw [ht] at h1
        cases w with
        | lst ds0 =>
          dsimp only at h1
          obtain ⟨T, l, hg, hk, hl, hM, ev, ok⟩ := R1.thPtr (g := g) (by rw [e1, e2]; exact p1) ht
          subst ev
          cases ok with
          | lst hh hr =>
            refine ⟨.inl ⟨rfl, _, SqL.of hh⟩, tG_bindS e1 e2 R1 h1 fun F y H2 d S2 e1 e2 R2 s2 p2 h2 => ?_⟩
            unfold appT at h2
            dsimp only at h2
            cases ht2 : thAt g k S2 with
            | none => rw [ht2] at h2; exact h2.elim
            | some w2 =>
              rw [ht2] at h2
              cases w2 with
              | lst ds =>
                dsimp only at h2
                by_cases hz : ds.length < lim
                · rw [if_pos hz] at h2
                  obtain ⟨T2, l2, hg2, hk2, hl2, hM2, ev2, ok2⟩ := R2.thPtr (g := g) (by rw [e1, e2]; exact p1.mono s2) ht2
                  cases ev2
                  cases ok2 with
                  | @lst vs2 _ hh2 hr2 =>
                    obtain ⟨R3, s3⟩ := R2.thSet (u := .lst (ds ++ [d])) (ho := .lst (vs2 ++ [y])) hg2 hk2 hl2 (.lst upd_same (hr2.append (.cons (by rw [e1, e2]; exact p2) .nil)))
                    have es : setTh g k (.lst (ds ++ [d])) S2 = S2.set g (.heap (T2.set k (.lst (ds ++ [d])))) := by unfold setTh; rw [hg2]
                    rw [es] at h2
                    exact ⟨_, vs2, y, rfl, rfl, hh2, by rw [hr2.length]; exact lim_lt hz, h2 σ _ R3 s3⟩
                · rw [if_neg hz] at h2; exact h2.elim
              | _ => exact h2.elim
        | _ => exact h1.elim
    | _ => exact False.elim h1
end
end Mir
/-! MirZT: defs that change things: their promise, their bodies, their calls -/
namespace Mir
open PySem PySem.Spec PyProof.Rows L2
inductive RT where
  | ok (d : Dat) (outs : List Own) (T : Ths)
  | exc (c : Str) (fs : List (Str × Dat)) (outs : List Own) (T : Ths)
  | bad
structure ThsOk (cm : CM) (K : PySem.W.Frag) (G : VH) (H : Hp) (M : Hd) (T : Ths) : Prop where
  len : T.length = M.ρ.length
  at_ : ∀ (k : Nat) (o : Own), T[k]? = some o → ∃ l, M.ρ[k]? = some l ∧ l ∈ M ∧ OwnOk cm K G H l o
  nd : M.ρ.Nodup
/-- what goes on: hidden addresses, things -/
structure Goes (M M' : Hd) (H H' : Hp) (ls : List Addr) : Prop where
  sub : ∀ a, a ∈ M → a ∈ M'
  ρ : ∃ r, M'.ρ = M.ρ ++ r
  lv : live M' H'
  keep : ∀ a o, H a = some o → a ∉ ls → a ∉ M.ρ → H' a = some o
  new : ∀ (k : Nat) (l : Addr), M'.ρ[k]? = some l → M.ρ.length ≤ k → H l = none
def outTh (cm : CM) (K : PySem.W.Frag) (M : Hd) (ls : List Addr) (H : Hp) (Q : VK) (E : XK) : RT → Prop
  | .ok d outs T => ∀ v M' H', Goes M M' H H' ls → OutsOk cm K (hid M' H') H' ls outs → ThsOk cm K (hid M' H') H' M' T → Rp cm K (hid M' H') v d → Q v H'
  | .exc c fs outs T => ∀ da gs M' H', Goes M M' H H' ls → OutsOk cm K (hid M' H') H' ls outs → ThsOk cm K (hid M' H') H' M' T → hid M' H' da = some (.xd gs) → RpF cm K (hid M' H') gs fs → E (.ref (cm c)) (some da) H'
  | .bad => False
def spT (cm : CM) (K : PySem.W.Frag) (Fn : List FA → Ths → RT) : Sp := fun vs H Q E => ∃ M as ls T, live M H ∧ (∀ l, l ∈ ls → l ∈ M) ∧ ls.Nodup ∧ (∀ l, l ∈ ls → l ∉ M.ρ) ∧ ArgsOk cm K (hid M H) H vs as ls ∧ ThsOk cm K (hid M H) H M T ∧ outTh cm K M ls H Q E (Fn as T)
def endT (k g : Nat) : Rs Fl → RT
  | .ok (.rt d) S => (match outsFrom 0 k S, thsAt g S with
    | some outs, some T => .ok d outs T
    | _, _ => .bad)
  | .ok .nx S => (match outsFrom 0 k S, thsAt g S with
    | some outs, some T => .ok .non outs T
    | _, _ => .bad)
  | .exc c fs S => (match outsFrom 0 k S, thsAt g S with
    | some outs, some T => .exc c fs outs T
    | _, _ => .bad)
  | _ => .bad
/-- np parameters, n names; behind them the things -/
def runDefT (np n : Nat) (m : MS) (as : List FA) (T : Ths) : RT := if as.length = np then endT (nOwn as) n (m (mkSlots 0 as ++ List.replicate (n - np) .no ++ [.heap T])) else .bad
abbrev Fm.atT (cm : CM) (K : PySem.W.Frag) (M : Hd) (H : Hp) (ls : List Addr) : Fm := ⟨⟨cm, K, H, ls ++ M.ρ, M, [], true⟩, M⟩
section
variable {P : Program} {w : World} {K : PySem.W.Frag} {mg : Str → Option Value} {base : Heap} {cm : CM}
theorem slots_at {as : List FA} {n np g : Nat} {T : Ths} {s : Slot} (hla : as.length = np) (hn : np ≤ n) (h : (mkSlots 0 as ++ List.replicate (n - np) .no ++ [.heap T])[g]? = some s) : (g = n ∧ s = .heap T) ∨ (g < n ∧ (mkSlots 0 as ++ List.replicate (n - np) .no)[g]? = some s) := by
  have hl : (mkSlots 0 as ++ List.replicate (n - np) Slot.no).length = n := by rw [List.length_append, mkSlots_len, List.length_replicate]; omega
  by_cases hg : g < n
  · rw [List.getElem?_append_left (by omega)] at h; exact .inr ⟨hg, h⟩
  · rw [List.getElem?_append_right (by omega), hl] at h
    have hz : g - n = 0 := by
      have := (List.getElem?_eq_some_iff.mp h).1
      simp at this; omega
    rw [hz] at h
    cases h
    exact .inl ⟨by omega, rfl⟩
theorem rel_argsT {M : Hd} {as : List FA} {vs : List V} {ls : List Addr} {H : Hp} {N : List Str} {n np : Nat} {T : Ths} (hn : N.length = n + 1) (hla : as.length = np) (hnp : np ≤ n) (lv : live M H) (lm : ∀ l, l ∈ ls → l ∈ M) (ln : ls.Nodup) (ld : ∀ l, l ∈ ls → l ∉ M.ρ) (ao : ArgsOk cm K (hid M H) H vs as ls) (to : ThsOk cm K (hid M H) H M T) :
    Rel (Fm.atT cm K M H ls) (mkSlots 0 as ++ List.replicate (n - np) .no ++ [.heap T]) (L2.start N vs) H ∧ vis (Fm.atT cm K M H ls) (mkSlots 0 as ++ List.replicate (n - np) .no ++ [.heap T]) (L2.start N vs) H = hid M H := by
  have lc : ∀ σ : L2.St, locs (mkSlots 0 as ++ List.replicate (n - np) .no ++ [.heap T]) σ = [] := locs_none fun s hs => by
    rcases List.mem_append.mp hs with hs | hs
    · rcases List.mem_append.mp hs with h | h
      · exact mkSlots_loc 0 as s h
      · rw [(List.mem_replicate.mp h).2]; rfl
    · rw [List.mem_singleton.mp hs]; rfl
  have eV : vis (Fm.atT cm K M H ls) (mkSlots 0 as ++ List.replicate (n - np) .no ++ [.heap T]) (L2.start N vs) H = hid M H := by
    unfold vis; rw [lc, Hd.app_nil]
  have ρM : ∀ a, a ∈ M.ρ → a ∈ M := fun a ha => by
    obtain ⟨k, hk, e⟩ := List.getElem_of_mem ha
    have hk' : k < T.length := by rw [to.len]; exact hk
    obtain ⟨l, h1, h2, _⟩ := to.at_ k T[k] (List.getElem?_eq_getElem hk')
    rw [List.getElem?_eq_getElem hk, e] at h1
    cases h1; exact h2
  have hpT : ∀ (i : Nat) (U : Ths), (mkSlots 0 as ++ List.replicate (n - np) .no ++ [.heap T])[i]? = some (.heap U) → i = n ∧ U = T := fun i U h => by
    rcases slots_at hla hnp h with ⟨e, e2⟩ | ⟨_, h⟩
    · cases e2; exact ⟨e, rfl⟩
    · exact absurd h (no_heap 0 as i U)
  refine ⟨⟨?_, fun i s v a b => ?_, (by rw [lc]; exact List.nodup_nil), fun l h => (by rw [lc] at h; cases h), ?_, ?_, fun a h => ?_, lv.v, fun l h => (by rw [lc] at h; cases h), fun p h => (by cases h), fun a o q _ => q, ?_⟩, eV⟩
  · unfold L2.start
    simp only [List.length_append, List.length_map, mkSlots_len, List.length_replicate, List.length_cons, List.length_nil, hn, ao.length, hla]
    omega
  · rw [eV]
    rcases slots_at hla hnp a with ⟨_, rfl⟩ | ⟨hi, a⟩
    · exact .heap to.len to.at_
    · unfold L2.start at b
      by_cases hi : i < as.length
      · have hi' : i < vs.length := by rw [ao.length]; exact hi
        rw [List.getElem?_append_left (by rw [mkSlots_len]; exact hi)] at a
        rw [List.getElem?_append_left (by rw [List.length_map]; exact hi'), List.getElem?_map, List.getElem?_eq_getElem hi'] at b
        cases b
        exact mkSlots_ok (F := Fm.atT cm K M H ls) rfl rfl 0 ao (fun t l e => by rw [Nat.zero_add]; show (ls ++ M.ρ)[t]? = some l; rw [List.getElem?_append_left (List.getElem?_eq_some_iff.mp e).1]; exact e) a (List.getElem?_eq_getElem hi')
      · rw [List.getElem?_append_right (by rw [mkSlots_len]; omega), List.getElem?_replicate] at a
        split at a
        · cases a; exact .no
        · cases a
  · rw [owns_append, owns_append, owns_no, List.append_nil]
    show (owns (mkSlots 0 as) ++ []).Nodup
    rw [List.append_nil]; exact mkSlots_nd 0 as
  · show (ls ++ M.ρ).Nodup
    exact List.nodup_append.mpr ⟨ln, to.nd, fun a ha b hb e => ld a ha (by rw [e]; exact hb)⟩
  · rcases List.mem_append.mp (show a ∈ ls ++ M.ρ from h) with h | h
    · exact lm a h
    · exact ρM a h
  · refine ⟨fun i j U V a b => ?_, fun _ _ _ => rfl, fun i U k o l a b c => ?_, fun i U k m o u l a b c d e => ?_, fun i U k o l a b c d => ?_, fun a h => h, ⟨[], (List.append_nil _).symm⟩⟩
    · rw [(hpT i U a).1, (hpT j V b).1]
    · refine ⟨.inl (List.mem_append_right _ (List.mem_of_getElem? c)), (fun p h => by cases h), fun j m u hj z => ?_⟩
      rcases slots_at hla hnp hj with ⟨_, e⟩ | ⟨_, hj⟩
      · cases e
      · have hlt : m < ls.length := by
          by_cases hja : j < as.length
          · rw [List.getElem?_append_left (by rw [mkSlots_len]; exact hja)] at hj
            have hv : j < vs.length := by rw [ao.length]; exact hja
            have y := mkSlots_ok (F := Fm.at cm K M H ls) rfl rfl 0 ao (fun t l e => by rw [Nat.zero_add]; exact e) hj (List.getElem?_eq_getElem hv)
            generalize vs[j] = q at y
            cases y with
            | own e _ => exact (List.getElem?_eq_some_iff.mp e).1
          · rw [List.getElem?_append_right (by rw [mkSlots_len]; omega), List.getElem?_replicate] at hj
            split at hj
            · cases hj
            · cases hj
        have z : (ls ++ M.ρ)[m]? = some l := z
        rw [List.getElem?_append_left hlt] at z
        exact ld l (List.mem_of_getElem? z) (List.mem_of_getElem? c)
    · exact nd_ix to.nd d e
    · exact absurd (List.getElem?_eq_some_iff.mp c).1 (Nat.not_lt.mpr d)
theorem goes_of {M : Hd} {H H1 : Hp} {ls : List Addr} {F1 : Fm} {S1 : Sg} {σ1 : L2.St} {g : Nat} {T : Ths} (t : (Fm.atT cm K M H ls).to F1) (R : Rel F1 S1 σ1 H1) (hg : S1[g]? = some (.heap T)) : Goes M F1.M H H1 ls ∧ ThsOk cm K (hid F1.M H1) H1 F1.M T := by
  have e0 : F1.N0 = M := t.N0
  have eA : F1.A0 = ls ++ M.ρ := t.A0
  have eH : F1.H0 = H := t.H0
  have lT := R.thl hg
  have sm : Same (vis F1 S1 σ1 H1) (hid F1.M H1) := hid_sub (fun a h => Hd.mem_left _ h) rfl
  refine ⟨⟨fun a h => R.hp.n0 a (by rw [e0]; exact h), by obtain ⟨r, hr⟩ := R.hp.nr; rw [e0] at hr; exact ⟨r, hr⟩, ⟨R.liv⟩, fun a o q n1 n2 => R.keep a o (by rw [eH]; exact q) (by rw [eA]; exact fun z => (List.mem_append.mp z).elim n1 n2), fun k l hk hn => ?_⟩, lT, fun k o hk => ?_, ?_⟩
  · have hk' : k < T.length := by rw [lT]; exact (List.getElem?_eq_some_iff.mp hk).1
    have := R.hp.thn g T k T[k] l hg (List.getElem?_eq_getElem hk') hk (by rw [e0]; exact hn)
    rw [eH] at this; exact this
  · obtain ⟨l, h1, h2, h3⟩ := R.th hg hk
    exact ⟨l, h1, h2, by have := h3.mono sm fun _ q => q; rw [t.cm, t.K] at this; exact this⟩
  · exact nd_of_get fun k n l hk hn => by
      have h1 : k < T.length := by rw [lT]; exact (List.getElem?_eq_some_iff.mp hk).1
      have h2 : n < T.length := by rw [lT]; exact (List.getElem?_eq_some_iff.mp hn).1
      exact R.hp.lnd g T k n T[k] T[n] l hg (List.getElem?_eq_getElem h1) (List.getElem?_eq_getElem h2) hk hn
/-- a def that changes things, by its body's mirror -/
theorem fnT_of {x qual : Str} {params : Arguments} {body : List Stmt} {scope : Scope} {dvs : List V} {kws : List (Str × V)} {f : Addr} {fd : FuncData} {N ps : List Str} {k n np : Nat} {m : MS} (F : FunD K x qual params body scope dvs kws f fd) (S : FnScope N ps scope) (hn : N.length = n + 1) (hp : ps.length = np) (hnp : np ≤ n)
    (hbody : ∀ (cdv : Value) (A : Around) (outer : List Env) (s : Shared) (H : Hp) (E : XK), Room k (A.deeper (envOfC qual scope s.heap.objs.size f cdv)) → (A.deeper (envOfC qual scope s.heap.objs.size f cdv)).guards = some [] →
      PSs (cxOf (L2.CX P w) P w K mg base N qual scope f cdv A outer s H E) body (tS cm K (fun cls d _ H' => E cls d H') m)) : FnG P w K mg base (L2.CX P w) (k + 1) f fd ps (spT cm K (runDefT np n m)) := by
  have len : ∀ vs H Q E, spT cm K (runDefT np n m) vs H Q E → vs.length = ps.length := fun vs H Q E ⟨M, as, ls, T, _, _, _, _, a, _, o⟩ => by
    unfold runDefT at o
    by_cases hl : as.length = np
    · rw [a.length, hl, hp]
    · rw [if_neg hl] at o; exact o.elim
  obtain ⟨oc, od, dV, kV, doc, pm, an, cdv, ct, osl, rfl, lk, hcd, _, _⟩ := F.ex
  refine ⟨len, fun A outer s H args us vs Q E hr hg e0 hb r hsp => ?_⟩
  have hl := len _ _ _ _ hsp
  have KX : K.In s.heap := e0.mod.kin.keeps fun b o e => (e0.bs b o e).1
  have lim0 : s.heap.NoLimit := e0.mod.nolimit.keeps fun b o e => (e0.bs b o e).1
  refine codeAny_call_function hr.depth (KX _ _ lk) rfl S.co S.gen rfl (PySem.W.codeRec_of KX hcd) (hb _ _ _ _ (wpAny_newFunctionEnv_cells S.kind (fun ⟨nm, v⟩ hy => ?_) fun env he s1 y => ?_))
  · rcases S.par nm (List.of_mem_zip hy).1 with q | q
    · exact Or.inl q
    · exact Or.inr ⟨q, PySem.W.cellsFrom_some _ _ _ (Or.inl q)⟩
  · subst he
    refine ⟨lim0.keeps y.toInCall.keep, codeAny_func ?_⟩
    have I : L2.Inv (cxOf (L2.CX P w) P w K mg base N qual scope f cdv A outer s H E) [] (L2.start N vs) H s1 := inv_start S hr.hd e0 hl r y
    have ht := hbody cdv A outer s H E (hr.deeper _) (guards_deeper hg)
    obtain ⟨M, as, ls, T, lv, lm, ln, ld, ao, to, of⟩ := hsp
    have hla : as.length = np := by rw [← ao.length, hl, hp]
    unfold runDefT at of
    rw [if_pos hla, ao.nown] at of
    obtain ⟨R0, eV⟩ := rel_argsT (N := N) hn hla hnp lv lm ln ld ao to
    have la : ∀ {F1 : Fm}, (Fm.atT cm K M H ls).to F1 → ∀ (t : Nat) (l : Addr), ls[t]? = some l → F1.A0[0 + t]? = some l := fun {F1} tt t l e => by
      rw [tt.A0, Nat.zero_add]
      show (ls ++ M.ρ)[t]? = some l
      rw [List.getElem?_append_left (List.getElem?_eq_some_iff.mp e).1]; exact e
    have hq : tS cm K (fun cls d _ H' => E cls d H') m { nx := fun _ H' => Q .non H', rt := Q } (L2.start N vs) H := by
      refine ⟨Fm.atT cm K M H ls, _, rfl, rfl, R0, ?_⟩
      cases hm : m (mkSlots 0 as ++ List.replicate (n - np) .no ++ [.heap T]) with
      | bad => rw [hm] at of; exact of
      | exc c fs S' =>
        rw [hm] at of
        intro σ' F1 da gs H' R' _ hda hgs t
        unfold endT at of
        dsimp only at of
        cases ho : outsFrom 0 ls.length S' with
        | none => rw [ho] at of; exact of.elim
        | some outs =>
          cases hth : thsAt n S' with
          | none => rw [ho, hth] at of; exact of.elim
          | some T' =>
            rw [ho, hth] at of
            obtain ⟨g1, g2⟩ := goes_of t R' (thsAt_of hth)
            have oo := Rel.outs R' ls 0 outs (la t) ho
            have sm : Same (vis F1 S' σ' H') (hid F1.M H') := hid_sub (fun a h => Hd.mem_left _ h) rfl
            have key := of da gs F1.M H' g1 (by rw [t.cm, t.K] at oo; exact oo) g2 (sm _ _ hda) (by have := hgs.mono sm; rw [t.cm, t.K] at this; exact this)
            rw [t.cm]; exact key
      | ok fl S' =>
        rw [hm] at of
        cases fl with
        | nx =>
          intro F1 σ' H' R' _ t
          unfold endT at of
          dsimp only at of
          cases ho : outsFrom 0 ls.length S' with
          | none => rw [ho] at of; exact of.elim
          | some outs =>
            cases hth : thsAt n S' with
            | none => rw [ho, hth] at of; exact of.elim
            | some T' =>
              rw [ho, hth] at of
              obtain ⟨g1, g2⟩ := goes_of t R' (thsAt_of hth)
              have oo := Rel.outs R' ls 0 outs (la t) ho
              exact of .non F1.M H' g1 (by rw [t.cm, t.K] at oo; exact oo) g2 .non
        | rt d =>
          intro F1 v σ' H' R' _ rv t
          unfold endT at of
          dsimp only at of
          cases ho : outsFrom 0 ls.length S' with
          | none => rw [ho] at of; exact of.elim
          | some outs =>
            cases hth : thsAt n S' with
            | none => rw [ho, hth] at of; exact of.elim
            | some T' =>
              rw [ho, hth] at of
              obtain ⟨g1, g2⟩ := goes_of t R' (thsAt_of hth)
              have oo := Rel.outs R' ls 0 outs (la t) ho
              have sm : Same (vis F1 S' σ' H') (hid F1.M H') := hid_sub (fun a h => Hd.mem_left _ h) rfl
              exact of v F1.M H' g1 (by rw [t.cm, t.K] at oo; exact oo) g2 (by have := rv.mono sm; rw [t.cm, t.K] at this; exact this)
        | bk => exact of.elim
        | ct => exact of.elim
    refine wpAny_mono (ht.run [] s1 (L2.start N vs) H _ I hq) (fun fl s' hs => ?_) fun e s' hs => hs
    cases fl with
    | ret u => obtain ⟨v, σ', H', J, rv, q⟩ := hs; exact ⟨v, H', J.os, J.bare, J.base, J.hok, rv, q⟩
    | next => obtain ⟨σ', H', J, q⟩ := hs; exact ⟨V.non, H', J.os, J.bare, J.base, J.hok, (rfl : Value.none = Value.none), q⟩
    | brk => obtain ⟨_, _, _, q⟩ := hs; exact q.elim
    | cont => obtain ⟨_, _, _, q⟩ := hs; exact q.elim
end
end Mir
/-! MirZU: calls of defs that change things -/
namespace Mir
open PySem PySem.Spec L2
def applyT (g : Nat) (Fn : List FA → Ths → RT) (as : List AV) (S : Sg) : Rs Dat := match fetch S as with
  | none => .bad
  | some (fs, is) => (match thsAt g S with
    | none => .bad
    | some T => if nodupB is then (match Fn fs T with
      | .ok d outs T' => (match wb S is outs with
        | some S' => .ok d (S'.set g (.heap T'))
        | none => .bad)
      | .exc c es outs T' => (match wb S is outs with
        | some S' => .exc c es (S'.set g (.heap T'))
        | none => .bad)
      | .bad => .bad) else .bad)
section
variable {F : Fm} {S S' : Sg} {σ : L2.St} {H H' : Hp}
theorem Rel.lentT (R : Rel F S σ H) {g : Nat} {T T' : Ths} {M' : Hd} (hg : S[g]? = some (.heap T)) {is : List Nat} {ls : List Addr} {outs : List Own} (nd : is.Nodup) (ha : ∀ (t i : Nat), is[t]? = some i → ∃ l, ls[t]? = some l ∧ LentAt F S σ i l) (hb : ∀ (t : Nat) (l : Addr), ls[t]? = some l → ∃ i : Nat, is[t]? = some i)
    (go : Goes (F.M ++ locs S σ) M' H H' ls) (oo : OutsOk F.cm F.K (hid M' H') H' ls outs) (to : ThsOk F.cm F.K (hid M' H') H' M' T') (hw : wb S is outs = some S') :
    ∃ F', F.to F' ∧ Rel F' (S'.set g (.heap T')) σ H' ∧ Same (vis F S σ H) (vis F' (S'.set g (.heap T')) σ H') ∧ Same (hid M' H') (vis F' (S'.set g (.heap T')) σ H') := by
  obtain ⟨a1, a2, a3, a4, a5⟩ := wb_spec (σ := σ) nd hw
  obtain ⟨r, hr⟩ := go.ρ
  have hr : M'.ρ = F.M.ρ ++ r := hr
  have him := R.hp.him g T hg
  have lT := R.thl hg
  obtain ⟨vg, hvg, _⟩ := R.slotAt hg
  have mem : ∀ l, l ∈ ls → ∃ i, i ∈ is ∧ LentAt F S σ i l := fun l hl => by
    obtain ⟨t, ht, e⟩ := List.getElem_of_mem hl
    have et : ls[t]? = some l := by rw [List.getElem?_eq_getElem ht, e]
    obtain ⟨i, hi⟩ := hb t l et
    obtain ⟨l', e2, q⟩ := ha t i hi
    rw [et] at e2; cases e2
    exact ⟨i, List.mem_of_getElem? hi, q⟩
  have ρM : ∀ a, a ∈ F.M.ρ → a ∈ F.M := fun a h => by
    obtain ⟨k, hk, e⟩ := List.getElem_of_mem h
    obtain ⟨l, h1, h2, _⟩ := R.th hg (List.getElem?_eq_getElem (show k < T.length by omega))
    rw [List.getElem?_eq_getElem hk, e] at h1; cases h1; exact h2
  have lsρ : ∀ l, l ∈ ls → l ∉ F.M.ρ := fun l hl hρ => by
    obtain ⟨i, _, l0, lk⟩ := mem l hl
    obtain ⟨k, hk, e⟩ := List.getElem_of_mem hρ
    have hk' : k < T.length := by omega
    have hh : (Slot.heap T).holds F vg l := ⟨k, T[k], List.getElem?_eq_getElem hk', by rw [List.getElem?_eq_getElem hk, e]⟩
    rcases lk with ⟨ds, lk⟩ | ⟨j, u, lk, lj⟩
    · have := R.apart lk l0 hg hvg rfl hh
      subst this; rw [hg] at lk; cases lk
    · have := R.apart lk l0 hg hvg rfl hh
      subst this; rw [hg] at lk; cases lk
  -- what is new
  have rnew : ∀ a, a ∈ r → H a = none ∧ a ∈ M' := fun a h => by
    obtain ⟨n, hn, e⟩ := List.getElem_of_mem h
    have hk : M'.ρ[F.M.ρ.length + n]? = some a := by
      rw [hr, List.getElem?_append_right (by omega), Nat.add_sub_cancel_left, List.getElem?_eq_getElem hn, e]
    have hk2 : F.M.ρ.length + n < T'.length := by rw [to.len]; exact (List.getElem?_eq_some_iff.mp hk).1
    obtain ⟨l, h1, h2, _⟩ := to.at_ _ _ (List.getElem?_eq_getElem hk2)
    rw [hk] at h1; cases h1
    exact ⟨go.new _ _ hk (by show F.M.ρ.length ≤ _; omega), h2⟩
  have outl : ∀ l, l ∈ ls → H' l ≠ none := fun l hl => by
    obtain ⟨t, ht, e⟩ := List.getElem_of_mem hl
    obtain ⟨o, _, ok⟩ := oo.get (show ls[t]? = some l by rw [List.getElem?_eq_getElem ht, e])
    exact ok.live
  have gis : g ∉ is := fun z => by
    obtain ⟨t, ht, e⟩ := List.getElem_of_mem z
    obtain ⟨s0, o, s1, b1, _, b3, _⟩ := a5 t g (by rw [List.getElem?_eq_getElem ht, e])
    rw [hg] at b1; cases b1; cases b3
  have hg' : S'[g]? = some (.heap T) := by rw [a4 g gis]; exact hg
  have back : ∀ (k : Nat) (s' : Slot), S'[k]? = some s' → S[k]? = some s' ∨ (∃ ds ds', S[k]? = some (.loc ds) ∧ s' = .loc ds') ∨ ∃ j u u', S[k]? = some (.own j u) ∧ s' = .own j u' := fun k s' hk => by
    by_cases hi : k ∈ is
    · obtain ⟨t, ht, e⟩ := List.getElem_of_mem hi
      obtain ⟨s0, o, s1, b1, b2, b3, b4⟩ := a5 t k (by rw [List.getElem?_eq_getElem ht, e])
      rw [hk] at b4; cases b4
      unfold putS at b3
      cases s0 with
      | loc ds =>
        cases o with
        | lst es => cases b3; exact .inr (.inl ⟨_, _, b1, rfl⟩)
        | _ => cases b3
      | own j u => cases b3; exact .inr (.inr ⟨_, _, _, b1, rfl⟩)
      | _ => cases b3
    · rw [a4 k hi] at hk; exact .inl hk
  have oneH : ∀ (i : Nat) (U : Ths), S'[i]? = some (.heap U) → i = g := fun i U h => by
    rcases back i _ h with z | ⟨_, _, _, z⟩ | ⟨_, _, _, _, z⟩
    · exact R.hp.one i g _ _ z hg
    · cases z
    · cases z
  have hpS : ∀ (i : Nat) (U : Ths), (S'.set g (.heap T'))[i]? = some (.heap U) → i = g ∧ U = T' := fun i U h => by
    rcases get_set_cases h with ⟨e, e2⟩ | ⟨e, h⟩
    · exact ⟨e, by cases e2; rfl⟩
    · exact absurd (oneH i U h) e
  have ownS : ∀ (j m : Nat) (u : Own), (S'.set g (.heap T'))[j]? = some (.own m u) → ∃ u', S[j]? = some (.own m u') := fun j m u h => by
    rcases get_set_cases h with ⟨_, e⟩ | ⟨_, h⟩
    · cases e
    · rcases back j _ h with z | ⟨_, _, _, z⟩ | ⟨_, _, _, y, z⟩
      · exact ⟨_, z⟩
      · cases z
      · cases z; exact ⟨_, y⟩
  have eL : locs (S'.set g (.heap T')) σ = locs S σ := by rw [locs_heap hg', a2]
  have keep : ∀ a o, H a = some o → a ∉ ls → a ∉ F.M.ρ → H' a = some o := fun a o q n1 n2 => go.keep a o q n1 n2
  refine ⟨{ F with M := ⟨r ++ F.M.as, M'.ρ⟩ }, ⟨rfl, fun z => by rw [him] at z; cases z⟩, ?_⟩
  have inF : ∀ a, a ∈ ({ F with M := ⟨r ++ F.M.as, M'.ρ⟩ } : Fm).M ↔ a ∈ r ∨ a ∈ F.M := fun a => List.mem_append
  have s2 : Same (hid M' H') (vis { F with M := ⟨r ++ F.M.as, M'.ρ⟩ } (S'.set g (.heap T')) σ H') := hid_sub (fun a h => by
    rcases Hd.mem_app.mp h with h | h
    · rcases (inF a).mp h with h | h
      · exact (rnew a h).2
      · exact go.sub a (Hd.mem_left _ h)
    · rw [eL] at h; exact go.sub a (Hd.mem_right _ h)) rfl
  have s1 : Same (vis F S σ H) (vis { F with M := ⟨r ++ F.M.as, M'.ρ⟩ } (S'.set g (.heap T')) σ H') := hid_to (fun a o na q => ⟨fun z => by
    rcases Hd.mem_app.mp z with z | z
    · rcases (inF a).mp z with z | z
      · rw [(rnew a z).1] at q; cases q
      · exact na (Hd.mem_left _ z)
    · rw [eL] at z; exact na (Hd.mem_right _ z), keep a o q (fun z => by obtain ⟨i, _, q⟩ := mem a z; exact na (R.lentIn q)) fun z => na (Hd.mem_left _ (ρM a z))⟩) fun k a h => by
      show M'.ρ[k]? = some a
      have h : F.M.ρ[k]? = some a := h
      rw [hr, List.getElem?_append_left (List.getElem?_eq_some_iff.mp h).1]; exact h
  -- a held address that is not lent stays
  have stay : ∀ {k : Nat} {s : Slot} {v : Option V} {l : Addr} {x : HO}, S[k]? = some s → σ[k]? = some v → k ∉ is → k ≠ g → s.holds F v l → H l = some x → H' l = some x := fun {k s v l x} hs hv hk hkg hd q => by
    refine keep l x q (fun z => ?_) fun z => ?_
    · obtain ⟨i, hi, l0, lk⟩ := mem l z
      have e : i = k := by
        rcases lk with ⟨ds, lk⟩ | ⟨j, u, lk, lj⟩
        · exact R.apart lk l0 hs hv rfl hd
        · exact R.apart lk l0 hs hv rfl hd
      exact hk (by rw [← e]; exact hi)
    · obtain ⟨n, hn, e⟩ := List.getElem_of_mem z
      have hn' : n < T.length := by omega
      exact hkg (R.apart hs hv hg hvg hd ⟨n, T[n], List.getElem?_eq_getElem hn', by rw [List.getElem?_eq_getElem hn, e]⟩)
  refine ⟨⟨by rw [List.length_set, a1, R.len], fun k s v hs hv => ?_, by rw [eL]; exact R.nd, fun l h => R.new l (by rw [← eL]; exact h), by rw [owns_heap hg', a3]; exact R.ond, R.and_, fun a h => (inF a).mpr (.inr (R.ain a h)), fun a h => ?_, fun l h z => ?_, fun p h => ?_, fun a o q n => ?_, ?_⟩, s1, s2⟩
  · rcases get_set_cases hs with ⟨ek, rfl⟩ | ⟨ek, hs⟩
    · refine .heap to.len fun n o hn => ?_
      obtain ⟨l, h1, h2, h3⟩ := to.at_ n o hn
      refine ⟨l, h1, (inF l).mpr ?_, h3.mono s2 fun _ q => q⟩
      have h1' : (F.M.ρ ++ r)[n]? = some l := by rw [← hr]; exact h1
      rcases List.mem_append.mp (List.mem_of_getElem? h1') with z | z
      · exact .inr (ρM l z)
      · exact .inl z
    · by_cases hk : k ∈ is
      · obtain ⟨t, ht, e⟩ := List.getElem_of_mem hk
        have et : is[t]? = some k := by rw [List.getElem?_eq_getElem ht, e]
        obtain ⟨s0, o, s1', b1, b2, b3, b4⟩ := a5 t k et
        rw [hs] at b4; cases b4
        obtain ⟨l, el, lv, lk⟩ := ha t k et
        rw [hv] at lv; cases lv
        obtain ⟨o', eo, ok⟩ := oo.get el
        rw [b2] at eo; cases eo
        have ok := ok.mono s2 fun _ q => q
        rcases lk with ⟨ds, lk⟩ | ⟨j, u, lk, lj⟩
        · rw [b1] at lk; cases lk
          cases o with
          | lst es =>
            cases b3
            cases ok with
            | lst h r => exact .loc h r
          | obj _ _ => cases b3
          | dic _ => cases b3
          | dit _ => cases b3
          | gone _ => cases b3
        · rw [b1] at lk; cases lk
          cases b3
          exact .own lj ok
      · rw [a4 k hk] at hs
        have y := (R.sl k s v hs hv).mono s1 fun l x hd q => stay hs hv hk ek hd q
        cases y with
        | no => exact .no
        | dat r => exact .dat r
        | loc h r => exact .loc h r
        | own h r => exact .own h r
        | exn h q r => exact .exn h q r
        | heap e f => exact absurd (R.hp.one k g _ _ hs hg) ek
  · rcases (inF a).mp h with h | h
    · exact go.lv.v a (rnew a h).2
    · exact go.lv.v a (go.sub a (Hd.mem_left _ h))
  · rw [eL] at h
    rcases (inF l).mp z with z | z
    · exact R.hlive (Hd.mem_right F.M h) (rnew l z).1
    · exact R.lom l h z
  · obtain ⟨t1, t2, t3⟩ := R.tmp p h
    refine ⟨keep _ _ t1 (fun z => ?_) fun z => ?_, (inF p.1).mpr (.inr t2), t3⟩
    · obtain ⟨i, _, l0, lk⟩ := mem p.1 z
      rcases lk with ⟨ds, lk⟩ | ⟨j, u, lk, lj⟩
      · exact R.lom p.1 (mem_locs.mpr ⟨i, ds, lk, l0⟩) t2
      · exact t3 (List.mem_of_getElem? lj)
    · obtain ⟨n, hn, e⟩ := List.getElem_of_mem z
      exact (R.hp.thl g T n _ p.1 hg (List.getElem?_eq_getElem (show n < T.length by omega)) (by rw [List.getElem?_eq_getElem hn, e])).2.1 p h rfl
  · refine keep a o (R.keep a o q n) (fun z => ?_) fun z => ?_
    · obtain ⟨i, _, l0, lk⟩ := mem a z
      rcases lk with ⟨ds, lk⟩ | ⟨j, u, lk, lj⟩
      · have q : F.H0 a = some o := q
        rw [R.new a (mem_locs.mpr ⟨i, ds, lk, l0⟩)] at q; cases q
      · exact n (List.mem_of_getElem? lj)
    · obtain ⟨m, hm, e⟩ := List.getElem_of_mem z
      rcases (R.hp.thl g T m _ a hg (List.getElem?_eq_getElem (show m < T.length by omega)) (by rw [List.getElem?_eq_getElem hm, e])).1 with y | y
      · exact n y
      · have q : F.H0 a = some o := q
        rw [y] at q; cases q
  · -- the things
    have atO : ∀ {k : Nat} {l : Addr}, k < F.M.ρ.length → M'.ρ[k]? = some l → F.M.ρ[k]? = some l := fun hk h => by
      rw [hr, List.getElem?_append_left hk] at h; exact h
    have atN : ∀ {k : Nat} {l : Addr}, F.M.ρ.length ≤ k → M'.ρ[k]? = some l → l ∈ r := fun hk h => by
      rw [hr, List.getElem?_append_right hk] at h; exact List.mem_of_getElem? h
    have h0 : ∀ l, l ∈ r → F.H0 l = none := fun l hl => R.fresh0 (rnew l hl).1
    refine ⟨fun i j U V a b => ?_, fun _ _ _ => him, fun i U k o l a b c => ?_, fun i U k m o u l a b c d e => ?_, fun i U k o l a b c d => ?_, fun a h => (inF a).mpr (.inr (R.hp.n0 a h)), ?_⟩
    · rw [(hpS i U a).1, (hpS j V b).1]
    · by_cases hk : k < F.M.ρ.length
      · obtain ⟨z1, z2, z3⟩ := R.hp.thl g T k T[k] l hg (List.getElem?_eq_getElem (by omega)) (atO hk c)
        refine ⟨z1, z2, fun j m u hj => ?_⟩
        obtain ⟨u', hu⟩ := ownS j m u hj
        exact z3 j m u' hu
      · have hl := atN (Nat.not_lt.mp hk) c
        refine ⟨.inr (h0 l hl), fun p h z => ?_, fun j m u hj z => ?_⟩
        · have := (R.tmp p h).1
          rw [z, (rnew l hl).1] at this; cases this
        · exact R.alv l (List.mem_of_getElem? z) (rnew l hl).1
    · exact nd_ix to.nd d e
    · by_cases hk : k < F.M.ρ.length
      · exact R.hp.thn g T k T[k] l hg (List.getElem?_eq_getElem (by omega)) (atO hk c) d
      · exact h0 l (atN (Nat.not_lt.mp hk) c)
    · obtain ⟨r0, hr0⟩ := R.hp.nr
      exact ⟨r0 ++ r, by show M'.ρ = _; rw [hr, hr0, List.append_assoc]⟩
theorem applyT_ok {cm : CM} {K : PySem.W.Frag} {W : WX} {g : Nat} {Fn : List FA → Ths → RT} {vs : List V} {as : List AV} {Q : VK} (e1 : F.cm = cm) (e2 : F.K = K) (R : Rel F S σ H) (av : AvsOk cm K σ (vis F S σ H) vs as) (h : out F W σ (vis F S σ H) (rE cm K) Q (applyT g Fn as S)) :
    spT cm K Fn vs H Q (WE W σ) := by
  unfold applyT at h
  cases hf : fetch S as with
  | none => rw [hf] at h; exact h.elim
  | some q =>
    obtain ⟨fs, is⟩ := q
    rw [hf] at h
    dsimp only at h
    cases ht : thsAt g S with
    | none => rw [ht] at h; exact h.elim
    | some T =>
    rw [ht] at h
    dsimp only at h
    have hg := thsAt_of ht
    by_cases hn : nodupB is = true
    · rw [if_pos hn] at h
      have nd := nodupB_ok hn
      obtain ⟨ls, c1, c2, c3⟩ := fetch_ok e1 e2 R av hf
      have lk : ∀ l, l ∈ ls → ∃ i, LentAt F S σ i l := fun l hl => by
        obtain ⟨t, ht, e⟩ := List.getElem_of_mem hl
        have et : ls[t]? = some l := by rw [List.getElem?_eq_getElem ht, e]
        obtain ⟨i, hi⟩ := c3 t l et
        obtain ⟨l', e3, q⟩ := c2 t i hi
        rw [et] at e3; cases e3
        exact ⟨i, q⟩
      have lin : ∀ l, l ∈ ls → l ∈ F.M ++ locs S σ := fun l hl => by
        obtain ⟨i, q⟩ := lk l hl
        exact R.lentIn q
      have lnd : ls.Nodup := nd_of_get fun t u l ht hl => by
        obtain ⟨i, hi⟩ := c3 u l hl
        obtain ⟨k, hk⟩ := c3 t l ht
        obtain ⟨l1, d1, d2⟩ := c2 u i hi
        obtain ⟨l2, d3, d4⟩ := c2 t k hk
        rw [hl] at d1; cases d1
        rw [ht] at d3; cases d3
        have ik := R.lent1 d2 d4
        subst ik
        exact nd_ix nd hk hi
      have lT := R.thl hg
      obtain ⟨vg, hvg, _⟩ := R.slotAt hg
      have lsρ : ∀ l, l ∈ ls → l ∉ (F.M ++ locs S σ).ρ := fun l hl hρ => by
        have hρ : l ∈ F.M.ρ := hρ
        obtain ⟨i, l0, lk⟩ := lk l hl
        obtain ⟨k, hk, e⟩ := List.getElem_of_mem hρ
        have hh : (Slot.heap T).holds F vg l := ⟨k, T[k], List.getElem?_eq_getElem (by omega), by rw [List.getElem?_eq_getElem hk, e]⟩
        rcases lk with ⟨ds, lk⟩ | ⟨j, u, lk, lj⟩
        · have := R.apart lk l0 hg hvg rfl hh
          subst this; rw [hg] at lk; cases lk
        · have := R.apart lk l0 hg hvg rfl hh
          subst this; rw [hg] at lk; cases lk
      have to : ThsOk cm K (vis F S σ H) H (F.M ++ locs S σ) T := ⟨lT, fun k o hk => by
        obtain ⟨l, h1, h2, h3⟩ := R.th hg hk
        exact ⟨l, h1, Hd.mem_left _ h2, by rw [← e1, ← e2]; exact h3⟩, nd_of_get fun k n l hk hn => by
          have hk : F.M.ρ[k]? = some l := hk
          have hn : F.M.ρ[n]? = some l := hn
          have h1 := (List.getElem?_eq_some_iff.mp hk).1
          have h2 := (List.getElem?_eq_some_iff.mp hn).1
          exact R.hp.lnd g T k n T[k] T[n] l hg (List.getElem?_eq_getElem (by omega)) (List.getElem?_eq_getElem (by omega)) hk hn⟩
      refine ⟨F.M ++ locs S σ, fs, ls, T, R.live, lin, lnd, lsρ, c1, to, ?_⟩
      cases hF : Fn fs T with
      | bad => rw [hF] at h; exact h
      | ok d outs T' =>
        rw [hF] at h
        intro v M' H' go oo to' rv
        dsimp only at h
        cases hw : wb S is outs with
        | none => rw [hw] at h; exact h.elim
        | some S' =>
          rw [hw] at h
          obtain ⟨F', t', R', s1, s2⟩ := R.lentT hg nd c2 c3 go (by rw [e1, e2]; exact oo) (by rw [e1, e2]; exact to') hw
          exact h v H' R' s1 (rv.mono s2) t'
      | exc c es outs T' =>
        rw [hF] at h
        intro da gs M' H' go oo to' hda rg
        dsimp only at h
        cases hw : wb S is outs with
        | none => rw [hw] at h; exact h.elim
        | some S' =>
          rw [hw] at h
          obtain ⟨F', t', R', s1, s2⟩ := R.lentT hg nd c2 c3 go (by rw [e1, e2]; exact oo) (by rw [e1, e2]; exact to') hw
          have z := h da gs H' R' s1 (s2 _ _ hda) (by rw [t'.cm, t'.K, e1, e2]; exact rg.mono s2) t'
          rw [t'.cm, e1] at z
          exact z
    · rw [if_neg hn] at h; exact h.elim
end
end Mir
/-! MirZV: calls, whatever the def's promise is -/
namespace Mir
open PySem PySem.Spec L2
/-- a way to apply a def, at its promise -/
def CallOk (X : Cx) (cm : CM) (W : WX) (sp : Sp) (app : List AV → Sg → Rs Dat) : Prop := ∀ {F : Fm} {S : Sg} {σ : L2.St} {H : Hp} {vs : List V} {as : List AV} {Q : VK}, F.cm = cm → F.K = X.K → Rel F S σ H → AvsOk cm X.K σ (vis F S σ H) vs as → out F W σ (vis F S σ H) (rE cm X.K) Q (app as S) → sp vs H Q (WE W σ)
theorem okT {X : Cx} {cm : CM} {W : WX} {g : Nat} {Fn : List FA → Ths → RT} : CallOk X cm W (spT cm X.K Fn) (applyT g Fn) := fun e1 e2 R av h => applyT_ok e1 e2 R av h
def mCallA (app : List AV → Sg → Rs Dat) (n m : Nat) (arr : List AV → List AV → List AV) (ma mk : MAv) : ME := fun S => (ma S).bind fun as S1 => (mk S1).bind fun bs S2 => if as.length = n ∧ bs.length = m then app (arr as bs) S2 else .bad
section
variable {X : Cx} {cm : CM} {W : WX} {e o : Expr} {es : List Expr} {ma mo : ME} {mr mk : MAv} {pos p : Pos} {kwl : List Keyword} {g k n m : Nat} {f : Addr} {fd : FuncData} {ps ks : List Str} {sp : Sp} {app : List AV → Sg → Rs Dat} {x c nm : Str} {gV gW : List V → List V → List V} {arr : List AV → List AV → List AV}
theorem ge_callA (ok : CallOk X cm W sp app) (Fk : FnG X.prog X.w X.K X.mg X.base (L2.CX X.prog X.w) k f fd ps sp) (hr : Room k X.A) (hgd : X.A.guards = some []) (tk : Takes X W) (hg : Gl X x) (hm : X.mg x = some (.ref f)) (hk : PySem.W.keepIn X.K (.ref f) = true) (hb : ∃ g, KBn X.K fd ps n [] g gV) (hA : Arr X.K n 0 gV arr)
    (ha : PA X (e :: es) (tAv cm X.K W mr)) (hdb : (x == ("__debug__" : Str)) = false := by decide) (he : starEach (e :: es) X.env = (false, eval e X.env) :: starEach es X.env := by rfl) (hpl : (backTo pos (starEach es X.env)).any (·.1) = false := by rfl) :
    PE X (.Call (.Name x p) (e :: es) [] pos) (tE cm X.K W (mCallA app n 0 arr mr vNil)) := by
  obtain ⟨g, hb⟩ := hb
  refine ⟨fun pins s σ H Q I ⟨F, S, e1, e2, R, h⟩ => wpAny_Call_Name_kw (ld_glob I hg hm (PySem.W.callWith_K (h₀ := X.base) I.ok.mod.kin hk (thn (ha.run pos pins s σ H (fun vs H1 => ∃ F : Fm, ∃ as S1, F.cm = cm ∧ F.K = X.K ∧ Rel F S1 σ H1 ∧ AvsOk cm X.K σ (vis F S1 σ H1) vs as ∧ as.length = n ∧ out F W σ (vis F S1 σ H1) (rE cm X.K) Q (app (arr as []) S1)) I
      (tG_bind e1 e2 R h fun F vs H1 as S1 e1 e2 R1 s1 p1 h1 => ?_)) fun us s1 ⟨vs, H1, I1, r, F, as, S1, e1, e2, R1, p1, hl, h1⟩ => ⟨I1.kIn, ?_⟩) he hpl) hdb)⟩
  · have h1' : out F W σ (vis F S1 σ H1) (rE cm X.K) Q (if as.length = n ∧ ([] : List AV).length = 0 then app (arr as []) S1 else .bad) := h1
    by_cases hz : as.length = n
    · rw [if_pos ⟨hz, rfl⟩] at h1'
      exact ⟨F, as, S1, e1, e2, R1, p1, hz, h1'⟩
    · rw [if_neg fun z => hz z.1] at h1'; exact h1'.elim
  · have lv : vs.length = n := by rw [AvsOk.length p1]; exact hl
    exact run_g (us := us) (kw := []) Fk hr hgd tk I1 (hb.to s1 us [] I1.kIn (by rw [← r.length]; exact lv) rfl) (hb.rel r .nil) (ok e1 e2 R1 (hA.ok lv rfl p1 .nil) h1)
end
end Mir
/-! MirZW: pure defs look at things: their arguments are shown -/
namespace Mir
open PySem PySem.Spec L2
/-- a field's value, shown: lists and dicts that are things -/
def look1 (T : Ths) : Dat → Dat
  | .ptr j => (match T[j]? with
    | some (.lst ds) => .lst ds
    | some (.dic ks) => .dic ks
    | _ => .ptr j)
  | d => d
def lookF (T : Ths) : List (Str × Dat) → List (Str × Dat)
  | [] => []
  | (f, d) :: r => (f, look1 T d) :: lookF T r
def snap1 (T : Ths) : Dat → Dat
  | .ptr k => (match T[k]? with
    | some (.obj c fs) => .ins c (lookF T fs)
    | some (.lst ds) => .lst ds
    | some (.dic ks) => .dic ks
    | _ => .ptr k)
  | d => d
mutual
/-- no list, no object of its own -/
def flt : Dat → Bool
  | .non => true
  | .bl _ => true
  | .int _ => true
  | .str _ => true
  | .ptr _ => true
  | .tup ds => flts ds
  | .lst _ => false
  | .ro _ => false
  | .ins _ _ => false
  | .dic _ => false
def flts : List Dat → Bool
  | [] => true
  | d :: ds => flt d && flts ds
end
def fltF : List (Str × Dat) → Bool
  | [] => true
  | (_, d) :: r => flt d && fltF r
def isTup : HO → Bool
  | .tup _ => true
  | .frz _ (.dT _) => false
  | .frz _ (.dK _) => false
  | .frz _ _ => true
  | .xd _ => true
  | _ => false
section
variable {cm : CM} {K : PySem.W.Frag} {M M' : Hd} {H : Hp}
theorem key_flt (hl : ∀ a, a ∈ M → a ∈ M' ∨ ∃ o, H a = some o ∧ isTup o = false) {a : Addr} {o : HO} (e : hid M' H a = some o) (n : isTup o = true) : hid M H a = some o := by
  by_cases ha : a ∈ M
  · by_cases hb : a ∈ M'
    · rw [hid_in hb] at e; cases e
    · rw [hid_out hb] at e
      rcases hl a ha with z | ⟨u, z, z2⟩
      · exact absurd z hb
      · rw [e] at z; cases z; rw [n] at z2; cases z2
  · rw [hid_out ha]
    by_cases hb : a ∈ M'
    · rw [hid_in hb] at e; cases e
    · rw [hid_out hb] at e; exact e
mutual
theorem flt_rp2 (hl : ∀ a, a ∈ M → a ∈ M' ∨ ∃ o, H a = some o ∧ isTup o = false) (hr : M'.ρ = M.ρ) : ∀ {v : V} {d : Dat}, Rp cm K (hid M' H) v d → flt d = true → Rp cm K (hid M H) v d
  | _, _, .non, _ => .non
  | _, _, .bl b, _ => .bl b
  | _, _, .int i, _ => .int i
  | _, _, .str x, _ => .str x
  | _, _, .ptr (a := a) (k := k) q, _ => .ptr (by
    have q : M'.ρ[k]? = some a := q
    show M.ρ[k]? = some a
    rw [← hr]; exact q)
  | _, _, .tup s r, h => .tup (by
    rcases s with (s | ⟨o, s⟩) | s
    · exact .inl (.inl (key_flt hl s rfl))
    · exact .inl (.inr ⟨o, key_flt hl s rfl⟩)
    · exact .inr s) (flts_rp2 hl hr r (by unfold flt at h; exact h))
  | _, _, .lst s r, h => by unfold flt at h; cases h
  | _, _, .ro s r, h => by unfold flt at h; cases h
  | _, _, .ins s r, h => by unfold flt at h; cases h
  | _, _, .dic s r, h => by unfold flt at h; cases h
theorem flts_rp2 (hl : ∀ a, a ∈ M → a ∈ M' ∨ ∃ o, H a = some o ∧ isTup o = false) (hr : M'.ρ = M.ρ) : ∀ {vs : List V} {ds : List Dat}, RpAll cm K (hid M' H) vs ds → flts ds = true → RpAll cm K (hid M H) vs ds
  | _, _, .nil, _ => .nil
  | _, _, .cons a b, h => by
    unfold flts at h
    rw [Bool.and_eq_true] at h
    exact .cons (flt_rp2 hl hr a h.1) (flts_rp2 hl hr b h.2)
end
theorem fltF_rp2 (hl : ∀ a, a ∈ M → a ∈ M' ∨ ∃ o, H a = some o ∧ isTup o = false) (hr : M'.ρ = M.ρ) : ∀ {vs : List (Str × V)} {ds : List (Str × Dat)}, RpF cm K (hid M' H) vs ds → fltF ds = true → RpF cm K (hid M H) vs ds
  | _, _, .nil, _ => .nil
  | _, _, .cons a b, h => by
    unfold fltF at h
    rw [Bool.and_eq_true] at h
    exact .cons (flt_rp2 hl hr a h.1) (fltF_rp2 hl hr b h.2)
end
/-- the things are seen -/
def Hd.see (M : Hd) : Hd := ⟨M.as.filter (fun a => !M.ρ.contains a), M.ρ⟩
theorem Hd.mem_see {M : Hd} {a : Addr} : a ∈ M.see ↔ a ∈ M ∧ a ∉ M.ρ := by
  show a ∈ M.as.filter (fun a => !M.ρ.contains a) ↔ a ∈ M.as ∧ a ∉ M.ρ
  rw [List.mem_filter]
  simp
section
variable {F : Fm} {S : Sg} {σ : L2.St} {H : Hp} {g : Nat} {T : Ths}
theorem Rel.seeSame (R : Rel F S σ H) : Same (vis F S σ H) (hid (F.M ++ locs S σ).see H) := hid_sub (fun a h => (Hd.mem_see.mp h).1) rfl
/-- a thing, seen -/
theorem Rel.seeTh (R : Rel F S σ H) (hg : S[g]? = some (.heap T)) {k : Nat} {o : Own} {l : Addr} (hk : T[k]? = some o) (hl : F.M.ρ[k]? = some l) : (hid (F.M ++ locs S σ).see H) l = H l ∧ OwnOk F.cm F.K (hid (F.M ++ locs S σ).see H) H l o := by
  obtain ⟨l', h1, h2, h3⟩ := R.th hg hk
  rw [hl] at h1; cases h1
  exact ⟨hid_out fun z => (Hd.mem_see.mp z).2 (List.mem_of_getElem? hl), h3.mono R.seeSame fun _ q => q⟩
theorem Rel.look1 (R : Rel F S σ H) (hg : S[g]? = some (.heap T)) {v : V} {d : Dat} (r : Rp F.cm F.K (hid (F.M ++ locs S σ).see H) v d) : Rp F.cm F.K (hid (F.M ++ locs S σ).see H) v (look1 T d) := by
  cases d with
  | ptr j =>
    unfold Mir.look1
    dsimp only
    cases r with
    | @ptr a _ q =>
      have q0 : F.M.ρ[j]? = some a := q
      cases hj : T[j]? with
      | none => exact .ptr q
      | some o =>
        obtain ⟨e, ok⟩ := R.seeTh hg hj q0
        cases o with
        | lst ds =>
          cases ok with
          | lst h r => exact .lst (by rw [e]; exact h) r
        | dic ks =>
          cases ok with
          | dic h r => exact .dic (by rw [e]; exact h) r
        | obj c fs => exact .ptr q
        | dit _ => exact .ptr q
        | gone _ => exact .ptr q
  | _ => exact r
theorem Rel.lookF (R : Rel F S σ H) (hg : S[g]? = some (.heap T)) : ∀ {vs : List (Str × V)} {fs : List (Str × Dat)}, RpF F.cm F.K (hid (F.M ++ locs S σ).see H) vs fs → RpF F.cm F.K (hid (F.M ++ locs S σ).see H) vs (lookF T fs)
  | _, _, .nil => .nil
  | _, _, .cons a b => .cons (R.look1 hg a) (Rel.lookF R hg b)
theorem Rel.snap1 (R : Rel F S σ H) (hg : S[g]? = some (.heap T)) {v : V} {d : Dat} (r : Rp F.cm F.K (vis F S σ H) v d) : Rp F.cm F.K (hid (F.M ++ locs S σ).see H) v (snap1 T d) := by
  have r := r.mono R.seeSame
  cases d with
  | ptr j =>
    unfold Mir.snap1
    dsimp only
    cases r with
    | @ptr a _ q =>
      have q0 : F.M.ρ[j]? = some a := q
      cases hj : T[j]? with
      | none => exact .ptr q
      | some o =>
        obtain ⟨e, ok⟩ := R.seeTh hg hj q0
        cases o with
        | lst ds =>
          cases ok with
          | lst h r => exact .lst (by rw [e]; exact h) r
        | dic ks =>
          cases ok with
          | dic h r => exact .dic (by rw [e]; exact h) r
        | obj c fs =>
          cases ok with
          | obj h r => exact .ins (by rw [e]; exact h) (R.lookF hg r)
        | dit _ => exact .ptr q
        | gone _ => exact .ptr q
  | _ => exact r
/-- what was hidden and is seen is no tuple -/
theorem Rel.seeTup (R : Rel F S σ H) (hg : S[g]? = some (.heap T)) {H' : Hp} (s : L2.Same H H') : ∀ a, a ∈ F.M ++ locs S σ → a ∈ (F.M ++ locs S σ).see ∨ ∃ o, H' a = some o ∧ isTup o = false := fun a ha => by
  by_cases hr : a ∈ F.M.ρ
  · obtain ⟨k, hk, e⟩ := List.getElem_of_mem hr
    have hk2 : k < T.length := by rw [R.thl hg]; exact hk
    obtain ⟨l, h1, _, h3⟩ := R.th hg (List.getElem?_eq_getElem hk2)
    rw [List.getElem?_eq_getElem hk, e] at h1
    cases h1
    refine .inr ?_
    generalize T[k] = o at h3
    cases h3 with
    | lst h _ => exact ⟨_, s _ _ h, rfl⟩
    | obj h _ => exact ⟨_, s _ _ h, rfl⟩
    | dic h _ => exact ⟨_, s _ _ h, rfl⟩
    | dit h _ => exact ⟨_, s _ _ h, rfl⟩
    | gone _ h v =>
      refine ⟨_, s _ _ h, ?_⟩
      rcases v with ⟨_, rfl⟩ | ⟨_, rfl⟩ <;> rfl
  · exact .inl (Hd.mem_see.mpr ⟨ha, hr⟩)
end
section
variable {F : Fm} {S : Sg} {σ : L2.St} {H : Hp} {cm : CM} {K : PySem.W.Frag} {W : WX} {g : Nat} {vs : List V} {as : List AV} {Q : VK}
theorem see_xd {M M' : Hd} {H : Hp} {da : Addr} {gs : List (Str × V)} (hl : ∀ a, a ∈ M → a ∈ M' ∨ ∃ o, H a = some o ∧ isTup o = false) (h : hid M' H da = some (.xd gs)) : hid M H da = some (.xd gs) := key_flt hl h rfl
end
end Mir
/-! MirZX: the end of a law that makes things -/
namespace Mir
open PySem PySem.Spec PyProof.Rows L2
theorem end_ofMT {l : PySem.W.OpenLaw} {n k : Nat} {q : Program} {loose : List Str} {XP : (Str → Option Value) → Heap → Prop} {YP : World → Heap → Prop} {d : DefRec} {x : Str} {Fn : List FA → Ths → RT}
    (hn : l.most = some n) (hn2 : n ≤ sizeLine) (hdf : d.params.defaults = []) (hr : Room k callerA)
    (F : ∀ (w : World) (mg : Str → Option Value) (fa : Addr) (h : Heap), YP w h → h.Ns mainGlobals mg → mg d.name = some (.ref fa) →
      ∃ (K : PySem.W.Frag) (fd : FuncData) (cm : CM), K.In h ∧ (∀ (s : Shared) (u : Value), BindsTo s fd ⟨[u], []⟩ [(x, u)]) ∧
        ∀ base : Heap, K.In base → base.Ns mainGlobals mg → FnG l.prog w K mg base (L2.CX l.prog w) k fa fd [x] (spT cm K Fn))
    (good : ∀ ns : List Int, ns.length ≤ n → ∃ T, Fn [.dat (.ro (ns.map .int))] [] = .ok (.bl true) [] T) :
    PySem.W.WalkO q loose XP YP l.row.toRowW d [] (fun f vs => PySem.call f vs) := by
  refine Att.attach_call hn hdf fun w s₀ s₁ mg mb fa o pm cd doc a vs ns G Y ho hd hcd hmg hobj hints hlen hg => ?_
  obtain ⟨K, fd, cm, KX, hb, hF⟩ := F w mg fa _ Y G.T.g hmg
  refine head_call KX G.T.g G.T.b G.T.builtins G.T.nolimit hg hobj hints (Nat.le_trans hlen hn2) hr hF hb fun H hO hS => ?_
  have e0 : (hid ⟨[], []⟩ H).h = H := by
    funext y
    exact hid_out (M := ⟨[], []⟩) (fun z => by cases z)
  obtain ⟨T, hT⟩ := good ns hlen
  refine ⟨⟨[], []⟩, [.dat (.ro (ns.map .int))], [], [], ⟨fun m hm => (by cases hm)⟩, by simp, List.nodup_nil, by simp, .dat (.ro (by rw [e0]; exact hS) (ro_ints ns)) .nil, ⟨rfl, fun k o hk => by simp at hk, List.nodup_nil⟩, ?_⟩
  rw [hT]
  intro v M' H' _ _ _ rv
  cases rv
  rfl
end Mir
/-! MirZY: things, the native side; list() of a list that a thing holds -/
namespace Mir
open PySem PySem.Spec PyProof.Rows L2
/-! ### natively -/
abbrev eP : Nat → Dat := Dat.ptr
open Classical in
noncomputable def decOf {α : Type} (f : α → Dat) (d : Dat) : Option α := if h : ∃ x, f x = d then some (Classical.choose h) else none
theorem decOf_some {α : Type} {f : α → Dat} {d : Dat} {x : α} (h : decOf f d = some x) : d = f x := by
  unfold decOf at h
  by_cases hz : ∃ x, f x = d
  · rw [dif_pos hz] at h
    cases h
    exact (Classical.choose_spec hz).symm
  · rw [dif_neg hz] at h; cases h
theorem decOf_enc {α : Type} {f : α → Dat} (hf : ∀ x y, f x = f y → x = y) (x : α) : decOf f (f x) = some x := by
  unfold decOf
  have hz : ∃ y, f y = f x := ⟨x, rfl⟩
  rw [dif_pos hz]
  exact congrArg some (hf _ _ (Classical.choose_spec hz))
def pushT (o : Own) (T : Ths) : Option (Nat × Ths) := some (T.length, T ++ [o])
def appTN (d : Dat) (T : Ths) (p : Nat) : Option Ths := match T[p]? with
  | some (.lst ds) => if ds.length < lim then some (T.set p (.lst (ds ++ [d]))) else none
  | _ => none
noncomputable def lsN {α : Type} (f : α → Dat) (T : Ths) (p : Nat) : Option (List α) := match T[p]? with
  | some (.lst ds) => decOf (eL f) (.lst ds)
  | _ => none
/-- an object, as it is seen -/
noncomputable def rdS {α : Type} (f : α → Dat) (T : Ths) (p : Nat) : Option α := decOf f (snap1 T (.ptr p))
theorem thsAt_eq {g : Nat} {S : Sg} {T : Ths} (h : S[g]? = some (.heap T)) : thsAt g S = some T := by unfold thsAt; rw [h]
theorem thAt_eq {g k : Nat} {S : Sg} {T : Ths} (h : S[g]? = some (.heap T)) : thAt g k S = T[k]? := by unfold thAt; rw [h]
def EndsT (k g : Nat) (q : RT) (x : Rs Fl) : Prop := endT k g x = q
def RToT {ρ : Type} (k g : Nat) (res : ρ → RT) (v : ρ) (x : Rs Fl) : Prop := (∃ d S, x = .ok (.rt d) S) ∧ EndsT k g (res v) x
theorem rtoT {ρ : Type} {k g : Nat} {res : ρ → RT} : ∀ v x, RToT k g res v x → ∃ d S, x = .ok (.rt d) S := fun _ _ h => h.1
theorem rtoT_of {ρ : Type} {k g : Nat} {res : ρ → RT} {v : ρ} {d : Dat} {S : Sg} (h : EndsT k g (res v) (.ok (.rt d) S)) : RToT k g res v (.ok (.rt d) S) := ⟨⟨_, _, rfl⟩, h⟩
theorem f_runT {np n : Nat} {m : MS} {as : List FA} {T : Ths} {r : RT} {k : Nat} {S : Sg} (hl : as.length = np) (hk : nOwn as = k) (hS : mkSlots 0 as ++ List.replicate (n - np) .no ++ [.heap T] = S) (h : EndsT k n r (m S)) : runDefT np n m as T = r := by
  unfold runDefT
  rw [if_pos hl, hk, hS]
  exact h
section
variable {α β : Type} {S S1 S2 S3 S4 : Sg} {a b c d : Dat} {ma mo : ME} {g : Nat} {T T' U : Ths} {p : Nat} {P : Rs Fl → Prop} {rest : MS} {cs : List Str} {nm cn : Str} {f : α → Dat} {v : α}
theorem s_rtoT {ρ : Type} {k : Nat} {res : ρ → RT} {v : ρ} {m : MS} (h : RToT k g res v (m S)) (hp : P (m S)) : P (mSeq m rest S) := by
  obtain ⟨d, S1, e⟩ := h.1
  exact s_out (r := m S) rfl (fun S3 z => by rw [e] at z; cases z) hp
theorem x_newL {mL : Sg → Rs (List Dat)} {ds : List Dat} {q : Nat × Ths} (hL : mL S = .ok ds S1) (hT : S1[g]? = some (.heap T)) (h : pushT (.lst ds) T = some q) (hS : S1.set g (.heap q.2) = S2) : mNewL g mL S = .ok (.ptr q.1) S2 := by
  unfold mNewL
  rw [hL, Rs.bind_ok, thsAt_eq hT]
  cases h
  rw [← hS]
theorem s_appT (ho : mo S = .ok (.ptr p) S1) (hT : S1[g]? = some (.heap T)) (he : ma S1 = .ok d S2) (hT2 : S2[g]? = some (.heap T)) (h : appTN d T p = some U) (hS : S2.set g (.heap U) = S3) (k : P (rest S3)) : P (mSeq (mAppT g mo ma) rest S) := s_run (by
  unfold mAppT
  rw [ho, Rs.bind_ok]
  unfold lstAt
  dsimp only
  rw [thAt_eq hT]
  unfold appTN at h
  cases ht : T[p]? with
  | none => rw [ht] at h; cases h
  | some o =>
    rw [ht] at h
    cases o with
    | lst ds =>
      dsimp only at h ⊢
      rw [he, Rs.bind_ok]
      unfold appT
      dsimp only
      rw [thAt_eq hT2, ht]
      dsimp only
      by_cases hc : ds.length < lim
      · rw [if_pos hc] at h ⊢
        unfold setTh
        rw [hT2]
        dsimp only
        rw [Option.some.inj h, hS]
      · rw [if_neg hc] at h; cases h
    | _ => cases h) k
theorem rdS_some (h : rdS f T p = some v) : snap1 T (.ptr p) = f v := decOf_some h
/-! snapshots -/
/-! flat values -/
theorem ft_I (x : Int) : flt (eI x) = true := by simp [flt, eI]
theorem ft_B (x : Bool) : flt (eB x) = true := by simp [flt, eB]
theorem ft_S (x : Str) : flt (eS x) = true := by simp [flt, eS]
theorem ft_O (h : ∀ x, flt (f x) = true) (x : Option α) : flt (eO f x) = true := by
  cases x with
  | none => simp [flt, eO]
  | some x => exact h x
theorem ft_2 {f2 : β → Dat} (h : ∀ x, flt (f x) = true) (h2 : ∀ x, flt (f2 x) = true) (x : α × β) : flt (e2 f f2 x) = true := by simp [flt, flts, e2, h, h2]
/-! applications -/
theorem a_T {Fn : List FA → Ths → RT} {as : List AV} {fs : List FA} {is : List Nat} {outs : List Own} (hf : fetch S as = some (fs, is)) (hT : S[g]? = some (.heap T)) (nd : nodupB is = true) (hF : Fn fs T = .ok d outs U) (hw : wb S is outs = some S1) (hS : S1.set g (.heap U) = S2) : applyT g Fn as S = .ok d S2 := by
  unfold applyT
  rw [hf]
  dsimp only
  rw [thsAt_eq hT]
  dsimp only
  simp only [nd, if_true]
  rw [hF]
  dsimp only
  rw [hw]
  dsimp only
  rw [hS]
section
variable {app : List AV → Sg → Rs Dat} {n m : Nat} {arr : List AV → List AV → List AV} {mA mK : MAv} {as bs : List AV}
theorem x_callA (ha : mA S = .ok as S1) (hk : mK S1 = .ok bs S2) (hl : as.length = n ∧ bs.length = m) (h : app (arr as bs) S2 = .ok d S3) : mCallA app n m arr mA mK S = .ok d S3 := by
  unfold mCallA; rw [ha, Rs.bind_ok, hk, Rs.bind_ok, if_pos hl]; exact h
end
end
end Mir
namespace Mir
open PySem PySem.Spec PyProof.Rows L2
/-! ### in, not in: a list in a list of lists, and the like -/
def shp63 (d : PyData) : Bool := d.canLay0 && decide (d.depth ≤ 63)
def inL (a : Dat) (ds : List Dat) : Option Bool := match toPy a, toPyAll ds with
  | some p, some ps => if shp63 p && ps.all shp63 then some (ps.any fun q => PyData.eqv q p) else none
  | _, _ => none
def inP (a : Dat) : Dat → Option Bool
  | .lst ds => inL a ds
  | .tup ds => inL a ds
  | _ => none
def inXB (a b : Dat) : Option Bool := match inB a b with
  | some t => some t
  | none => inP a b
def notInXD (a b : Dat) : Option Dat := (inXB a b).map fun t => Dat.bl (!t)
section
variable {X : Cx} {cm : CM}
theorem DpAll.each {pins : List (Addr × Obj)} {σ : L2.St} {H : Hp} {s : Shared} (I : Inv X pins σ H s) : ∀ {vs : List V} {ps : List PyData} {us : List Value}, DpAll X.K H vs ps → Vals vs us → us.length = ps.length ∧ ∀ (i : Nat) (u : Value) (p : PyData), us[i]? = some u → ps[i]? = some p → ∃ as, Reads s.heap u p as
  | [], [], [], _, _ => ⟨rfl, fun i u p h => by simp at h⟩
  | v :: vs, p :: ps, u :: us, h, r => by
    cases h with
    | cons a b =>
      cases r with
      | cons c d =>
        obtain ⟨e, f⟩ := DpAll.each I b d
        refine ⟨by simp [e], fun i w q h1 h2 => ?_⟩
        cases i with
        | zero => cases h1; cases h2; exact Dp.reads I _ _ _ a c
        | succ i => exact f i w q (by simpa using h1) (by simpa using h2)
theorem bool_pick {ι : Type} (its : List ι) (bs : List Bool) (hl : its.length = bs.length) : ∃ e : ι → Bool, its.any e = bs.any id ∧ ∀ w, w ∈ its → ∃ i : Nat, its[i]? = some w ∧ bs[i]? = some (e w) := by
  classical
  refine ⟨fun w => decide (∃ i : Nat, its[i]? = some w ∧ bs[i]? = some true), ?_, ?_⟩
  · rw [Bool.eq_iff_iff, List.any_eq_true, List.any_eq_true]
    constructor
    · rintro ⟨w, _, hw⟩
      obtain ⟨i, _, h2⟩ := of_decide_eq_true hw
      exact ⟨true, List.mem_of_getElem? h2, rfl⟩
    · rintro ⟨b, hb, e⟩
      have e : b = true := e
      subst e
      obtain ⟨i, hi, h2⟩ := List.getElem_of_mem hb
      have hi2 : i < its.length := by omega
      exact ⟨its[i], List.getElem_mem hi2, decide_eq_true ⟨i, List.getElem?_eq_getElem hi2, by rw [List.getElem?_eq_getElem hi, h2]⟩⟩
  · intro w hw
    by_cases hz : ∃ i : Nat, its[i]? = some w ∧ bs[i]? = some true
    · obtain ⟨i, h1, h2⟩ := hz
      refine ⟨i, h1, ?_⟩
      show bs[i]? = some (decide _)
      rw [decide_eq_true ⟨i, h1, h2⟩]
      exact h2
    · obtain ⟨i, hi, h2⟩ := List.getElem_of_mem hw
      have hi2 : i < bs.length := by omega
      refine ⟨i, by rw [List.getElem?_eq_getElem hi, h2], ?_⟩
      show bs[i]? = some (decide _)
      rw [decide_eq_false hz, List.getElem?_eq_getElem hi2]
      cases hb : bs[i] with
      | false => rfl
      | true => exact absurd ⟨i, by rw [List.getElem?_eq_getElem hi, h2], by rw [List.getElem?_eq_getElem hi2, hb]⟩ hz
/-- what `in` needs of a list or a tuple of data -/
theorem inL_ok (hu : X.A.units + 64 < cLine) {pins : List (Addr × Obj)} {σ : L2.St} {H : Hp} {s : Shared} {M : Hd} {x : V} {v : Value} {a : Dat} {xs : List V} {ds : List Dat} {its : List Value} {t : Bool} (I : Inv X pins σ H s) (pa : Rp cm X.K (hid M H) x a) (rx : RelV x v) (rb : RpAll cm X.K (hid M H) xs ds) (r : Vals xs its) (h : inL a ds = some t) :
    ∃ e : Value → Bool, its.any e = t ∧ ∀ w, w ∈ its → SeqAt.EqAt X.A.in1 s w v (e w) := by
  unfold inL at h
  cases ha : toPy a with
  | none => rw [ha] at h; cases h
  | some p =>
    cases hb : toPyAll ds with
    | none => rw [ha, hb] at h; cases h
    | some ps =>
      rw [ha, hb] at h
      dsimp only at h
      by_cases hz : (shp63 p && ps.all shp63) = true
      · rw [if_pos hz] at h
        cases h
        rw [Bool.and_eq_true] at hz
        obtain ⟨as, r2⟩ := Dp.reads I p x v (dp_of (pa.mono hid_le') ha) rx
        obtain ⟨el, er⟩ := DpAll.each I (dpAll_of (rb.mono hid_le') hb) r
        obtain ⟨e, e1, e2⟩ := bool_pick its (ps.map fun q => PyData.eqv q p) (by simp [el])
        refine ⟨e, by rw [e1, List.any_map]; rfl, fun w hw => ?_⟩
        obtain ⟨i, h1, h2⟩ := e2 w hw
        rw [List.getElem?_map] at h2
        cases hq : ps[i]? with
        | none => rw [hq] at h2; cases h2
        | some q =>
          rw [hq] at h2
          have h2 : PyData.eqv q p = e w := Option.some.inj h2
          rw [← h2]
          obtain ⟨bs, r1⟩ := er i w q h1 hq
          have s1 := hz.1
          have s2 := List.all_eq_true.mp hz.2 q (List.mem_of_getElem? hq)
          unfold shp63 at s1 s2
          rw [Bool.and_eq_true, decide_eq_true_eq] at s1 s2
          refine SeqAt.eqAt_reads q p X.A.in1 s w v bs as r1 r2 s2.1 s1.1 ?_
          show X.A.units + 1 + min q.depth p.depth < cLine
          have := Nat.min_le_left q.depth p.depth
          have := s2.2
          omega
      · rw [if_neg hz] at h; cases h
theorem o_notInX (hu : X.A.units + 64 < cLine) : OpR X (compareOp .NotIn) (rD cm X.K notInXD) := by
  rintro pins s σ H x y v u Q I rx ry ⟨M, a, b, c, lv, pa, pb, e, q⟩
  unfold notInXD inXB at e
  cases h : inB a b with
  | some t => exact o_notIn (cm := cm) pins s σ H x y v u Q I rx ry ⟨M, a, b, c, lv, pa, pb, by unfold notInD; rw [h]; rw [h] at e; exact e, q⟩
  | none =>
    rw [h] at e
    dsimp only at e
    cases h2 : inP a b with
    | none => rw [h2] at e; cases e
    | some t =>
      rw [h2] at e
      cases e
      cases b with
      | lst ds =>
        cases pb with
        | lst hb rb =>
          cases ry
          obtain ⟨its, r, pl, hz⟩ := I.list (SqL.of (hid_le _ _ hb))
          obtain ⟨e, e1, e2⟩ := inL_ok hu I pa rx rb r h2
          refine SeqAt.notIn_listAt e pl.isList (fun w hw => e2 w (by simpa using hw)) ⟨.bl _, H, I, rfl, ?_⟩
          rw [show its.toArray.any e = its.any e by simp, e1]
          exact q _ H (.refl _) (.bl _)
      | tup ds =>
        cases pb with
        | tup hb rb =>
          cases ry
          obtain ⟨its, r, pl, hz⟩ := I.tuple (sqT_same hid_le hb)
          obtain ⟨e, e1, e2⟩ := inL_ok hu I pa rx rb r h2
          refine SeqAt.notIn_tupleAt e pl (fun w hw => e2 w (by simpa using hw)) ⟨.bl _, H, I, rfl, ?_⟩
          rw [show its.toArray.any e = its.any e by simp, e1]
          exact q _ H (.refl _) (.bl _)
      | _ => cases h2
end
/-! natively -/
theorem q_notInX {a b : Dat} {t : Bool} (h : inXB a b = some t) : notInXD a b = some (.bl !t) := by unfold notInXD; rw [h]; rfl
theorem q_notInXF {a b : Dat} {t : Bool} (h : inB a b = some t) : notInXD a b = some (.bl !t) := q_notInX (by unfold inXB; rw [h])
end Mir
/-! MirZZA: a new list, lent to a def over things -/
namespace Mir
open PySem PySem.Spec PyProof.Rows L2
/-! natively -/
end Mir
/-! MirZZB: an expression that only looks at the def's own lists -/
namespace Mir
open PySem PySem.Spec PyProof.Rows L2
end Mir
/-! MirZZC: builtins that look at lists that things hold -/
namespace Mir
open PySem PySem.Spec PyProof.Rows L2
def lookD (T : Ths) : Dat → Dat
  | .lst ds => .lst (ds.map (look1 T))
  | d => look1 T d
theorem Rel.lookAll {F : Fm} {S : Sg} {σ : L2.St} {H : Hp} {g : Nat} {T : Ths} (R : Rel F S σ H) (hg : S[g]? = some (.heap T)) : ∀ {vs : List V} {ds : List Dat}, RpAll F.cm F.K (hid (F.M ++ locs S σ).see H) vs ds → RpAll F.cm F.K (hid (F.M ++ locs S σ).see H) vs (ds.map (Mir.look1 T))
  | _, _, .nil => .nil
  | _, _, .cons a b => .cons (R.look1 hg a) (R.lookAll hg b)
theorem Rel.lookD {F : Fm} {S : Sg} {σ : L2.St} {H : Hp} {g : Nat} {T : Ths} (R : Rel F S σ H) (hg : S[g]? = some (.heap T)) {v : V} {d : Dat} (r : Rp F.cm F.K (vis F S σ H) v d) : Rp F.cm F.K (hid (F.M ++ locs S σ).see H) v (Mir.lookD T d) := by
  have r := r.mono R.seeSame
  cases d with
  | lst ds =>
    cases r with
    | lst h a => exact .lst h (R.lookAll hg a)
  | _ => exact R.look1 hg r
theorem Rel.lookDs {F : Fm} {S : Sg} {σ : L2.St} {H : Hp} {g : Nat} {T : Ths} (R : Rel F S σ H) (hg : S[g]? = some (.heap T)) : ∀ {vs : List V} {ds : List Dat}, RpAll F.cm F.K (vis F S σ H) vs ds → RpAll F.cm F.K (hid (F.M ++ locs S σ).see H) vs (ds.map (Mir.lookD T))
  | _, _, .nil => .nil
  | _, _, .cons a b => .cons (R.lookD hg a) (R.lookDs hg b)
def mCallT (g : Nat) (f : List Dat → Option Dat) (mr : MA) : ME := fun S => (mr S).bind fun ds S1 => match thsAt g S1 with
  | some T => (match f (ds.map (lookD T)) with
    | some c => if flt c then .ok c S1 else .bad
    | none => .bad)
  | none => .bad
section
variable {X : Cx} {cm : CM} {W : WX} {e : Expr} {es : List Expr} {mr : MA} {pos : Pos} {g : Nat}
theorem ge_callBT {x : Str} {p : Pos} {id : String} {f : List Dat → Option Dat} (hc : CallR X (.builtin id) (rDs cm X.K f)) (hg : Gl X x) (hm : X.mg x = none) (hv : bootBuiltins x = some (.builtin id)) (ha : PA X (e :: es) (tA cm X.K W mr))
    (hn : x ≠ "__name__" := by decide) (hdb : (x == ("__debug__" : Str)) = false := by decide) (he : starEach (e :: es) X.env = (false, eval e X.env) :: starEach es X.env := by rfl) (hpl : (backTo pos (starEach es X.env)).any (·.1) = false := by rfl) :
    PE X (.Call (.Name x p) (e :: es) [] pos) (tE cm X.K W (mCallT g f mr)) :=
  PE.weak (pe_callB hc hg hm hv ha hn hdb he hpl) fun σ H Q ⟨F, S, e1, e2, R, h⟩ => tG_bind e1 e2 R h fun F x H1 da S1 e1 e2 R1 s1 p1 h1 => by
    cases ht : thsAt g S1 with
    | none => rw [ht] at h1; exact h1.elim
    | some T =>
      rw [ht] at h1
      dsimp only at h1
      have hgg := thsAt_of ht
      cases hf : f (da.map (lookD T)) with
      | none => rw [hf] at h1; exact h1.elim
      | some c =>
        rw [hf] at h1
        dsimp only at h1
        by_cases hz : flt c = true
        · rw [if_pos hz] at h1
          refine ⟨(F.M ++ locs S1 σ).see, da.map (lookD T), c, ⟨fun m hm => R1.hlv (Hd.mem_see.mp hm).1⟩, by rw [← e1, ← e2]; exact R1.lookDs hgg (by rw [e1, e2]; exact p1), hf, fun v H' sm rv => ?_⟩
          exact h1 v H' (R1.grow sm) (vis_grow sm) (flt_rp2 (M := F.M ++ locs S1 σ) (R1.seeTup hgg sm) rfl rv hz)
        · rw [if_neg hz] at h1; exact h1.elim
end
theorem x_callT {f : List Dat → Option Dat} {mr : MA} {ds : List Dat} {S S1 : Sg} {g : Nat} {T : Ths} {c : Dat} (hr : mr S = .ok ds S1) (hT : S1[g]? = some (.heap T)) (h : f (ds.map (lookD T)) = some c) (hf : flt c = true) : mCallT g f mr S = .ok c S1 := by
  unfold mCallT
  rw [hr, Rs.bind_ok, thsAt_eq hT]
  dsimp only
  rw [h]
  dsimp only
  rw [if_pos hf]
end Mir
/-! MirZZD: things seen by == and !=; a field of a thing as a target; a default (); x.clear(); a call that looks at own lists -/
namespace Mir
open PySem PySem.Spec PyProof.Rows L2
/-! ### operators that look at things -/
def snapD (T : Ths) : Dat → Dat
  | .lst ds => .lst (ds.map (look1 T))
  | d => snap1 T d
section
variable {F : Fm} {S : Sg} {σ : L2.St} {H : Hp} {g : Nat} {T : Ths}
theorem Rel.snapD (R : Rel F S σ H) (hg : S[g]? = some (.heap T)) {v : V} {d : Dat} (r : Rp F.cm F.K (vis F S σ H) v d) : Rp F.cm F.K (hid (F.M ++ locs S σ).see H) v (Mir.snapD T d) := by
  cases d with
  | lst ds =>
    have r := r.mono R.seeSame
    cases r with
    | lst h a => exact .lst h (R.lookAll hg a)
  | _ => exact R.snap1 hg r
end
def m2T (g : Nat) (f : Dat → Dat → Option Dat) (ma mb : ME) : ME := fun S => (ma S).bind fun a S1 => (mb S1).bind fun b S2 => match thsAt g S2 with
  | some T => (match f (snapD T a) (snapD T b) with
    | some c => if flt c then .ok c S2 else .bad
    | none => .bad)
  | none => .bad
section
variable {X : Cx} {cm : CM} {W : WX} {a b e o : Expr} {ma mb me mo : ME} {g : Nat} {f : Dat → Dat → Option Dat} {pos : Pos} {nm : Str}
theorem gt_cmpT {op} (o : OpR X (compareOp op) (rD cm X.K f)) (ha : PE X a (tE cm X.K W ma)) (hb : PE X b (tE cm X.K W mb)) (hm : behindInMarks op b = false) : PT X (.Compare a [op] [b] pos) (tT cm X.K W (cTruth (m2T g f ma mb))) :=
  PT.weak (pt_cmpR o ha hb hm) fun σ H Q ⟨F, S, e1, e2, R, h⟩ => by
    unfold cTruth m2T at h
    rw [bind_assoc] at h
    refine tG_bind e1 e2 R h fun F x H1 da S1 e1 e2 R1 s1 p1 h1 => ?_
    rw [bind_assoc] at h1
    refine tG_bind e1 e2 R1 h1 fun F y H2 db S2 e1 e2 R2 s2 p2 h2 => ?_
    cases ht : thsAt g S2 with
    | none => rw [ht] at h2; exact h2.elim
    | some T =>
      rw [ht] at h2
      dsimp only at h2
      have hgg := thsAt_of ht
      cases hf : f (snapD T da) (snapD T db) with
      | none => rw [hf] at h2; exact h2.elim
      | some c =>
        rw [hf] at h2
        dsimp only at h2
        by_cases hz : flt c = true
        · rw [if_pos hz, Rs.bind_ok] at h2
          cases c <;> try (exact False.elim h2)
          rename_i t
          refine ⟨(F.M ++ locs S2 σ).see, snapD T da, snapD T db, .bl t, ⟨fun m hm => R2.hlv (Hd.mem_see.mp hm).1⟩, by rw [← e1, ← e2]; exact R2.snapD hgg (by rw [e1, e2]; exact p1.mono s2), by rw [← e1, ← e2]; exact R2.snapD hgg (by rw [e1, e2]; exact p2), hf, fun v H' s' rv => ?_⟩
          cases rv
          exact ⟨t, rfl, h2 t H' (R2.grow s') (vis_grow s') rfl⟩
        · rw [if_neg hz] at h2; exact h2.elim
/-! ### o.f as a target, o a thing -/
/-! ### x.clear(), x.reverse() -/
end
/-! ### enumerate(x), x a list or a tuple -/
/-! ### a default () -/
/-! ### a call over things that looks at own lists -/
/-! ### natively -/
section
variable {α : Type} {S S1 S2 S3 : Sg} {a b c d a' b' : Dat} {ma mb mo m : ME} {g : Nat} {T T0 U : Ths} {p : Nat} {cs : List Str} {nm : Str}
theorem x_2T {f : Dat → Dat → Option Dat} (ha : ma S = .ok a S1) (hb : mb S1 = .ok b S2) (hT : S2[g]? = some (.heap T)) (sa : snapD T a = a') (sb : snapD T b = b') (h : f a' b' = some c) (hf : flt c = true) : m2T g f ma mb S = .ok c S2 := by
  unfold m2T
  rw [ha, Rs.bind_ok, hb, Rs.bind_ok, thsAt_eq hT]
  dsimp only
  rw [sa, sb, h]
  dsimp only
  rw [if_pos hf]
end
end Mir
/-! MirZZE: dicts as things: a display, an item, a store, a copy; an item of a list that is a thing -/
namespace Mir
open PySem PySem.Spec PyProof.Rows L2
def putKD (kvs : List (Key × Dat)) (k : Key) (d : Dat) : List (Key × Dat) :=
  if (kvs.any fun kv => decide (kv.1 = k)) = true then kvs.map (fun kv => if kv.1 = k then (kv.1, d) else kv) else kvs ++ [(k, d)]
def valD (kvs : List (Key × Dat)) (k : Key) : Option Dat := (kvs.find? fun kv => decide (kv.1 = k)).map (·.2)
def mergeKD (kvs more : List (Key × Dat)) : List (Key × Dat) := more.foldl (fun acc kv => putKD acc kv.1 kv.2) kvs
section
variable {cm : CM} {K : PySem.W.Frag} {G : VH}
theorem RpK.any : ∀ {gs : List (Key × V)} {ks : List (Key × Dat)}, RpK cm K G gs ks → ∀ k, (gs.any fun kv => decide (kv.1 = k)) = ks.any fun kv => decide (kv.1 = k)
  | _, _, .nil, k => rfl
  | _, _, .cons (f := f) a b, k => by
    rw [List.any_cons, List.any_cons, RpK.any b k]
theorem RpK.length : ∀ {gs : List (Key × V)} {ks : List (Key × Dat)}, RpK cm K G gs ks → gs.length = ks.length
  | _, _, .nil => rfl
  | _, _, .cons a b => congrArg Nat.succ (RpK.length b)
theorem RpK.snoc {k : Key} {v : V} {d : Dat} (r : Rp cm K G v d) : ∀ {gs : List (Key × V)} {ks : List (Key × Dat)}, RpK cm K G gs ks → RpK cm K G (gs ++ [(k, v)]) (ks ++ [(k, d)])
  | _, _, .nil => .cons r .nil
  | _, _, .cons a b => .cons a (RpK.snoc r b)
theorem RpK.repl {k : Key} {v : V} {d : Dat} (r : Rp cm K G v d) : ∀ {gs : List (Key × V)} {ks : List (Key × Dat)}, RpK cm K G gs ks → RpK cm K G (gs.map fun kv => if kv.1 = k then (kv.1, v) else kv) (ks.map fun kv => if kv.1 = k then (kv.1, d) else kv)
  | _, _, .nil => .nil
  | _, _, .cons (f := f) a b => by
    rw [List.map_cons, List.map_cons]
    by_cases h : f = k
    · rw [if_pos h, if_pos h]; exact .cons r (RpK.repl r b)
    · rw [if_neg h, if_neg h]; exact .cons a (RpK.repl r b)
theorem RpK.put {k : Key} {v : V} {d : Dat} (r : Rp cm K G v d) {gs : List (Key × V)} {ks : List (Key × Dat)} (h : RpK cm K G gs ks) : RpK cm K G (putK gs k v) (putKD ks k d) := by
  unfold putK putKD
  rw [h.any k]
  split
  · exact h.repl r
  · exact h.snoc r
theorem RpK.val : ∀ {gs : List (Key × V)} {ks : List (Key × Dat)}, RpK cm K G gs ks → ∀ {k : Key} {d : Dat}, valD ks k = some d → ∃ v, valV gs k = some v ∧ Rp cm K G v d
  | _, _, .nil, k, d, h => by cases h
  | _, _, .cons (f := f) (v := v) (d := d0) (gs := gs) (fs := fs) a b, k, d, h => by
    unfold valD at h
    unfold valV
    rw [List.find?_cons] at h ⊢
    by_cases hz : f = k
    · have e : decide (f = k) = true := by simp [hz]
      dsimp only at h ⊢
      rw [e] at h ⊢
      cases h
      exact ⟨v, rfl, a⟩
    · have e : decide (f = k) = false := by simp [hz]
      dsimp only at h ⊢
      rw [e] at h ⊢
      exact RpK.val b h
theorem RpK.merge : ∀ {ms : List (Key × V)} {mds : List (Key × Dat)}, RpK cm K G ms mds → ∀ {gs : List (Key × V)} {ks : List (Key × Dat)}, RpK cm K G gs ks → RpK cm K G (mergeK gs ms) (mergeKD ks mds)
  | _, _, .nil, _, _, h => h
  | _, _, .cons (f := f) a b, gs, ks, h => RpK.merge b (h.put (k := f) a)
end
/-! ### a hidden new object becomes a thing -/
/-! ### a display -/
section
variable {X : Cx} {cm : CM} {W : WX} {a b e o i : Expr} {ma mb me mo mi : ME} {g : Nat} {pos pos' p : Pos}
/-! ### d["k"] -/
/-! ### d["k"] = e -/
/-! ### dict(d) -/
/-! ### an item of a list that is a thing -/
theorem ge_ixT {f : Dat → Dat → Option Dat} (o : IxR X (rD cm X.K f)) (ha : PE X a (tE cm X.K W ma)) (hb : PE X b (tE cm X.K W mb)) (hm : PlainIx b) : PE X (.Subscript a b pos) (tE cm X.K W (m2T g f ma mb)) :=
  PE.weak (pe_ix o ha hb hm) fun σ H Q ⟨F, S, e1, e2, R, h⟩ => tG_bind e1 e2 R h fun F x H1 da S1 e1 e2 R1 s1 p1 h1 => tG_bind e1 e2 R1 h1 fun F y H2 db S2 e1 e2 R2 s2 p2 h2 => by
    cases ht : thsAt g S2 with
    | none => rw [ht] at h2; exact h2.elim
    | some T =>
      rw [ht] at h2
      dsimp only at h2
      have hgg := thsAt_of ht
      cases hf : f (snapD T da) (snapD T db) with
      | none => rw [hf] at h2; exact h2.elim
      | some c =>
        rw [hf] at h2
        dsimp only at h2
        by_cases hz : flt c = true
        · rw [if_pos hz] at h2
          refine ⟨(F.M ++ locs S2 σ).see, snapD T da, snapD T db, c, ⟨fun m hm => R2.hlv (Hd.mem_see.mp hm).1⟩, by rw [← e1, ← e2]; exact R2.snapD hgg (by rw [e1, e2]; exact p1.mono s2), by rw [← e1, ← e2]; exact R2.snapD hgg (by rw [e1, e2]; exact p2), hf, fun v H' sm rv => ?_⟩
          exact h2 v H' (R2.grow sm) (vis_grow sm) (flt_rp2 (M := F.M ++ locs S2 σ) (R2.seeTup hgg sm) rfl rv hz)
        · rw [if_neg hz] at h2; exact h2.elim
end
/-! ### natively -/
section
variable {α : Type} {S S1 S2 S3 : Sg} {a b c d a' b' : Dat} {ma mb mo m : ME} {g : Nat} {T T0 U : Ths} {p : Nat} {k : Str} {f : α → Dat} {v : α}
theorem look_ls {xs : List α} (h : lsN f T p = some xs) : lookD T (.ptr p) = .lst (xs.map f) := by
  unfold lsN at h
  show (match T[p]? with
    | some (.lst ds) => Dat.lst ds
    | some (.dic ks) => .dic ks
    | _ => .ptr p) = _
  cases ht : T[p]? with
  | none => rw [ht] at h; cases h
  | some o =>
    rw [ht] at h
    cases o with
    | lst ds => exact (decOf_some (f := eL f) (d := .lst ds) (x := xs) h)
    | _ => cases h
theorem x_callT1 {F : List Dat → Option Dat} {mr : MA} (hr : mr S = .ok [d] S1) (hT : S1[g]? = some (.heap T)) (hd : lookD T d = a) (h : F [a] = some c) (hf : flt c = true) : mCallT g F mr S = .ok c S1 :=
  x_callT hr hT (by rw [← h, ← hd]; rfl) hf
end
end Mir
/-! MirZZF: try with several except clauses, each with a name -/
namespace Mir
open PySem PySem.Spec PyProof.Rows L2
inductive HdsA (X : Cx) : List ExceptHandler → List (Nat × Value × (Addr → Value → Option Addr → TS)) → Prop
  | nil : HdsA X [] []
  | cons {i : Nat} {x n : Str} {c : Value} {ts : Addr → Value → Option Addr → TS} {b₀ : Stmt} {suite : List Stmt} {np pp : Pos} {hds : List ExceptHandler} {l : List (Nat × Value × (Addr → Value → Option Addr → TS))}
      (hi : X.N[i]? = some n) (hln : X.env.kindOf n = some .local) (hc : Names X x c)
      (hsu : ∀ (a : Addr) (oe : Obj) (cls : Value) (d : Option Addr) (pn : List (Addr × Obj)), Zc cls d oe → (∃ vs, oe.data = .fields vs) →
        PSs (X.suite a ((a, oe) :: pn)) (b₀ :: suite) (ts a cls d)) (r : HdsA X hds l) :
      HdsA X (.ExceptHandler (some (.Name x np)) (some n) (b₀ :: suite) pp :: hds) ((i, c, ts) :: l)
/-! ### the mirror -/
/-- an except clause: the exceptions it takes, its name's slot, its suite -/
structure Hnd where
  tab : List (Str × Bool)
  i : Nat
  ms : MS
section
variable {X : Cx} {cm : CM} {W : WX} {body : List Stmt} {hd0 : ExceptHandler} {hds : List ExceptHandler} {pos : Pos} {mb : MS}
/-- the clauses, with their suites' mirrors -/
inductive HdsM (X : Cx) (cm : CM) : List ExceptHandler → List (Hnd × Value) → Prop
  | nil : HdsM X cm [] []
  | cons {i : Nat} {x n : Str} {cv : Value} {tab : List (Str × Bool)} {ms : MS} {b₀ : Stmt} {suite : List Stmt} {np pp : Pos} {hds : List ExceptHandler} {l : List (Hnd × Value)}
      (hi : X.N[i]? = some n) (hln : X.env.kindOf n = some .local) (hc : Names X x cv) (htab : ∀ q, q ∈ tab → PySem.W.exmOne X.K (.ref (cm q.1)) cv = some q.2)
      (hsu : ∀ (a : Addr) (oe : Obj) (c : Str) (dd : Addr) (pn : List (Addr × Obj)), Zc (.ref (cm c)) (some dd) oe → (∃ vs, oe.data = .fields vs) → PSs (X.suite a ((a, oe) :: pn)) (b₀ :: suite) (tS (cm.sx (some (a, c, dd))) X.K W0 ms)) (r : HdsM X cm hds l) :
      HdsM X cm (.ExceptHandler (some (.Name x np)) (some n) (b₀ :: suite) pp :: hds) ((⟨tab, i, ms⟩, cv) :: l)
def hndA (K : PySem.W.Frag) (cm : CM) (h : Hnd × Value) : Nat × Value × (Addr → Value → Option Addr → TS) := (h.1.i, h.2, fun a cls d D σ H => ∃ c dd, cls = .ref (cm c) ∧ d = some dd ∧ tS (cm.sx (some (a, c, dd))) K W0 h.1.ms D σ H)
theorem HdsM.a {hds : List ExceptHandler} {l : List (Hnd × Value)} (h : HdsM X cm hds l) : HdsA X hds (l.map (hndA X.K cm)) := by
  induction h with
  | nil => exact .nil
  | cons hi hln hc htab hsu r ih =>
    refine .cons hi hln hc (fun a oe cls d pn hz hv => ?_) ih
    refine ⟨fun pins s σ H D I ⟨c, dd, e1, e2, h⟩ => ?_⟩
    subst e1 e2
    exact (hsu a oe c dd pn hz hv).run pins s σ H D I h
end
end Mir
/-! MirZZG: x or y by truth; defs over things that raise, native; several except clauses, native -/
namespace Mir
open PySem PySem.Spec PyProof.Rows L2
/-! ### x or y, by truth -/
/-! ### native -/
/-! defs over things that raise -/
/-- a value of any kind is of a kind -/
theorem cast_eq {α : Type} {f : α → Dat} {d : Dat} {v : α} (h : decOf f d = some v) : d = f v := decOf_some h
end Mir
/-! MirZZI: repr of values that hold empty dicts -/
namespace PySem
section
variable {prog : Program} {w : World} {h₀ : Heap}
mutual
/-- a value is read; no dict is the table of the modules -/
inductive RdE (h : Heap) : Value → PyData → List Addr → Prop
  | none : RdE h .none .none []
  | bool (b) : RdE h (.bool b) (.bool b) []
  | int (i t) : RdE h (.int i t) (.int i) []
  | str (x t) : RdE h (.str x t) (.str x) []
  | list {a o vs n xs as} : h.get? a = some o → o.cls = .type "list" → o.data = .seq vs n → RdAllE h vs.toList xs as → RdE h (.ref a) (.list xs) (a :: as)
  | tuple {a o vs n xs as} : h.get? a = some o → o.cls = .type "tuple" → o.data = .seq vs n → RdAllE h vs.toList xs as → RdE h (.ref a) (.tuple xs) as
  | dict {a o es n kvs} : h.get? a = some o → o.cls = .type "dict" → o.data = .dict es n → ReadsAll h (es.toList.map (·.key)) (kvs.map (·.1)) [] → ReadsAll h (es.toList.map (·.val)) (kvs.map (·.2)) [] → (a == sysModules) = false → RdE h (.ref a) (.dict kvs) (a :: [] ++ [])
inductive RdAllE (h : Heap) : List Value → List PyData → List Addr → Prop
  | nil : RdAllE h [] [] []
  | cons {v vs d ds as bs} : RdE h v d as → RdAllE h vs ds bs → RdAllE h (v :: vs) (d :: ds) (as ++ bs)
end
mutual
theorem RdE.reads : ∀ {v : Value} {d : PyData} {as : List Addr}, RdE h₀ v d as → Reads h₀ v d as
  | _, _, _, .none => .none
  | _, _, _, .bool b => .bool b
  | _, _, _, .int i t => .int i t
  | _, _, _, .str x t => .str x t
  | _, _, _, .list h1 h2 h3 h4 => .list h1 h2 h3 (RdAllE.reads h4)
  | _, _, _, .tuple h1 h2 h3 h4 => .tuple h1 h2 h3 (RdAllE.reads h4)
  | _, _, _, .dict h1 h2 h3 e f _ => .dict h1 h2 h3 e f
theorem RdAllE.reads : ∀ {vs : List Value} {ds : List PyData} {as : List Addr}, RdAllE h₀ vs ds as → ReadsAll h₀ vs ds as
  | _, _, _, .nil => .nil
  | _, _, _, .cons r rs => .cons (RdE.reads r) (RdAllE.reads rs)
end
mutual
theorem ReprK.of_rdE : ∀ {v : Value} {d : PyData} {as : List Addr}, RdE h₀ v d as → d.showable = true → d.shown.length ≤ sizeLine → ∃ bs, ReadAtMost h₀ d.depth bs ∧ ReprK prog w bs h₀ d.depth v d.shown
  | _, _, _, .none, _, _ => ⟨[], (fun _ h => nomatch h), by simp only [PyData.shown]; exact .of_is ReprIs.none _ _ _⟩
  | _, _, _, .bool b, _, _ => ⟨[], (fun _ h => nomatch h), by simp only [PyData.shown]; exact .of_is (ReprIs.bool b) _ _ _⟩
  | _, _, _, .int i t, hs, _ => ⟨[], (fun _ h => nomatch h), by simp only [PyData.shown]; exact .of_is (ReprIs.int t (by simpa [PyData.showable] using hs)) _ _ _⟩
  | _, _, _, .str x t, _, hz => ⟨[], (fun _ h => nomatch h), by simp only [PyData.shown]; exact .of_is (ReprIs.str x t (by simpa only [PyData.shown] using hz)) _ _ _⟩
  | _, _, _, .list (a := a) (vs := vs) (xs := xs) h1 h2 h3 h4, hs, hz => by
    have hz' : (listText (PyData.shownAll xs)).length ≤ sizeLine := by simpa only [PyData.shown] using hz
    obtain ⟨bs, hb, hk⟩ := ReprAllK.of_rdE h4 (by simpa [PyData.showable] using hs) (fun t ht => Nat.le_trans (listText_mem_le ht) hz')
    have r : Reads h₀ (.ref a) (.list xs) _ := .list h1 h2 h3 h4.reads
    have hna : a ∉ bs := not_mem_of_deeper r (by simp only [PyData.depth]; omega) hb
    refine ⟨a :: bs, ReadAtMost.cons r (by simp only [PyData.depth]; omega) hb, ?_⟩
    simp only [PyData.depth, PyData.shown]
    obtain ⟨l⟩ := vs
    cases l with
    | nil =>
      have h4' : RdAllE h₀ [] xs _ := h4
      cases h4'
      simp only [PyData.shownAll, listText_nil]
      exact ReprK.listEmpty h1 h2 h3
    | cons x l => exact ReprK.list h1 h2 h3 hna (by simpa using hk.length_eq) (fun i y e => hk.item i y (by simpa using e))
  | _, _, _, .tuple (a := a) (xs := xs) h1 h2 h3 h4, hs, hz => by
    have hz' : (tupleText (PyData.shownAll xs)).length ≤ sizeLine := by simpa only [PyData.shown] using hz
    obtain ⟨bs, hb, hk⟩ := ReprAllK.of_rdE h4 (by simpa [PyData.showable] using hs) (fun t ht => Nat.le_trans (tupleText_mem_le ht) hz')
    have r : Reads h₀ (.ref a) (.tuple xs) _ := .tuple h1 h2 h3 h4.reads
    have hna : a ∉ bs := not_mem_of_deeper r (by simp only [PyData.depth]; omega) hb
    refine ⟨a :: bs, ReadAtMost.cons r (by simp only [PyData.depth]; omega) hb, ?_⟩
    simp only [PyData.depth, PyData.shown]
    exact ReprK.tuple h1 h2 h3 hna hk
  | _, _, _, .dict (a := a) (es := es) (kvs := kvs) h1 h2 h3 e f hsys, hs, hz => by
    have r0 : RdE h₀ (.ref a) (.dict kvs) _ := .dict h1 h2 h3 e f hsys
    refine ReprK.of_reads (as := [a]) (by simpa using r0.reads) hs (fun _ hm => ?_) hz
    have : sysModules = a := by simpa using hm
    rw [this] at hsys
    simp at hsys
theorem ReprAllK.of_rdE : ∀ {vs : List Value} {ds : List PyData} {as : List Addr}, RdAllE h₀ vs ds as → PyData.showableAll ds = true → (∀ t ∈ PyData.shownAll ds, t.length ≤ sizeLine) →
    ∃ bs, ReadAtMost h₀ (PyData.depthAll ds) bs ∧ ReprAllK prog w bs h₀ (PyData.depthAll ds) vs (PyData.shownAll ds)
  | _, _, _, .nil, _, _ => ⟨[], (fun _ h => nomatch h), by simp only [PyData.shownAll]; exact .nil⟩
  | _, _, _, .cons (d := d) (ds := ds) r rs, hs, hz => by
    have hs' : d.showable = true ∧ PyData.showableAll ds = true := by simpa [PyData.showableAll] using hs
    obtain ⟨b1, hb1, k1⟩ := ReprK.of_rdE r hs'.1 (hz _ (by simp only [PyData.shownAll]; exact List.mem_cons_self ..))
    obtain ⟨b2, hb2, k2⟩ := ReprAllK.of_rdE rs hs'.2 (fun t ht => hz t (by simp only [PyData.shownAll]; exact List.mem_cons_of_mem _ ht))
    refine ⟨b1 ++ b2, ?_, ?_⟩
    · intro b hm
      simp only [PyData.depthAll]
      rcases List.mem_append.mp hm with hm | hm
      · obtain ⟨d', as', r', hd'⟩ := hb1 b hm
        exact ⟨d', as', r', Nat.le_trans hd' (Nat.le_max_left _ _)⟩
      · obtain ⟨d', as', r', hd'⟩ := hb2 b hm
        exact ⟨d', as', r', Nat.le_trans hd' (Nat.le_max_right _ _)⟩
    · simp only [PyData.depthAll, PyData.shownAll]
      exact .cons ((k1.more fun b hb => List.mem_append_left _ hb).level_le (Nat.le_max_left _ _)) (k2.more_le (fun b hb => List.mem_append_right _ hb) (Nat.le_max_right _ _))
end
theorem showsBy_of_rdE {a : Addr} {d : PyData} {as : List Addr} (r : RdE h₀ (.ref a) d as) (hs : d.showable = true) (hsz : d.shown.length ≤ sizeLine) : ∃ T idr, ShowsBy prog w h₀ a d T idr := by
  cases r with
  | list h1 h2 h3 h4 =>
    rename_i o vs n xs bs₀
    have hz' : (listText (PyData.shownAll xs)).length ≤ sizeLine := by simpa only [PyData.shown] using hsz
    obtain ⟨bs, hb, hk⟩ := ReprAllK.of_rdE (prog := prog) (w := w) h4 (by simpa [PyData.showable] using hs) (fun t ht => Nat.le_trans (listText_mem_le ht) hz')
    have hna : a ∉ bs := not_mem_of_deeper (.list h1 h2 h3 h4.reads) (by simp only [PyData.depth]; omega) hb
    refine ⟨"list", "list.__repr__", F.slot_list_repr.toG, F.slot_list_str, F.slot_list_format, fun s hk0 => ⟨o, hk0 _ _ h1, h2⟩, fun A E s Q hg hu hk0 hQ => ?_⟩
    simp only [PyData.depth] at hu
    simp only [PyData.shown] at hQ
    obtain ⟨l⟩ := vs
    cases l with
    | nil =>
      have h4' : RdAllE h₀ [] xs _ := h4
      cases h4'
      simp only [PyData.shownAll, listText_nil] at hQ
      exact call_list_repr_empty ⟨o, hk0 _ _ h1, h2⟩ (hk0 _ _ h1) h3 (hQ s.heap _ _ fun _ _ e => e)
    | cons x l =>
      exact call_list_reprK h1 h2 h3 hna (by simpa using hk.length_eq) (fun i y e => hk.item i y (by simpa using e)) hg (fun b _ => Clear.nil b) hu hk0 hQ hz'
  | tuple h1 h2 h3 h4 =>
    rename_i o vs n xs
    have hz' : (tupleText (PyData.shownAll xs)).length ≤ sizeLine := by simpa only [PyData.shown] using hsz
    obtain ⟨bs, hb, hk⟩ := ReprAllK.of_rdE (prog := prog) (w := w) h4 (by simpa [PyData.showable] using hs) (fun t ht => Nat.le_trans (tupleText_mem_le ht) hz')
    have hna : a ∉ bs := not_mem_of_deeper (.tuple h1 h2 h3 h4.reads) (by simp only [PyData.depth]; omega) hb
    refine ⟨"tuple", "tuple.__repr__", F.slot_tuple_repr, F.slot_tuple_str, F.slot_tuple_format, fun s hk0 => ⟨o, hk0 _ _ h1, h2⟩, fun A E s Q hg hu hk0 hQ => ?_⟩
    simp only [PyData.depth] at hu
    simp only [PyData.shown] at hQ
    exact call_tuple_reprK h1 h2 h3 hna hk hg (fun b _ => Clear.nil b) hu hk0 hQ hz'
  | dict h1 h2 h3 e f hsys =>
    rename_i kvs
    have r0 : RdE h₀ (.ref a) (.dict kvs) _ := .dict h1 h2 h3 e f hsys
    refine showsBy_of_reads (as := [a]) (by simpa using r0.reads) hs (fun _ hm => ?_) hsz
    have : sysModules = a := by simpa using hm
    rw [this] at hsys
    simp at hsys
variable {A : Around} {E : Value → Shared → Prop} {s : Shared} {Q : Value → Shared → Prop}
theorem repr_of_rdE {a : Addr} {d : PyData} {as : List Addr} (r : RdE h₀ (.ref a) d as) (hs : d.showable = true) (hg : A.guards = some []) (hu : A.units + (d.depth + 1) < cLine) (hk0 : ∀ b o, h₀.get? b = some o → s.heap.get? b = some o)
    (hQ : ∀ h' u tk, (∀ b o, s.heap.get? b = some o → h'.get? b = some o) → Q (.str d.shown u) { s with heap := h', toks := tk })
    (hsz : d.shown.length ≤ sizeLine) : wpAny (model prog w) A (call (.builtin "repr") [.ref a]) Q E s := by
  obtain ⟨T, idr, S⟩ := showsBy_of_rdE (prog := prog) (w := w) r hs hsz
  exact call_repr_slot (by omega) (S.typeIs s hk0) S.slotRepr (S.call A.in1 E s _ hg (by show A.units + 1 + d.depth < cLine; omega) hk0 fun h' u tk hk => ⟨_, _, rfl, hQ h' u tk hk⟩)
end
end PySem
namespace Mir
open PySem PySem.Spec PyProof.Rows L2
def encK : Key → PyData
  | .inl i => .int i
  | .inr x => .str x
/-- a dict of numbers -/
def dicPy : List (Key × Dat) → Option (List (PyData × PyData))
  | [] => some []
  | (k, .int i) :: r => (dicPy r).map ((encK k, .int i) :: ·)
  | _ => none
mutual
def toPyE : Dat → Option PyData
  | .non => some .none
  | .bl b => some (.bool b)
  | .int i => some (.int i)
  | .str x => some (.str x)
  | .lst ds => match toPyEs ds with
    | some ps => some (.list ps)
    | none => none
  | .tup ds => match toPyEs ds with
    | some ps => some (.tuple ps)
    | none => none
  | .ro ds => match toPyEs ds with
    | some ps => some (.list ps)
    | none => none
  | .ins _ _ => none
  | .dic ks => (dicPy ks).map .dict
  | .ptr _ => none
def toPyEs : List Dat → Option (List PyData)
  | [] => some []
  | d :: ds => match toPyE d, toPyEs ds with
    | some p, some ps => some (p :: ps)
    | _, _ => none
end
def showE (p : PyData) : Option Str := if p.showable && decide (p.depth ≤ 60) && decide (p.shown.length ≤ sizeLine) then some p.shown else none
def reprE (d : Dat) : Option Str := match toPyE d with
  | some p => showE p
  | none => none
def reprEC : List Dat → Option Dat
  | [d] => (reprE d).map Dat.str
  | _ => none
theorem encK_ok {P : Program} {w : World} {h : Heap} {k : Key} {key : Value} (e : (mixKind P w).is k key = true) : Reads h key (encK k) [] := by
  rcases keyIs_shape (show keyIs k key = true from e) with ⟨i, t, rfl, rfl⟩ | ⟨x, t, rfl, rfl⟩
  · exact .int i t
  · exact .str x t
theorem dicPy_rd {cm : CM} {K : PySem.W.Frag} {G : VH} {h : Heap} : ∀ {gs : List (Key × V)} {fs : List (Key × Dat)} {D : List (PyData × PyData)} {vs : List (Key × Value)}, RpK cm K G gs fs → dicPy fs = some D → KV gs vs → PyProof.V.PairsRead h encK vs D []
  | _, _, _, _, .nil, e, kv => by
    cases e
    have kv : Paired _ _ _ := kv
    cases kv
    exact .nil
  | _, _, _, _, .cons (f := f) (d := d) (fs := fs) a b, e, kv => by
    cases d <;> try (cases e)
    rename_i i
    cases a
    cases hD : dicPy fs with
    | none => rw [dicPy, hD] at e; cases e
    | some D =>
      rw [dicPy, hD] at e; cases e
      have kv : Paired _ _ _ := kv
      cases kv with
      | @cons p q _ _ r t =>
        obtain ⟨e1, w, e2⟩ := r
        obtain ⟨q1, q2⟩ := q
        dsimp only at e1 e2
        subst e1 e2
        exact .cons (as := []) (bs := []) (.int _ _) (dicPy_rd b hD t)
section
variable {X : Cx} {cm : CM} {pins : List (Addr × Obj)} {σ : L2.St} {H : Hp} {s : Shared} {ρ : List Addr}
mutual
theorem rdE_of (I : L2.Inv X pins σ H s) : ∀ {v : V} {d : Dat} {p : PyData} {u : Value}, Rp cm X.K ⟨H, ρ⟩ v d → toPyE d = some p → RelV v u → ∃ as, RdE s.heap u p as
  | _, _, _, _, .non, e, r => by cases e; cases r; exact ⟨_, .none⟩
  | _, _, _, _, .bl b, e, r => by cases e; cases r; exact ⟨_, .bool b⟩
  | _, _, _, _, .int b, e, r => by cases e; obtain ⟨t, rfl⟩ := r; exact ⟨_, .int b t⟩
  | _, _, _, _, .str b, e, r => by cases e; obtain ⟨t, rfl⟩ := r; exact ⟨_, .str b t⟩
  | _, _, p, _, .lst (ds := ds) hs ha, e, r => by
    rw [toPyE] at e
    cases h : toPyEs ds with
    | none => rw [h] at e; cases e
    | some ps =>
      rw [h] at e; cases e
      cases r
      obtain ⟨its, rv, ⟨o, n, ho, hc, _, hd⟩, _⟩ := I.list (SqL.of hs)
      obtain ⟨as, hr⟩ := rdAllE_of I ha h rv
      exact ⟨_, .list ho hc hd hr⟩
  | _, _, p, _, .ro (ds := ds) hs ha, e, r => by
    rw [toPyE] at e
    cases h : toPyEs ds with
    | none => rw [h] at e; cases e
    | some ps =>
      rw [h] at e; cases e
      cases r
      obtain ⟨its, rv, ⟨o, n, ho, hc, _, hd⟩, _⟩ := I.list hs
      obtain ⟨as, hr⟩ := rdAllE_of I ha h rv
      exact ⟨_, .list ho hc hd hr⟩
  | _, _, p, _, .tup (ds := ds) hs ha, e, r => by
    rw [toPyE] at e
    cases h : toPyEs ds with
    | none => rw [h] at e; cases e
    | some ps =>
      rw [h] at e; cases e
      cases r
      obtain ⟨its, rv, ⟨o, ho, hc, n, hd⟩, _⟩ := I.tuple hs
      obtain ⟨as, hr⟩ := rdAllE_of I ha h rv
      exact ⟨_, .tuple ho hc hd hr⟩
  | _, _, _, _, .ins _ _, e, r => by rw [toPyE] at e; cases e
  | _, _, _, _, .dic (a := a) (fs := fs) hh rk, e, r => by
    rw [toPyE] at e
    cases hD : dicPy fs with
    | none => rw [hD] at e; cases e
    | some D =>
      rw [hD] at e; cases e
      cases r
      obtain ⟨_, hn, vs, kv, o, es, ep, h1, h2, h3, _, h4, _⟩ := (show ObjOk X.prog X.w H s.heap a (.dK _) from I.hok a _ hh)
      have hr := PyProof.V.readsAll_of_pairs (h := s.heap) (enc := encK) (fun k key h => encK_ok h) h4 (dicPy_rd rk hD kv)
      exact ⟨_, .dict h1 h2.1 h3 hr.1 hr.2 hn⟩
  | _, _, _, _, .ptr _, e, r => by rw [toPyE] at e; cases e
theorem rdAllE_of (I : L2.Inv X pins σ H s) : ∀ {vs : List V} {ds : List Dat} {ps : List PyData} {us : List Value}, RpAll cm X.K ⟨H, ρ⟩ vs ds → toPyEs ds = some ps → Vals vs us → ∃ as, RdAllE s.heap us ps as
  | _, _, _, _, .nil, e, r => by rw [toPyEs] at e; cases e; cases r; exact ⟨_, .nil⟩
  | _, _, _, _, .cons (d := d) (ds := ds) a b, e, r => by
    rw [toPyEs] at e
    cases h : toPyE d with
    | none => rw [h] at e; cases e
    | some p =>
      cases h2 : toPyEs ds with
      | none => rw [h, h2] at e; cases e
      | some ps =>
        rw [h, h2] at e; cases e
        cases r with
        | cons r1 r2 =>
          obtain ⟨as, q1⟩ := rdE_of I a h r1
          obtain ⟨bs, q2⟩ := rdAllE_of I b h2 r2
          exact ⟨_, .cons q1 q2⟩
end
theorem showE_ok {p : PyData} {x : Str} (e : showE p = some x) : p.showable = true ∧ p.depth ≤ 60 ∧ p.shown.length ≤ sizeLine ∧ x = p.shown := by
  unfold showE at e
  by_cases hz : (p.showable && decide (p.depth ≤ 60) && decide (p.shown.length ≤ sizeLine)) = true
  · rw [if_pos hz] at e
    cases e
    simp only [Bool.and_eq_true, decide_eq_true_eq] at hz
    exact ⟨hz.1.1, hz.1.2, hz.2, rfl⟩
  · rw [if_neg hz] at e; cases e
theorem reprE_ok {Q : VK} {M : Hd} {x : V} {u : Value} {d : Dat} {z : Str} (I : L2.Inv X pins σ H s) (hg : X.A.guards = some []) (hu : X.A.units + 64 < cLine) (p : Rp cm X.K (hid M H) x d) (rx : RelV x u) (e : reprE d = some z)
    (q : Q (.str z) H) : wpAny (model X.prog X.w) X.A (call (.builtin "repr") [u]) (EP X pins σ Q) X.xe s := by
  unfold reprE at e
  cases hp : toPyE d with
  | none => rw [hp] at e; cases e
  | some py =>
    rw [hp] at e
    obtain ⟨h1, h3, h4, rfl⟩ := showE_ok e
    obtain ⟨as, rd⟩ := rdE_of I (p.mono hid_le') hp rx
    have ref : ∀ a, u = .ref a → wpAny (model X.prog X.w) X.A (call (.builtin "repr") [u]) (EP X pins σ Q) X.xe s := fun a ea => by
      subst ea
      exact repr_of_rdE rd h1 hg (by omega) (fun _ _ z => z) (fun h' t tk k => ⟨.str py.shown, H, I.kept k, ⟨_, rfl⟩, q⟩) h4
    cases rd with
    | none => exact PySem.P.repr_of_none ⟨.str _, H, I.tok _, ⟨_, rfl⟩, q⟩
    | bool b =>
      have eb : PyData.shown (.bool b) = if b = true then Str.ofString "True" else Str.ofString "False" := by cases b <;> rfl
      rw [eb] at q
      exact PySem.P.repr_of_bool ⟨.str _, H, I.tok _, ⟨_, rfl⟩, q⟩
    | int i t => exact PySem.P.repr_of_int (of_decide_eq_true (by simpa [PyData.showable] using h1)) ⟨.str _, H, I.tok _, ⟨_, rfl⟩, q⟩
    | str i t => exact PySem.P.repr_of_str ⟨.str _, H, I.tok _, ⟨_, rfl⟩, q⟩ h4
    | _ => exact ref _ rfl
theorem c_reprE (hg : X.A.guards = some []) (hu : X.A.units + 64 < cLine) : CallR X (.builtin "repr") (rDs cm X.K reprEC) := by
  rintro pins s σ H xs us Q I r ⟨M, ds, c, lv, pa, e, q⟩
  cases pa with
  | nil => cases e
  | @cons v d vs ds p1 p2 =>
    cases p2 with
    | cons _ _ => cases p1 <;> cases e
    | nil =>
      obtain ⟨u, rfl, rx⟩ := vals1 r
      have e' : (reprE d).map Dat.str = some c := e
      cases h : reprE d with
      | none => rw [h] at e'; cases e'
      | some z =>
        rw [h] at e'; cases e'
        exact reprE_ok I hg hu p1 rx h (q _ H (.refl _) (.str _))
end
theorem q_reprE {d : Dat} {s : Str} (h : reprE d = some s) : reprEC [d] = some (.str s) := by show (reprE d).map Dat.str = _; rw [h]; rfl
end Mir
/-! MirZZH: more of the native side -/
namespace Mir
open PySem L2
/-! texts of data that may hold empty dicts -/
def RpE (d : Dat) (k n : Nat) : Prop := ∃ p, toPyE d = some p ∧ p.showable = true ∧ p.depth ≤ k ∧ p.shown.length ≤ n
def RpEL (ds : List Dat) (k n : Nat) : Prop := ∃ ps, toPyEs ds = some ps ∧ PyData.showableAll ps = true ∧ PyData.depthAll ps ≤ k ∧ ((PyData.shownAll ps).map (·.length)).sum + 2 * ps.length ≤ n
theorem RpE.up {d : Dat} {k n k' n' : Nat} (h : RpE d k n) (h1 : k ≤ k') (h2 : n ≤ n') : RpE d k' n' := by
  obtain ⟨p, a, b, e, f⟩ := h
  exact ⟨p, a, b, Nat.le_trans e h1, Nat.le_trans f h2⟩
theorem rpe_int {i : Int} {m : Nat} (hm : 0 < m) (hm2 : m ≤ 500) (h : i.natAbs < 10 ^ m) : RpE (.int i) 0 (m + 1) := by
  obtain ⟨p, a, b, _, e, f⟩ := rpr_int hm hm2 h
  rw [toPy] at a
  cases a
  exact ⟨_, by rw [toPyE], b, e, f⟩
theorem rpe_nil (k : Nat) : RpEL [] k 0 := ⟨[], by simp [toPyEs], by simp [PyData.showableAll], by simp [PyData.depthAll], by simp [PyData.shownAll]⟩
theorem rpe_cons {d : Dat} {ds : List Dat} {k n m : Nat} (h : RpE d k n) (r : RpEL ds k m) : RpEL (d :: ds) k (n + m + 2) := by
  obtain ⟨p, a, b, e, f⟩ := h
  obtain ⟨ps, a', b', e', f'⟩ := r
  refine ⟨p :: ps, by simp [toPyEs, a, a'], by simp [PyData.showableAll, b, b'], by simp only [PyData.depthAll]; omega, ?_⟩
  simp only [PyData.shownAll, List.map_cons, List.sum_cons, List.length_cons]
  omega
theorem RpEL.up {ds : List Dat} {k n k' n' : Nat} (h : RpEL ds k n) (h1 : k ≤ k') (h2 : n ≤ n') : RpEL ds k' n' := by
  obtain ⟨p, a, b, e, f⟩ := h
  exact ⟨p, a, b, Nat.le_trans e h1, Nat.le_trans f h2⟩
theorem rpe_all {k n : Nat} : ∀ (xs : List Dat), (∀ x, x ∈ xs → RpE x k n) → RpEL xs k (xs.length * (n + 2))
  | [], _ => by simpa using rpe_nil k
  | x :: xs, h => by
    have := rpe_cons (h x (List.mem_cons_self ..)) (rpe_all xs fun y hy => h y (List.mem_cons_of_mem _ hy))
    refine this.up (Nat.le_refl _) ?_
    rw [List.length_cons, Nat.succ_mul]
    omega
theorem rpe_lst {ds : List Dat} {k n : Nat} (h : RpEL ds k n) : RpE (.lst ds) (k + 1) (n + 3) := by
  obtain ⟨ps, a, b, e, f⟩ := h
  refine ⟨.list ps, by simp [toPyE, a], by simp only [PyData.showable, b], by simp only [PyData.depth]; omega, ?_⟩
  have := listText_len_le (PyData.shownAll ps)
  have l : (PyData.shownAll ps).length = ps.length := PyData.shownAll_length ps
  show (listText (PyData.shownAll ps)).length ≤ _
  omega
theorem rpe_tup {ds : List Dat} {k n : Nat} (h : RpEL ds k n) : RpE (.tup ds) (k + 1) (n + 3) := by
  obtain ⟨ps, a, b, e, f⟩ := h
  refine ⟨.tuple ps, by simp [toPyE, a], by simp only [PyData.showable, b], by simp only [PyData.depth]; omega, ?_⟩
  have := tupleText_len_le (PyData.shownAll ps)
  have l : (PyData.shownAll ps).length = ps.length := PyData.shownAll_length ps
  show (tupleText (PyData.shownAll ps)).length ≤ _
  omega
theorem reprE_of {d : Dat} {k n : Nat} (h : RpE d k n) (h1 : k ≤ 60) (h2 : n ≤ 16777216) : ∃ z, reprE d = some z := by
  obtain ⟨p, a, b, e, f⟩ := h
  refine ⟨p.shown, ?_⟩
  unfold reprE
  rw [a]
  show showE p = _
  unfold showE
  rw [if_pos]
  simp only [b, Bool.true_and, Bool.and_eq_true, decide_eq_true_eq]
  exact ⟨Nat.le_trans e h1, Nat.le_trans f h2⟩
end Mir
/-! MirZZJ: sorted(..) of numbers; own lists by keyword; own lists of lists that a def only looks at -/
namespace Mir
open PySem PySem.Spec PyProof.Rows L2
/-! ### sorted -/
/-! ### own lists of lists, that a def only looks at -/
end Mir
/-! MirZZK: == and != of lists of own objects that are equal, item by item -/
namespace Mir
open PySem PySem.Spec PyProof.Rows L2
section
variable {X : Cx} {cm : CM} {k : Nat} {f : Addr} {fd : FuncData} {ps : List Str} {Fn : List FA → RF}
/-- what is known of each pair -/
structure PrOk (cm : CM) (K : PySem.W.Frag) (G : VH) (c : Str) (cs : List Str) (Fn : List FA → RF) (x y : V) : Prop where
  ex : ∃ fs c2 gs, Rp cm K G x (.ins c fs) ∧ Rp cm K G y (.ins c2 gs) ∧ cs.contains c2 = true ∧ callD Fn [.ins c fs, .ins c2 gs] = some (.bl true)
theorem PrOk.mono {K : PySem.W.Frag} {G G' : VH} {c : Str} {cs : List Str} {x y : V} (e : Same G G') (h : PrOk cm K G c cs Fn x y) : PrOk cm K G' c cs Fn x y := by
  obtain ⟨fs, c2, gs, a, b, r⟩ := h.ex
  exact ⟨fs, c2, gs, a.mono e, b.mono e, r⟩
end
end Mir
/-! MirZZL: an expression of a def over things that only looks: the lists that things are, and the def's own, are seen as values -/
namespace Mir
open PySem PySem.Spec PyProof.Rows L2
end Mir
/-! MirZZM: the native side of MirZZJ, MirZZK, MirZZL -/
namespace Mir
open PySem L2
end Mir
/-! MirZZN: for x in a list that is a thing and stays as it is -/
namespace Mir
open PySem PySem.Spec PyProof.Rows L2
end Mir
/-! MirZZO: x[i] = v in a list that is a thing; isinstance(x, T), x a thing -/
namespace Mir
open PySem PySem.Spec PyProof.Rows L2
def setTi (g : Nat) (x i d : Dat) (S : Sg) : Rs Unit := match x, i with
  | .ptr k, .int n => (match thAt g k S with
    | some (.lst ds) => (match ixN ds.length n with
      | some j => .ok () (setTh g k (.lst (ds.set j d)) S)
      | none => .bad)
    | _ => .bad)
  | _, _ => .bad
def gIxT (g : Nat) (mo mi : ME) : MG := fun d S => (mo S).bind fun x S1 => (mi S1).bind fun i S2 => setTi g x i d S2
def m1S (g : Nat) (f : Dat → Option Dat) (ma : ME) : ME := fun S => (ma S).bind fun d S1 => match thsAt g S1 with
  | some T => Rs.of (f (snap1 T d)) S1
  | none => .bad
section
variable {X : Cx} {cm : CM} {W : WX} {o e b : Expr} {mo mi ma : ME} {pos p : Pos} {g : Nat}
theorem gg_ixT (ho : PE X o (tE cm X.K W mo)) (hi : PE X e (tE cm X.K W mi)) (ha : ∀ v, assign (.Subscript o e pos) X.env v = (do
      let ov ← holding [v] (eval o X.env)
      let iv ← holding [v, ov] (eval e X.env)
      standAt pos
      holding [v, ov, iv] (setItem ov iv v)
      release [v, ov, iv] []) := by intro _; rfl) : PG X (.Subscript o e pos) (tGt cm X.K W (gIxT g mo mi)) :=
  PG.weak (pg_sub ho hi set_list ha) fun v σ H Q ⟨F, S, d, e1, e2, R, p, h⟩ => by
    have h' : outT F W (vis F S σ H) Q ((mo S).bind fun x S1 => (mi S1).bind fun i S2 => setTi g x i d S2) := h
    exact tG_bindT e1 e2 R h' fun F x H1 dx S1 e1 e2 R1 s1 p1 h1 => tG_bindT e1 e2 R1 h1 fun F y H2 dy S2 e1 e2 R2 s2 p2 h2 => by
      unfold setTi at h2
      cases dx with
      | ptr k =>
        cases dy with
        | int n =>
          dsimp only at h2
          cases ht : thAt g k S2 with
          | none => rw [ht] at h2; exact h2.elim
          | some w =>
            rw [ht] at h2
            cases w with
            | lst ds =>
              dsimp only at h2
              cases hj : ixN ds.length n with
              | none => rw [hj] at h2; exact h2.elim
              | some j =>
                rw [hj] at h2
                dsimp only at h2
                obtain ⟨T, l, hg, hk, hl, hM, ev, ok⟩ := R2.thPtr (g := g) (by rw [e1, e2]; exact p1.mono s2) ht
                cases p2
                cases ok with
                | @lst vs _ hh hr =>
                  obtain ⟨R3, s3⟩ := R2.thSet (u := .lst (ds.set j d)) (ho := .lst (vs.set j v)) hg hk hl (.lst upd_same (hr.set (by rw [e1, e2]; exact (p.mono s1).mono s2) j))
                  have es : setTh g k (.lst (ds.set j d)) S2 = S2.set g (.heap (T.set k (.lst (ds.set j d)))) := by unfold setTh; rw [hg]
                  rw [es] at h2
                  exact ⟨l, vs, n, j, ev, rfl, hh, by rw [hr.length]; exact hj, h2 σ _ R3 s3⟩
            | _ => exact h2.elim
        | _ => exact h2.elim
      | _ => exact h2.elim
theorem ge_isiS {tab : List (String × Bool)} {ct : List (Str × Bool)} {cv : V} {u : Value} (hm : X.mg "isinstance" = none) (hg : Gl X "isinstance") (he : PE X e (tE cm X.K W ma)) (hT : PE X b (tC cv)) (hu : ClsV cv u) (ht : ∀ q, q ∈ tab → PySem.W.kitOne X.K (.type q.1) u = some q.2)
    (hc : ∀ q, q ∈ ct → ClsF X.K (cm q.1) ∧ PySem.W.kitOne X.K (.ref (cm q.1)) u = some q.2) (hv : bootBuiltins ("isinstance" : Str) = some (.builtin "isinstance") := by decide +kernel)
    (h1 : starEach [e, b] X.env = (false, eval e X.env) :: starEach [b] X.env := by rfl) (h2 : starEach [b] X.env = (false, eval b X.env) :: starEach [] X.env := by rfl) (hpl : (backTo pos (starEach [b] X.env)).any (·.1) = false := by rfl) :
    PE X (.Call (.Name "isinstance" p) [e, b] [] pos) (tE cm X.K W (m1S g (isiT tab ct) ma)) :=
  PE.weak (pe_callB call_isi hg hm hv (pa_cons he (pa_cons hT pa_nil h2) h1) (by decide) (by decide) h1 hpl) fun σ H Q ⟨F, S, e1, e2, R, h⟩ => tG_bind e1 e2 R h fun F x H1 da S1 e1 e2 R1 s1 p1 h1 => by
    cases hT : thsAt g S1 with
    | none => rw [hT] at h1; exact h1.elim
    | some T =>
      rw [hT] at h1
      dsimp only at h1
      obtain ⟨d, hd, hq⟩ := out_of R1 h1
      obtain ⟨t, rfl⟩ := isi_bl hd
      have p2 := R1.snap1 (thsAt_of hT) (by rw [e1, e2]; exact p1)
      rw [e1, e2] at p2
      obtain ⟨ty, t1, t2⟩ := isi_ty ht hc p2 hd
      exact ⟨x, cv, ty, u, t, rfl, hu, tyX_mono hid_le t1, t2, hq _ H1 (.refl _) (.bl t)⟩
end
/-! ### native -/
def setTN (n : Int) (d : Dat) (T : Ths) (p : Nat) : Option Ths := match T[p]? with
  | some (.lst ds) => (ixN ds.length n).map fun j => T.set p (.lst (ds.set j d))
  | _ => none
section
variable {S S1 S2 S3 : Sg} {mo mi ma : ME} {g p : Nat} {n : Int} {T U : Ths} {a b c d : Dat}
theorem g_ixT (ho : mo S = .ok (.ptr p) S1) (hi : mi S1 = .ok (.int n) S2) (hT : S2[g]? = some (.heap T)) (h : setTN n d T p = some U) (hS : S2.set g (.heap U) = S3) : gIxT g mo mi d S = .ok () S3 := by
  unfold gIxT
  rw [ho, Rs.bind_ok, hi, Rs.bind_ok]
  unfold setTi
  dsimp only
  rw [thAt_eq hT]
  unfold setTN at h
  cases ht : T[p]? with
  | none => rw [ht] at h; cases h
  | some w =>
    rw [ht] at h
    cases w with
    | lst ds =>
      dsimp only at h ⊢
      cases hj : ixN ds.length n with
      | none => rw [hj] at h; cases h
      | some j =>
        rw [hj] at h
        cases h
        unfold setTh
        have hS : S2.set g (.heap (T.set p (.lst (ds.set j d)))) = S3 := hS
        rw [hT]
        dsimp only
        rw [hS]
    | _ => cases h
theorem x_1S {f : Dat → Option Dat} (ha : ma S = .ok a S1) (hT : S1[g]? = some (.heap T)) (hs : snap1 T a = b) (h : f b = some c) : m1S g f ma S = .ok c S1 := by
  unfold m1S
  rw [ha, Rs.bind_ok, thsAt_eq hT]
  dsimp only
  rw [hs, h]
  rfl
end
end Mir
/-! MirZZP: comprehensions over a list that is a thing and stays as it is -/
namespace Mir
open PySem PySem.Spec PyProof.Rows L2
end Mir
/-! MirZZQ: x.clear(), x.reverse(), x a list that is a thing -/
namespace Mir
open PySem PySem.Spec PyProof.Rows L2
end Mir
/-! MirZZR: native side of loops and comprehensions over list things, of clear and reverse -/
namespace Mir
open PySem PySem.Spec PyProof.Rows L2
end Mir
/-! MirZZS: repr of a written list of own objects: their own __repr__ runs while the list is being shown -/
namespace Mir
open PySem PySem.Spec PyProof.Rows L2
/-! ### {e!r}, e a list of ints -/
/-! ### the list is shown -/
end Mir
/-! MirZZT: a, b, .. = a list; m(..).append(c), a new list that nobody keeps -/
namespace Mir
open PySem PySem.Spec PyProof.Rows L2
section
variable {prog : Program} {w : World} {A : Around} {E : Value → Shared → Prop} {s : Shared}
theorem draw_list {it t : Addr} {items : Array Value} (hne : t ≠ it) : ∀ (n i : Nat) (s : Shared) (Q : List Value → Shared → Prop), s.heap.IsListIter it t i → s.heap.IsList t items → i + n ≤ items.size →
    (∀ h', h'.IsListIter it t (i + n) → Heap.SameBut it s.heap h' → Q ((items.toList.drop i).take n) { s with heap := h' }) → wpAny (model prog w) A (draw (.ref it) n) Q E s
  | 0, i, s, Q, hit, _, _, hQ => by
    show wpAny _ _ (pure []) Q E s
    exact wpAny_pure (by simpa using hQ s.heap hit (Heap.SameBut.refl ..))
  | n + 1, i, s, Q, hit, ht, hle, hQ => by
    have hlt : i < items.size := by omega
    show wpAny _ _ (pyNext (.ref it) >>= _) Q E s
    refine wpAny_bind (wpAny_pyNext_list_item hit ht (x := items[i]) (by simp [hlt]) fun h₁ hit₁ hs₁ => ?_)
    refine wpAny_bind (wpAny_holding (draw_list hne n (i + 1) _ _ hit₁ (ht.extBut hs₁.extBut hne) (by omega) fun h₂ hit₂ hs₂ => wpAny_pure ?_))
    have hd : items.toList.drop i = items[i] :: items.toList.drop (i + 1) := by simp [List.drop_eq_getElem_cons, hlt]
    have := hQ h₂ (by rw [show i + (n + 1) = i + 1 + n by omega]; exact hit₂) (hs₁.trans hs₂)
    rw [hd, List.take_succ_cons] at this
    exact this
theorem unpackItems_list {t : Addr} {items : Array Value} {Q : List Value → Shared → Prop} (hh : A.handled = none) (ht : s.heap.IsList t items)
    (hQ : ∀ h', Heap.ExtBut s.heap.objs.size s.heap h' → Q items.toList { s with heap := h' }) : wpAny (model prog w) A (unpackItems (.ref t) items.size none) Q E s := by
  have hlt : t ≠ s.heap.objs.size := by obtain ⟨o, ho, _⟩ := ht; exact Nat.ne_of_lt (Heap.lt_size ho)
  unfold unpackItems
  refine wpAny_bind ?_
  · unfold notIterableAtAll
    refine wpAny_bind (wpAny_specialOf ht.typeIs slot_list_iter.lookup ?_)
    refine wpAny_pure ?_
    simp only [Bool.false_eq_true, if_false]
    refine wpAny_bind (wpAny_holding (wpAny_pyIter_list ht ?_))
    refine wpAny_bind (wpAny_holding (draw_list hlt items.size 0 _ _ ⟨_, Heap.get?_push_size _ rfl, rfl, rfl⟩ (ht.push _) (by omega) fun h₁ hit₁ hs₁ => ?_))
    have hall : List.take items.size (List.drop 0 items.toList) = items.toList := by
      rw [List.drop_zero]; exact List.take_of_length_le (by simp)
    rw [hall]
    rw [if_neg (by simp)]
    have ht₁ : h₁.IsList t items := (ht.push _).extBut hs₁.extBut hlt
    refine wpAny_bind (wpAny_holding (wpAny_pyNext_list_end hh hit₁ ht₁ (by simp) fun h₂ he₂ => ?_))
    simp only [Option.isSome_none, Bool.false_eq_true, if_false]
    refine wpAny_pure (hQ h₂ fun b o hb e => he₂ b o hb (hs₁.extBut b o hb (Heap.get?_push_of_some _ e)))
theorem assign_Tuple_list {env : Env} {elts : List Expr} {x1} {pos : Pos} {t : Addr} {items : Array Value} {Q : Unit → Shared → Prop} (hh : A.handled = none) (ht : s.heap.IsList t items)
    (hn : (assignEach elts env).length = items.size) (hstar : (assignEach elts env).findIdx? (·.1) = none)
    (h : ∀ h', Heap.ExtBut s.heap.objs.size s.heap h' → wpAny (model prog w) A (assignInOrder ((assignEach elts env).map (·.2)) items.toList) Q E { s with heap := h' }) :
    wpAny (model prog w) A (assign (.Tuple elts x1 pos) env (.ref t)) Q E s := by
  rw [assign_Tuple]
  refine wpAny_bind (wpAny_standAt ?_)
  unfold unpack
  rw [hn, hstar]
  exact wpAny_bind (wpAny_holding (unpackItems_list hh ht h))
end
section
variable {X : Cx} {cm : CM} {W : WX} {e o : Expr} {es : List Expr} {gs : MGs} {pos : Pos}
def gTupL (n : Nat) (t : TGs) : TG := fun v σ H Q => ∃ a xs, v = .ref a ∧ H a = some (.lst xs) ∧ xs.length = n ∧ t xs σ H Q
theorem pg_tupL {k : Nat} {t : TGs} {n : Nat} (hc : X.calm = true) (h : PGs X es t)
    (hn : (assignEach es X.env).length = n := by rfl) (hst : (assignEach es X.env).findIdx? (·.1) = none := by rfl) : PG X (.Tuple es k pos) (gTupL n t) := by
  refine ⟨fun pins s σ H v u Q I r hw => ?_⟩
  obtain ⟨a, xs, e1, hq, hl, hw⟩ := hw
  subst e1
  cases r
  obtain ⟨z, its, nn, rv, _, e⟩ := I.lstM hq
  refine assign_Tuple_list (items := its.toArray) (I.ok.hd hc) ⟨_, e, rfl, nn, rfl⟩ (by simp [hn, ← hl, rv.length]) hst fun h' hx => ?_
  have I1 : L2.Inv X pins σ H { s with heap := h' } := I.kept (t' := s.toks) fun b o e => hx b o (Nat.ne_of_lt (Heap.lt_size e)) e
  exact h.run pins _ σ H xs _ Q I1 (by simpa using rv) hw
/-- a tuple of targets, the value a list of so many -/
def gTpL (n : Nat) (r : MGs) : MG := fun d S => match d with
  | .lst ds => if ds.length = n then r ds S else .bad
  | _ => .bad
theorem gg_tupL {k n : Nat} (hc : X.calm = true) (h : PGs X es (tGts cm X.K W gs)) (hn : (assignEach es X.env).length = n := by rfl) (hst : (assignEach es X.env).findIdx? (·.1) = none := by rfl) : PG X (.Tuple es k pos) (tGt cm X.K W (gTpL n gs)) :=
  PG.weak (pg_tupL hc h hn hst) fun v σ H Q ⟨F, S, d, e1, e2, R, p, h⟩ => by
    cases p with
    | @lst a vs ds hs hr =>
      have h' : outT F W (vis F S σ H) Q (if ds.length = n then gs ds S else .bad) := h
      by_cases hz : ds.length = n
      · rw [if_pos hz] at h'
        exact ⟨a, vs, rfl, hid_le _ _ hs, by rw [hr.length]; exact hz, F, S, ds, e1, e2, R, hr, h'⟩
      · rw [if_neg hz] at h'; exact h'.elim
    | _ => exact False.elim h
end
end Mir
/-! MirZZV: own + of two objects of two classes of one family -/
namespace Mir
open PySem PySem.Spec PyProof.Rows L2 PySem.Calls Builtin
end Mir
/-! MirZZU: the native side of MirZZS, MirZZT -/
namespace Mir
open PySem PySem.Spec PyProof.Rows L2
section
variable {P : Rs Fl → Prop} {rest : MS} {S S1 S2 : Sg} {α : Type} {f : α → Dat}
def un3N (xs : List α) : Option (α × α × α) := match xs with
  | [a, b, c] => some (a, b, c)
  | _ => none
theorem g_un3 {gs : MGs} {xs : List α} {x : α × α × α} (h : un3N xs = some x) (hg : gs [f x.1, f x.2.1, f x.2.2] S = .ok () S1) : gTpL 3 gs (eL f xs) S = .ok () S1 := by
  match xs, h with
  | [a, b, c], h =>
    cases h
    show (if (List.map f [a, b, c]).length = 3 then gs (List.map f [a, b, c]) S else .bad) = _
    rw [if_pos (by rfl)]
    exact hg
variable {cs : List Str} {Fn : List FA → RF} {c : Str} {fs : List (Str × Dat)} {t : Str} {ts : List Str} {ds : List Dat} {mr : MA} {z : Str}
end
end Mir
/-! MirZZW: sorted(set(..)); dicts with keys that are reckoned: comprehensions that make one, items, least and greatest key, walks -/
namespace Mir
open PySem PySem.Spec PyProof.Rows L2
/-! ### sorted(set(..)) of numbers (the walk as the library does it for a tuple) -/
def rSetL (K : PySem.W.Frag) (w : World) : List V → Hp → VK → Prop := fun xs H Q => ∃ (l : Addr) (ns : List Int), xs = [V.ref l] ∧ SqL K H l (ns.map V.int) ∧ ns.length < 1000 ∧
  ∀ a c, H a = none → c ≤ ns.length → Q (.ref a) (upd H a (SetO w a (fun j => decide (j ∈ ns)) c))
end Mir
/-! MirZZX: sorted(set(..)); dicts with keys that are reckoned: comprehensions that make one, items, least and greatest key, walks -/
namespace Mir
open PySem PySem.Spec PyProof.Rows L2
/-! ### keys that are reckoned -/
end Mir
/-! MirZZY: a dict comprehension makes a thing; the least and the greatest key of a dict that is a thing -/
namespace Mir
open PySem PySem.Spec PyProof.Rows L2
/-! ### min(d), max(d) -/
end Mir
/-! MirZZZ: a comprehension over the items of a dict that is plain data -/
namespace Mir
open PySem PySem.Spec PyProof.Rows L2
mutual
/-- no dict inside -/
def ndc : Dat → Bool
  | .non => true
  | .bl _ => true
  | .int _ => true
  | .str _ => true
  | .lst ds => ndcs ds
  | .tup ds => ndcs ds
  | .ro ds => ndcs ds
  | .ins _ fs => ndcf fs
  | .dic _ => false
  | .ptr _ => true
def ndcs : List Dat → Bool
  | [] => true
  | d :: ds => ndc d && ndcs ds
def ndcf : List (Str × Dat) → Bool
  | [] => true
  | (_, d) :: ds => ndc d && ndcf ds
end
section
variable {cm : CM} {K : PySem.W.Frag} {G G' : VH} {a0 : Addr}
theorem sqL_nd {H H' : Hp} {a : Addr} {xs : List V} {a0 : Addr} (hG : ∀ a o, a ≠ a0 → H a = some o → H' a = some o) (h0 : ∀ ys, H a0 ≠ some (.lst ys) ∧ ∀ o, H a0 ≠ some (.frz o (.lst ys))) (h : SqL K H a xs) : SqL K H' a xs := by
  rcases h with (h | ⟨o, h⟩) | h
  · exact .inl (.inl (hG _ _ (fun z => (h0 xs).1 (by rw [← z]; exact h)) h))
  · exact .inl (.inr ⟨o, hG _ _ (fun z => (h0 xs).2 o (by rw [← z]; exact h)) h⟩)
  · exact .inr h
theorem sqT_nd {H H' : Hp} {a : Addr} {xs : List V} {a0 : Addr} (hG : ∀ a o, a ≠ a0 → H a = some o → H' a = some o) (h0 : ∀ ys, H a0 ≠ some (.tup ys) ∧ ∀ o, H a0 ≠ some (.frz o (.tup ys))) (h : SqT K H a xs) : SqT K H' a xs := by
  rcases h with (h | ⟨o, h⟩) | h
  · exact .inl (.inl (hG _ _ (fun z => (h0 xs).1 (by rw [← z]; exact h)) h))
  · exact .inl (.inr ⟨o, hG _ _ (fun z => (h0 xs).2 o (by rw [← z]; exact h)) h⟩)
  · exact .inr h
/-- the one address that changes holds a dict, locked or not -/
structure DicAt (G : VH) (a0 : Addr) (gs : List (Key × V)) : Prop where
  at_ : G a0 = some (.dK gs) ∨ ∃ o, G a0 = some (.frz o (.dK gs))
theorem DicAt.nl {gs : List (Key × V)} (h : DicAt G a0 gs) : ∀ ys, G.h a0 ≠ some (.lst ys) ∧ ∀ o, G.h a0 ≠ some (.frz o (.lst ys)) := fun ys => by
  rcases h.at_ with h | ⟨o, h⟩
  · exact ⟨fun z => (by rw [h] at z; cases z), fun o z => (by rw [h] at z; cases z)⟩
  · exact ⟨fun z => (by rw [h] at z; cases z), fun o' z => (by rw [h] at z; cases z)⟩
theorem DicAt.nt {gs : List (Key × V)} (h : DicAt G a0 gs) : ∀ ys, G.h a0 ≠ some (.tup ys) ∧ ∀ o, G.h a0 ≠ some (.frz o (.tup ys)) := fun ys => by
  rcases h.at_ with h | ⟨o, h⟩
  · exact ⟨fun z => (by rw [h] at z; cases z), fun o z => (by rw [h] at z; cases z)⟩
  · exact ⟨fun z => (by rw [h] at z; cases z), fun o' z => (by rw [h] at z; cases z)⟩
variable {gs0 : List (Key × V)} (hd : DicAt G a0 gs0) (hG : ∀ a o, a ≠ a0 → G.h a = some o → G'.h a = some o) (hr : ∀ (k : Nat) (a : Addr), G.ρ[k]? = some a → G'.ρ[k]? = some a)
include hd hG hr
mutual
theorem Rp.nd : ∀ {v : V} {d : Dat}, Rp cm K G v d → ndc d = true → Rp cm K G' v d
  | _, _, .non, _ => .non
  | _, _, .bl b, _ => .bl b
  | _, _, .int i, _ => .int i
  | _, _, .str x, _ => .str x
  | _, _, .lst (a := a) (vs := vs) s r, n => .lst (hG _ _ (fun z => (hd.nl vs).1 (by rw [← z]; exact s)) s) (RpAll.nd r (by rw [ndc] at n; exact n))
  | _, _, .ro s r, n => .ro (sqL_nd hG hd.nl s) (RpAll.nd r (by rw [ndc] at n; exact n))
  | _, _, .tup s r, n => .tup (sqT_nd hG hd.nt s) (RpAll.nd r (by rw [ndc] at n; exact n))
  | _, _, .ins (a := a) (dx := dx) (c := c) (gs := gs) s r, n => .ins (hG _ _ (fun z => by
      rw [z] at s
      rcases hd.at_ with h | ⟨o, h⟩ <;> (rw [h] at s; cases s)) s) (RpF.nd r (by rw [ndc] at n; exact n))
  | _, _, .dic _ _, n => by rw [ndc] at n; cases n
  | _, _, .ptr q, _ => .ptr (hr _ _ q)
theorem RpAll.nd : ∀ {vs : List V} {ds : List Dat}, RpAll cm K G vs ds → ndcs ds = true → RpAll cm K G' vs ds
  | _, _, .nil, _ => .nil
  | _, _, .cons x y, n => by
    rw [ndcs, Bool.and_eq_true] at n
    exact .cons (Rp.nd x n.1) (RpAll.nd y n.2)
theorem RpF.nd : ∀ {vs : List (Str × V)} {ds : List (Str × Dat)}, RpF cm K G vs ds → ndcf ds = true → RpF cm K G' vs ds
  | _, _, .nil, _ => .nil
  | _, _, .cons x y, n => by
    rw [ndcf, Bool.and_eq_true] at n
    exact .cons (Rp.nd x n.1) (RpF.nd y n.2)
end
end
end Mir
/-! MirZZZA: looks into tuples that have things inside; the native side of MirZZX .. MirZZZ -/
namespace Mir
open PySem PySem.Spec PyProof.Rows L2
/-! ### natively -/
end Mir
/-! MirZZZB: dicts with tuple keys as things, at the kit's level -/
namespace Mir
open PySem PySem.Spec PyProof.Rows L2
end Mir
/-! MirZZZC: dicts with tuple keys as things: new, looked at, stored into, walked through -/
namespace Mir
open PySem PySem.Spec PyProof.Rows L2
def putTD (kvs : List (List Key × Dat)) (k : List Key) (d : Dat) : List (List Key × Dat) :=
  if (kvs.any fun kv => decide (kv.1 = k)) = true then kvs.map (fun kv => if kv.1 = k then (kv.1, d) else kv) else kvs ++ [(k, d)]
def valTD (kvs : List (List Key × Dat)) (k : List Key) : Option Dat := (kvs.find? fun kv => decide (kv.1 = k)).map (·.2)
section
variable {cm : CM} {K : PySem.W.Frag} {G : VH}
theorem RpT.any : ∀ {gs : List (List Key × V)} {ks : List (List Key × Dat)}, RpT cm K G gs ks → ∀ k, (gs.any fun kv => decide (kv.1 = k)) = ks.any fun kv => decide (kv.1 = k)
  | _, _, .nil, k => rfl
  | _, _, .cons (f := f) a b, k => by
    rw [List.any_cons, List.any_cons, RpT.any b k]
theorem RpT.length : ∀ {gs : List (List Key × V)} {ks : List (List Key × Dat)}, RpT cm K G gs ks → gs.length = ks.length
  | _, _, .nil => rfl
  | _, _, .cons a b => congrArg Nat.succ (RpT.length b)
theorem RpT.snoc {k : List Key} {v : V} {d : Dat} (r : Rp cm K G v d) : ∀ {gs : List (List Key × V)} {ks : List (List Key × Dat)}, RpT cm K G gs ks → RpT cm K G (gs ++ [(k, v)]) (ks ++ [(k, d)])
  | _, _, .nil => .cons r .nil
  | _, _, .cons a b => .cons a (RpT.snoc r b)
theorem RpT.repl {k : List Key} {v : V} {d : Dat} (r : Rp cm K G v d) : ∀ {gs : List (List Key × V)} {ks : List (List Key × Dat)}, RpT cm K G gs ks → RpT cm K G (gs.map fun kv => if kv.1 = k then (kv.1, v) else kv) (ks.map fun kv => if kv.1 = k then (kv.1, d) else kv)
  | _, _, .nil => .nil
  | _, _, .cons (f := f) a b => by
    rw [List.map_cons, List.map_cons]
    by_cases h : f = k
    · rw [if_pos h, if_pos h]; exact .cons r (RpT.repl r b)
    · rw [if_neg h, if_neg h]; exact .cons a (RpT.repl r b)
theorem RpT.put {k : List Key} {v : V} {d : Dat} (r : Rp cm K G v d) {gs : List (List Key × V)} {ks : List (List Key × Dat)} (h : RpT cm K G gs ks) : RpT cm K G (putK gs k v) (putTD ks k d) := by
  unfold putK putTD
  rw [h.any k]
  split
  · exact h.repl r
  · exact h.snoc r
theorem RpT.val : ∀ {gs : List (List Key × V)} {ks : List (List Key × Dat)}, RpT cm K G gs ks → ∀ (k : List Key), (∀ d, valTD ks k = some d → ∃ v, valV gs k = some v ∧ Rp cm K G v d) ∧ (valTD ks k = none → valV gs k = none)
  | _, _, .nil, k => ⟨fun d h => (by cases h), fun _ => rfl⟩
  | _, _, .cons (f := f) (v := v) (d := d0) (gs := gs) (fs := fs) a b, k => by
    unfold valTD valV
    rw [List.find?_cons, List.find?_cons]
    by_cases hz : f = k
    · have e : decide (f = k) = true := by simp [hz]
      dsimp only
      rw [e]
      exact ⟨fun d h => by cases h; exact ⟨v, rfl, a⟩, fun h => by cases h⟩
    · have e : decide (f = k) = false := by simp [hz]
      dsimp only
      rw [e]
      exact RpT.val b k
end
end Mir
/-! MirZZZD: for a, b in d.items(), d a thing with tuple keys that stays as it is: the dict is locked meanwhile -/
namespace Mir
open PySem PySem.Spec PyProof.Rows L2
/-- back to fewer locks -/
theorem Rel.castD {F : Fm} {S : Sg} {σ : L2.St} {H : Hp} (R : Rel F S σ H) {cm : CM} {l : Addr} {o : HO} (e : F.cm = cm.lkx l o) {g k : Nat} {T : Ths} {w : Own} (hg : S[g]? = some (.heap T)) (hk : T[k]? = some w) (hw : w ≠ .gone cm.lk.length) (hl : F.M.ρ[k]? = some l) : Rel (F.cw cm) S σ H where
  len := R.len
  sl := fun i s v a b => by
    have ea : F.cm.at_ = cm.at_ := by rw [e]
    have y := R.sl i s v a b
    -- a lock that is told is an old one, or at l
    have old : ∀ {n : Nat} {x : Addr} {u : HO}, F.cm.lk[n]? = some (x, u) → (n = cm.lk.length ∧ x = l) ∨ cm.lk[n]? = some (x, u) := fun {n x u} h => by
      rw [e] at h
      have h : (cm.lk ++ [(l, o)])[n]? = some (x, u) := h
      by_cases hn : n < cm.lk.length
      · rw [List.getElem?_append_left hn] at h; exact .inr h
      · by_cases hn2 : n = cm.lk.length
        · subst hn2
          rw [List.getElem?_concat_length] at h
          cases h; exact .inl ⟨rfl, rfl⟩
        · rw [List.getElem?_eq_none (by simp; omega)] at h; cases h
    have castO : ∀ {x : Addr} {q : Own} {G : VH}, (q = .gone cm.lk.length → x ≠ l) → OwnOk F.cm F.K G H x q → OwnOk cm F.K G H x q := fun {x q G} hq y => by
      cases y with
      | lst h r => exact .lst h (r.cast ea)
      | obj h r => exact .obj (by rw [← ea]; exact h) (r.cast ea)
      | dic h r => exact .dic h (r.cast ea)
      | dit h r => exact .dit h (r.cast ea)
      | gone h z v =>
        rcases old h with ⟨e1, e2⟩ | h
        · exact absurd e2 (hq (by rw [e1]))
        · exact .gone h z v
    cases y with
    | no => exact .no
    | dat r => exact .dat (r.cast ea)
    | loc h r => exact .loc h (r.cast ea)
    | own h r => exact .own h (castO (fun _ z => by
        subst z
        exact (R.hp.thl g T k w _ hg hk hl).2.2 _ _ _ a h) r)
    | exn h q r => exact .exn (by rw [e] at h; exact h) q (r.cast ea)
    | heap e1 f =>
      refine .heap e1 fun k' q hk' => (f k' q hk').imp fun x z => ⟨z.1, z.2.1, castO (fun eq z2 => ?_) z.2.2⟩
      have eT : i = g := R.hp.one i g _ _ a hg
      subst eT
      rw [a] at hg
      cases hg
      subst z2
      have : k' = k := R.hp.lnd i _ k' k q w _ a hk' hk z.1 hl
      subst this
      rw [hk] at hk'
      cases hk'
      exact hw eq
  nd := R.nd
  new := R.new
  ond := R.ond
  and_ := R.and_
  ain := R.ain
  liv := R.liv
  lom := R.lom
  tmp := R.tmp
  keep := R.keep
  hp := ⟨R.hp.one, R.hp.him, R.hp.thl, R.hp.lnd, R.hp.thn, R.hp.n0, R.hp.nr⟩
end Mir
/-! MirZZZE: x.extend(list); targets of four names, (a, b), c in comprehensions -/
namespace Mir
open PySem PySem.Spec PyProof.Rows L2
end Mir
/-! MirZZZF: sorted(a tuple of ints), () + t, tuple(range(n)) -/
namespace PySem
open PySem.Spec PyProof.Rows
end PySem
namespace Mir
open PySem PySem.Spec PyProof.Rows L2
end Mir
/-! MirZZZG: native side of dicts with tuple keys (lists of ints to ints), of extend, of whiles whose tests draw -/
namespace Mir
open PySem PySem.Spec PyProof.Rows L2
/-! ### while, with a test that changes something -/
/-! lists, some of whose items are None -/
end Mir
/-! MirZZZH: calls while a loop goes through a dict -/
namespace Mir
open PySem PySem.Spec PyProof.Rows L2
def allDat : List FA → Bool
  | [] => true
  | .dat _ :: r => allDat r
  | .own _ :: _ => false
def lkF (F : List FA → RF) (as : List FA) : RF := if allDat as = true then F as else .bad
theorem ArgsOk.castD {cm cm' : CM} {K : PySem.W.Frag} {G : VH} {H : Hp} (e : cm'.at_ = cm.at_) {vs : List V} {as : List FA} {ls : List Addr} (x : ArgsOk cm' K G H vs as ls) : allDat as = true → ls = [] ∧ ArgsOk cm K G H vs as [] := by
  induction x with
  | nil => exact fun _ => ⟨rfl, .nil⟩
  | dat a b ih =>
    intro h
    obtain ⟨e1, e2⟩ := ih h
    exact ⟨e1, .dat (Rp.cast e a) e2⟩
  | own a b ih => intro h; cases h
theorem spF_lk {cm cm' : CM} {K : PySem.W.Frag} {F : List FA → RF} (e : cm.at_ = cm'.at_) (vs : List V) (H : Hp) (Q : VK) (E : XK) (h : spF cm' K (lkF F) vs H Q E) : spF cm K F vs H Q E := by
  obtain ⟨M, as, ls, h1, h2, h3, h4, h5⟩ := h
  unfold lkF at h5
  by_cases hz : allDat as = true
  · rw [if_pos hz] at h5
    obtain ⟨rfl, a2⟩ := h4.castD e.symm hz
    refine ⟨M, as, [], h1, h2, h3, a2, ?_⟩
    cases hF : F as with
    | bad => rw [hF] at h5; exact h5
    | ok d outs =>
      rw [hF] at h5
      intro v H' q o r
      cases o
      exact h5 v H' q .nil (r.cast e)
    | exc c fs outs =>
      rw [hF] at h5
      intro da gs H' q o z r
      cases o
      have := h5 da gs H' q .nil z (r.cast e)
      rw [e]
      exact this
  · rw [if_neg hz] at h5; exact h5.elim
theorem FnG.lk {P : Program} {w : World} {K : PySem.W.Frag} {mg : Str → Option Value} {base : Heap} {CX : CXT} {k : Nat} {f : Addr} {fd : FuncData} {ps : List Str} {cm cm' : CM} {F : List FA → RF} (h : FnG P w K mg base CX k f fd ps (spF cm K F)) (e : cm.at_ = cm'.at_) : FnG P w K mg base CX k f fd ps (spF cm' K (lkF F)) :=
  ⟨fun vs H Q E z => h.len vs H Q E (spF_lk e vs H Q E z), fun A outer s H args us vs Q E a b c d r z => h.run A outer s H args us vs Q E a b c d r (spF_lk e vs H Q E z)⟩
end Mir
/-! MirZZZI: dicts with tuple keys that a field holds: stores and tests with a written key; x += n -/
namespace Mir
open PySem PySem.Spec PyProof.Rows L2
/-! natively -/
/-! while, with break or return -/
end Mir
/-! ### a list against the empty list: by the lengths, whatever the items are -/
namespace Mir
open PySem L2
variable {X : Cx} {cm : CM}
theorem rpAll_len {K : PySem.W.Frag} {G : VH} : ∀ {vs : List V} {ds : List Dat}, RpAll cm K G vs ds → vs.length = ds.length
  | _, _, .nil => rfl
  | _, _, .cons _ r => by rw [List.length_cons, List.length_cons, rpAll_len r]
theorem vals_len2 : ∀ {vs : List V} {us : List Value}, Vals vs us → vs.length = us.length
  | _, _, .nil => rfl
  | _, _, .cons _ r => by rw [List.length_cons, List.length_cons, vals_len2 r]
end Mir
/-! MirZZZK: lists that are things and hold lists that are things; bools among numbers; dict(pairs) -/
namespace Mir
open PySem PySem.Spec PyProof.Rows L2
/-! ### bools among numbers -/
theorem gives_bool_neg (b : Bool) : Gives (Builtin.«int.__neg__» ⟨[.bool b], []⟩) (.int (-(if b = true then (1 : Int) else 0))) := .of_wp fun M A E s Q h => by obtain ⟨hp, g, d, tk, os⟩ := s; wp_walk; exact ⟨_, rfl, h⟩
theorem neg_bool {prog : Program} {w : World} {A : Around} {E : Value → Shared → Prop} {s : Shared} {b : Bool} {Q : Value → Shared → Prop} (h : Q (.int (-(if b = true then (1 : Int) else 0)) s.toks) { s with toks := s.toks + 1 }) : wpAny (model prog w) A (unaryOp .USub (.bool b)) Q E s :=
  unaryOp_gives (op := .USub) (T := "bool") rfl rfl F.slot_bool_neg F.entry_int_neg (F.args_int_neg_1 _) (gives_bool_neg b) h
def b2n (b : Bool) : Int := if b = true then 1 else 0
def subBD : Dat → Dat → Option Dat
  | .int i, .int j => some (.int (i - j))
  | .bl b, .int j => some (.int (b2n b - j))
  | _, _ => none
def negBD : Dat → Option Dat
  | .int i => some (.int (-i))
  | .bl b => some (.int (-(b2n b)))
  | _ => none
section
variable {X : Cx} {cm : CM}
theorem o_subB : OpR X (binaryOp .Sub) (rD cm X.K subBD) := by
  rintro pins s σ H x y v u Q I rx ry ⟨M, a, b, c, lv, pa, pb, e, q⟩
  cases a with
  | int i =>
    cases b with
    | int j =>
      cases pa; cases pb; cases e
      exact op_sub pins s σ H _ _ v u Q I rx ry ⟨i, j, rfl, rfl, q _ H (.refl _) (.int _)⟩
    | _ => cases e
  | bl i =>
    cases b with
    | int j =>
      cases pa; cases pb; cases e
      cases rx
      obtain ⟨t, rfl⟩ := ry
      exact PySem.IntBool.sub_bool_int ⟨.int _, H, I.tok _, ⟨_, rfl⟩, q _ H (.refl _) (.int _)⟩
    | _ => cases e
  | _ => cases b <;> cases e
theorem u_negB : UnR X (unaryOp .USub) (rU cm X.K negBD) := by
  rintro pins s σ H x v Q I rx ⟨M, a, c, lv, pa, e, q⟩
  cases a with
  | int i =>
    cases pa; cases e
    exact un_neg pins s σ H _ v Q I rx ⟨i, rfl, q _ H (.refl _) (.int _)⟩
  | bl i =>
    cases pa; cases e
    cases rx
    exact neg_bool ⟨.int _, H, I.tok _, ⟨_, rfl⟩, q _ H (.refl _) (.int _)⟩
  | _ => cases e
end
def neND (a b : Dat) : Option Dat := match a, b with
  | .lst ds, .lst [] => some (.bl (!decide (ds.length = 0)))
  | a, b => neD a b
theorem o_neN {X : Cx} {cm : CM} (hu : X.A.units + 64 < cLine) : OpR X (compareOp .NotEq) (rD cm X.K neND) := by
  rintro pins s σ H x y v u Q I rx ry ⟨M, a, b, c, lv, pa, pb, e, q⟩
  by_cases hz : ∃ ds, a = .lst ds ∧ b = .lst []
  · obtain ⟨ds, rfl, rfl⟩ := hz
    cases e
    cases pa with
    | @lst l vs _ hl ra =>
      cases pb with
      | @lst l2 vs2 _ hl2 rb =>
        cases rb
        obtain rfl : v = Value.ref l := rx
        obtain rfl : u = Value.ref l2 := ry
        obtain ⟨its, n, r1, e1, _⟩ := I.lst (hid_le _ _ hl)
        obtain ⟨its2, n2, r2, e2, _⟩ := I.lst (hid_le _ _ hl2)
        have i1 : s.heap.IsList l its.toArray := ⟨_, e1, rfl, n, rfl⟩
        have i2 : s.heap.IsList l2 its2.toArray := ⟨_, e2, rfl, n2, rfl⟩
        have n1 := vals_len2 r1
        have n3 := vals_len2 r2
        have n4 := rpAll_len ra
        have n5 : its2.length = 0 := n3.symm
        by_cases h0 : ds.length = 0
        · refine SeqAt.RcNeAt.lists (e := fun _ => true) i1 i2 (by simp; omega) (by omega) (fun j h1 h2 => absurd h1 (by simp; omega)) X.prog X.w _ _ ?_
          refine ⟨.bl _, H, I, rfl, q _ H (.refl _) ?_⟩
          have ez : (!(List.range its.toArray.size).all (fun _ => true)) = !decide (ds.length = 0) := by rw [decide_eq_true h0]; simp
          rw [ez]
          exact .bl _
        · refine SeqAt.RcNeAt.lists_lengths i1 i2 (by simp; omega) (by omega) X.prog X.w _ _ ?_
          refine ⟨.bl _, H, I, rfl, q _ H (.refl _) ?_⟩
          rw [decide_eq_false h0]
          exact .bl _
  · have e' : neD a b = some c := by
      unfold neND at e
      split at e
      · exact absurd ⟨_, rfl, rfl⟩ hz
      · exact e
    exact o_ne hu pins s σ H x y v u Q I rx ry ⟨M, a, b, c, lv, pa, pb, e', q⟩
/-! ### items of a list that is a thing, of any kind -/
def mIxL (g : Nat) (mo mi : ME) : ME := fun S => (mo S).bind fun d S1 => (mi S1).bind fun k S2 => match d with
  | .ptr p => (match thAt g p S2 with
    | some (.lst ds) => Rs.of (ixD (.lst ds) k) S2
    | _ => .bad)
  | _ => .bad
/-- the list that a thing is -/
def mCatRT (g : Nat) (ma mo : ME) : ME := fun S => (ma S).bind fun a S1 => (mo S1).bind fun d S2 => match d with
  | .ptr p => (match thAt g p S2 with
    | some (.lst ds) => Rs.of (catDD a (.lst ds)) S2
    | _ => .bad)
  | _ => .bad
def mTupT (g : Nat) (mr : MA) : ME := fun S => (mr S).bind fun as S2 => match as with
  | [.ptr p] => (match thAt g p S2 with
    | some (.lst ds) => Rs.of (tupleC [.lst ds]) S2
    | _ => .bad)
  | _ => .bad
section
variable {X : Cx} {cm : CM} {W : WX} {a b e o : Expr} {ma mb me mo mi : ME} {g : Nat} {pos p : Pos} {x : Str}
theorem Rel.lstPtr {F : Fm} {S : Sg} {σ : L2.St} {H : Hp} (R : Rel F S σ H) {k : Nat} {ds : List Dat} {v : V} (r : Rp F.cm F.K (vis F S σ H) v (.ptr k)) (h : thAt g k S = some (.lst ds)) : ∃ l vs, v = .ref l ∧ H l = some (.lst vs) ∧ RpAll F.cm F.K (vis F S σ H) vs ds := by
  obtain ⟨T, l, hg, hk, hl, hM, ev, ok⟩ := R.thPtr r h
  cases ok with
  | lst hh hr => exact ⟨l, _, ev, hh, hr⟩
theorem ge_ixL (ho : PE X o (tE cm X.K W mo)) (hi : PE X e (tE cm X.K W mi)) (hm : PlainIx e) : PE X (.Subscript o e pos) (tE cm X.K W (mIxL g mo mi)) :=
  PE.weak (pe_ix ix_list ho hi hm) fun σ H Q ⟨F, S, e1, e2, R, h⟩ => tG_bind e1 e2 R h fun F x H1 da S1 e1 e2 R1 s1 p1 h1 => tG_bind e1 e2 R1 h1 fun F y H2 db S2 e1 e2 R2 s2 p2 h2 => by
    have p1 := p1.mono s2
    cases da with
    | ptr q =>
      dsimp only at h2
      cases ht : thAt g q S2 with
      | none => rw [ht] at h2; exact h2.elim
      | some w =>
        rw [ht] at h2
        cases w with
        | lst ds =>
          dsimp only at h2
          obtain ⟨l, vs, ev, hh, hr⟩ := R2.lstPtr (g := g) (by rw [e1, e2]; exact p1) ht
          obtain ⟨d, hx, hq⟩ := out_of R2 h2
          cases db with
          | int j =>
            cases p2
            obtain ⟨v, w1, w2⟩ := at_rp hr (show atI ds j = some d from hx)
            exact ⟨l, vs, j, v, ev, rfl, SqL.of hh, w1, hq v H2 (.refl _) (by rw [← e1, ← e2]; exact w2)⟩
          | _ => cases hx
        | _ => exact h2.elim
    | _ => exact False.elim h2
theorem ge_catRT (ha : PE X a (tE cm X.K W ma)) (ho : PE X o (tE cm X.K W mo)) : PE X (.BinOp a .Add o pos) (tE cm X.K W (mCatRT g ma mo)) :=
  PE.weak (pe_op op_cat ha ho) fun σ H Q ⟨F, S, e1, e2, R, h⟩ => tG_bind e1 e2 R h fun F x H1 da S1 e1 e2 R1 s1 p1 h1 => tG_bind e1 e2 R1 h1 fun F y H2 db S2 e1 e2 R2 s2 p2 h2 => by
    have p1 := p1.mono s2
    cases db with
    | ptr q =>
      dsimp only at h2
      cases ht : thAt g q S2 with
      | none => rw [ht] at h2; exact h2.elim
      | some w =>
        rw [ht] at h2
        cases w with
        | lst ds =>
          dsimp only at h2
          obtain ⟨l, vs, ev, hh, hr⟩ := R2.lstPtr (g := g) (by rw [e1, e2]; exact p2) ht
          cases hd : catDD da (.lst ds) with
          | none => rw [hd] at h2; exact h2.elim
          | some d =>
            rw [hd] at h2
            obtain ⟨xs, ys, rfl, ey, hlen, rfl⟩ := catDD_some hd
            cases ey
            cases p1 with
            | @lst aa vv dd hv rv =>
              refine ⟨aa, l, vv, vs, rfl, ev, hid_le _ _ hv, hh, ?_, fun p hp => ?_⟩
              · rw [rv.length, hr.length]; exact lim_line hlen
              · have sn := same_new (o := .lst (vv ++ vs)) hp
                exact h2 _ _ (R2.grow sn) (vis_grow sn) (.lst (hid_new R2.live hp) ((rv.append (by rw [← e1, ← e2]; exact hr)).mono (vis_grow sn)))
        | _ => exact h2.elim
    | _ => exact False.elim h2
theorem ge_tupT {mr : MA} {es : List Expr} (hg : Gl X x) (hm : X.mg x = none) (hv : bootBuiltins x = some (.type "tuple")) (ha : PA X (e :: es) (tA cm X.K W mr))
    (hn : x ≠ "__name__" := by decide) (hdb : (x == ("__debug__" : Str)) = false := by decide) (he : starEach (e :: es) X.env = (false, eval e X.env) :: starEach es X.env := by rfl) (hpl : (backTo pos (starEach es X.env)).any (·.1) = false := by rfl) :
    PE X (.Call (.Name x p) (e :: es) [] pos) (tE cm X.K W (mTupT g mr)) :=
  PE.weak (pe_callTy call_tuple_of hg hm hv ha hn hdb he hpl) fun σ H Q ⟨F, S, e1, e2, R, h⟩ => tG_bind e1 e2 R h fun F x H1 da S1 e1 e2 R1 s1 p1 h1 => by
    cases p1 with
    | nil => exact False.elim h1
    | @cons v d vs ds q1 q2 =>
      cases q2 with
      | cons _ _ => cases d <;> exact False.elim h1
      | nil =>
        cases d with
        | ptr q =>
          dsimp only at h1
          cases ht : thAt g q S1 with
          | none => rw [ht] at h1; exact h1.elim
          | some w =>
            rw [ht] at h1
            cases w with
            | lst ds =>
              dsimp only at h1
              obtain ⟨l, vs, ev, hh, hr⟩ := R1.lstPtr (g := g) (by rw [e1, e2]; exact q1) ht
              refine ⟨l, vs, by rw [ev], .inl ⟨SqL.of hh, fun p hp => ?_⟩⟩
              have sn := same_new (o := .tup vs) hp
              exact h1 _ _ (R1.grow sn) (vis_grow sn) (.tup (SqT.of (hid_new R1.live hp)) (RpAll.mono (vis_grow sn) (by rw [← e1, ← e2]; exact hr)))
            | _ => exact h1.elim
        | _ => exact False.elim h1
end
/-! ### dict(pairs) -/
def pairsK : List Dat → Option (List (Key × Dat))
  | [] => some []
  | .tup [.int i, d] :: r => (pairsK r).map ((.inl i, d) :: ·)
  | .tup [.str i, d] :: r => (pairsK r).map ((.inr i, d) :: ·)
  | _ => none
def dictC : List Dat → Option Dat
  | [.lst ps] => (pairsK ps).map fun ks => .dic (mergeKD [] ks)
  | _ => none
section
variable {X : Cx} {cm : CM}
theorem pairsK_ok {K : PySem.W.Frag} {G : VH} : ∀ {ds : List Dat} {vs : List V} {ks : List (Key × Dat)}, RpAll cm K G vs ds → pairsK ds = some ks → ∃ (ps : List Addr) (kvs : List (Key × V)), vs = ps.map V.ref ∧ Paired (fun p kv => SqT K G.h p [kV kv.1, kv.2]) ps kvs ∧ RpK cm K G kvs ks
  | [], _, _, .nil, e => by cases e; exact ⟨[], [], rfl, .nil, .nil⟩
  | d :: r, _, _, .cons a b, e => by
    unfold pairsK at e
    split at e
    · rename_i h; cases h
    · rename_i i x r' h
      cases h
      cases hr : pairsK r with
      | none => rw [hr] at e; cases e
      | some ks =>
        rw [hr] at e; cases e
        obtain ⟨ps, kvs, rfl, hp, hk⟩ := pairsK_ok b hr
        cases a with
        | tup s q =>
          cases q with
          | cons q1 q2 =>
            cases q1
            cases q2 with
            | cons q3 q4 =>
              cases q4
              exact ⟨_ :: ps, (.inl i, _) :: kvs, rfl, .cons s hp, .cons q3 hk⟩
    · rename_i i x r' h
      cases h
      cases hr : pairsK r with
      | none => rw [hr] at e; cases e
      | some ks =>
        rw [hr] at e; cases e
        obtain ⟨ps, kvs, rfl, hp, hk⟩ := pairsK_ok b hr
        cases a with
        | tup s q =>
          cases q with
          | cons q1 q2 =>
            cases q1
            cases q2 with
            | cons q3 q4 =>
              cases q4
              exact ⟨_ :: ps, (.inr i, _) :: kvs, rfl, .cons s hp, .cons q3 hk⟩
    · cases e
theorem Paired.mono' {α β : Type} {F G : α → β → Prop} (h : ∀ a b, F a b → G a b) : ∀ {l₁ : List α} {l₂ : List β}, Paired F l₁ l₂ → Paired G l₁ l₂
  | _, _, .nil => .nil
  | _, _, .cons a b => .cons (h _ _ a) (Paired.mono' h b)
theorem c_dict (hc : X.calm = true) : CallR X (.type "dict") (rDs cm X.K dictC) := by
  rintro pins s σ H xs us Q I r ⟨M, ds, c, lv, pa, e, q⟩
  cases pa with
  | nil => cases e
  | cons p1 p2 =>
    cases p2 with
    | cons _ _ => cases p1 <;> cases e
    | nil =>
      cases p1 with
      | lst ha ra =>
        rename_i ds
        have e' : (pairsK ds).map (fun ks => Dat.dic (mergeKD [] ks)) = some c := e
        cases hk : pairsK ds with
        | none => rw [hk] at e'; cases e'
        | some ks =>
          rw [hk] at e'; cases e'
          obtain ⟨ps, kvs, rfl, hp, hr⟩ := pairsK_ok ra hk
          exact call_dictP hc pins s σ H _ us Q I r ⟨_, ps, kvs, rfl, SqL.of (hid_le _ _ ha), Paired.mono' (fun _ _ h => sqT_same hid_le h) hp, fun p hp' => q _ _ (same_new hp') (.dic (hid_new lv hp') ((RpK.merge hr .nil).mono (hid_grow (same_new hp'))))⟩
      | _ => cases e
end
/-! ### looks, two deep -/
def snapL (T : Ths) : Dat → Dat
  | .ptr k => (match T[k]? with
    | some (.lst ds) => .lst (ds.map (look1 T))
    | _ => snap1 T (.ptr k))
  | d => snapD T d
def snapAL (T : Ths) : List AV → Option (List FA)
  | [] => some []
  | .dat d :: r => (snapAL T r).map (.dat (snapL T d) :: ·)
  | _ => none
section
variable {F : Fm} {S : Sg} {σ : L2.St} {H : Hp} {g : Nat} {T : Ths}
theorem Rel.snapL (R : Rel F S σ H) (hg : S[g]? = some (.heap T)) {v : V} {d : Dat} (r : Rp F.cm F.K (vis F S σ H) v d) : Rp F.cm F.K (hid (F.M ++ locs S σ).see H) v (Mir.snapL T d) := by
  cases d with
  | ptr j =>
    unfold Mir.snapL
    dsimp only
    cases hj : T[j]? with
    | none => exact R.snap1 hg r
    | some o =>
      cases o with
      | lst ds =>
        have r := r.mono R.seeSame
        cases r with
        | @ptr a _ q =>
          have q0 : F.M.ρ[j]? = some a := q
          obtain ⟨e, ok⟩ := R.seeTh hg hj q0
          cases ok with
          | lst h r => exact .lst (by rw [e]; exact h) (R.lookAll hg r)
      | _ => exact R.snap1 hg r
  | _ => exact R.snapD hg r
theorem Rel.snapLs (R : Rel F S σ H) (hg : S[g]? = some (.heap T)) : ∀ {vs : List V} {ds : List Dat}, RpAll F.cm F.K (vis F S σ H) vs ds → RpAll F.cm F.K (hid (F.M ++ locs S σ).see H) vs (ds.map (Mir.snapL T))
  | _, _, .nil => .nil
  | _, _, .cons a b => .cons (R.snapL hg a) (R.snapLs hg b)
theorem Rel.snapAL {cm : CM} {K : PySem.W.Frag} (R : Rel F S σ H) (e1 : F.cm = cm) (e2 : F.K = K) (hg : S[g]? = some (.heap T)) : ∀ {vs : List V} {as : List AV} {fs : List FA}, AvsOk cm K σ (vis F S σ H) vs as → snapAL T as = some fs → ArgsOk cm K (hid (F.M ++ locs S σ).see H) H vs fs []
  | _, _, _, .nil, h => by cases h; exact .nil
  | _, _, _, .dat (as := as) a b, h => by
    unfold Mir.snapAL at h
    cases hs : Mir.snapAL T as with
    | none => rw [hs] at h; cases h
    | some q =>
      rw [hs] at h
      cases h
      exact .dat (by rw [← e1, ← e2]; exact R.snapL hg (by rw [e1, e2]; exact a)) (Rel.snapAL R e1 e2 hg b hs)
  | _, _, _, .slot _ _, h => by cases h
end
def applyL (g : Nat) (Fn : List FA → RF) (as : List AV) (S : Sg) : Rs Dat := match thsAt g S with
  | none => .bad
  | some T => (match snapAL T as with
    | none => .bad
    | some fs => (match Fn fs with
      | .ok d [] => if flt d then .ok d S else .bad
      | .exc c es [] => if fltF es then .exc c es S else .bad
      | _ => .bad))
section
variable {F : Fm} {S : Sg} {σ : L2.St} {H : Hp} {cm : CM} {K : PySem.W.Frag} {W : WX} {g : Nat} {vs : List V} {as : List AV} {Q : VK}
theorem applyL_ok {Fn : List FA → RF} (e1 : F.cm = cm) (e2 : F.K = K) (R : Rel F S σ H) (av : AvsOk cm K σ (vis F S σ H) vs as) (h : out F W σ (vis F S σ H) (rE cm K) Q (applyL g Fn as S)) : spF cm K Fn vs H Q (WE W σ) := by
  unfold applyL at h
  cases ht : thsAt g S with
  | none => rw [ht] at h; exact h.elim
  | some T =>
    rw [ht] at h
    dsimp only at h
    have hg := thsAt_of ht
    cases hs : snapAL T as with
    | none => rw [hs] at h; exact h.elim
    | some fs =>
      rw [hs] at h
      dsimp only at h
      refine ⟨(F.M ++ locs S σ).see, fs, [], ⟨fun m hm => R.hlv (Hd.mem_see.mp hm).1⟩, fun l hl => (by cases hl), List.nodup_nil, R.snapAL e1 e2 hg av hs, ?_⟩
      cases hF : Fn fs with
      | bad => rw [hF] at h; exact h
      | ok d outs =>
        rw [hF] at h
        intro v H' kp oo rv
        have sm : L2.Same H H' := fun a o q => kp a o q (by simp)
        cases outs with
        | cons _ _ => exact False.elim h
        | nil =>
          dsimp only at h
          by_cases hz : flt d = true
          · rw [if_pos hz] at h
            exact h v H' (R.grow sm) (vis_grow sm) (flt_rp2 (M := F.M ++ locs S σ) (R.seeTup hg sm) rfl rv hz)
          · rw [if_neg hz] at h; exact h.elim
      | exc c es outs =>
        rw [hF] at h
        intro da gs H' kp oo hda rg
        have sm : L2.Same H H' := fun a o q => kp a o q (by simp)
        cases outs with
        | cons _ _ => exact False.elim h
        | nil =>
          dsimp only at h
          by_cases hz : fltF es = true
          · rw [if_pos hz] at h
            have z := h da gs H' (R.grow sm) (vis_grow sm) (see_xd (M := F.M ++ locs S σ) (R.seeTup hg sm) hda) (by rw [e1, e2]; exact fltF_rp2 (M := F.M ++ locs S σ) (R.seeTup hg sm) rfl rg hz)
            rw [e1] at z
            exact z
          · rw [if_neg hz] at h; exact h.elim
end
theorem okL {X : Cx} {cm : CM} {W : WX} {g : Nat} {Fn : List FA → RF} : CallOk X cm W (spF cm X.K Fn) (applyL g Fn) := fun e1 e2 R av h => applyL_ok e1 e2 R av h
def mCallL (g : Nat) (f : List Dat → Option Dat) (mr : MA) : ME := fun S => (mr S).bind fun ds S1 => match thsAt g S1 with
  | some T => (match f (ds.map (snapL T)) with
    | some c => if flt c then .ok c S1 else .bad
    | none => .bad)
  | none => .bad
section
variable {X : Cx} {cm : CM} {W : WX} {e : Expr} {es : List Expr} {mr : MA} {pos : Pos} {g : Nat}
theorem ge_callBL {x : Str} {p : Pos} {id : String} {f : List Dat → Option Dat} (hc : CallR X (.builtin id) (rDs cm X.K f)) (hg : Gl X x) (hm : X.mg x = none) (hv : bootBuiltins x = some (.builtin id)) (ha : PA X (e :: es) (tA cm X.K W mr))
    (hn : x ≠ "__name__" := by decide) (hdb : (x == ("__debug__" : Str)) = false := by decide) (he : starEach (e :: es) X.env = (false, eval e X.env) :: starEach es X.env := by rfl) (hpl : (backTo pos (starEach es X.env)).any (·.1) = false := by rfl) :
    PE X (.Call (.Name x p) (e :: es) [] pos) (tE cm X.K W (mCallL g f mr)) :=
  PE.weak (pe_callB hc hg hm hv ha hn hdb he hpl) fun σ H Q ⟨F, S, e1, e2, R, h⟩ => tG_bind e1 e2 R h fun F x H1 da S1 e1 e2 R1 s1 p1 h1 => by
    cases ht : thsAt g S1 with
    | none => rw [ht] at h1; exact h1.elim
    | some T =>
      rw [ht] at h1
      dsimp only at h1
      have hgg := thsAt_of ht
      cases hf : f (da.map (snapL T)) with
      | none => rw [hf] at h1; exact h1.elim
      | some c =>
        rw [hf] at h1
        dsimp only at h1
        by_cases hz : flt c = true
        · rw [if_pos hz] at h1
          refine ⟨(F.M ++ locs S1 σ).see, da.map (snapL T), c, ⟨fun m hm => R1.hlv (Hd.mem_see.mp hm).1⟩, by rw [← e1, ← e2]; exact R1.snapLs hgg (by rw [e1, e2]; exact p1), hf, fun v H' sm rv => ?_⟩
          exact h1 v H' (R1.grow sm) (vis_grow sm) (flt_rp2 (M := F.M ++ locs S1 σ) (R1.seeTup hgg sm) rfl rv hz)
        · rw [if_neg hz] at h1; exact h1.elim
end
end Mir
/-! MirZZZL: the native side of MirZZZK -/
namespace Mir
open PySem PySem.Spec PyProof.Rows L2
def subBN (d : Dat) (j : Int) : Option Int := match d with
  | .int i => some (i - j)
  | .bl b => some (b2n b - j)
  | _ => none
theorem q_subB {d : Dat} {j k : Int} (h : subBN d j = some k) : subBD d (.int j) = some (.int k) := by
  cases d <;> first | (cases h; rfl) | cases h
def negBN (d : Dat) : Option Int := match d with
  | .int i => some (-i)
  | .bl b => some (-(b2n b))
  | _ => none
theorem q_negB {d : Dat} {k : Int} (h : negBN d = some k) : negBD d = some (.int k) := by
  cases d <;> first | (cases h; rfl) | cases h
theorem q_neN {α : Type} {f : α → Dat} (xs : List α) : neND (eL f xs) (.lst []) = some (.bl (!decide (xs.length = 0))) := by
  show some (Dat.bl (!decide ((xs.map f).length = 0))) = _
  rw [List.length_map]
def asI : Dat → Option Int
  | .int i => some i
  | _ => none
theorem asI_eq {d : Dat} {i : Int} (h : asI d = some i) : d = eI i := by cases d <;> first | (cases h; rfl) | cases h
def asL : Dat → Option (List Dat)
  | .lst ds => some ds
  | _ => none
theorem asL_eq {d : Dat} {xs : List Dat} (h : asL d = some xs) : d = eL eD xs := by
  cases d <;> first | (cases h; exact congrArg Dat.lst (List.map_id _).symm) | cases h
def asP : Dat → Option Nat
  | .ptr i => some i
  | _ => none
theorem asP_eq {d : Dat} {i : Nat} (h : asP d = some i) : d = eP i := by cases d <;> first | (cases h; rfl) | cases h
def fltN (d : Dat) : Option Unit := if flt d = true then some () else none
theorem fltN_ok {d : Dat} {u : Unit} (h : fltN d = some u) : flt d = true := by
  unfold fltN at h
  split at h
  · assumption
  · cases h
/-- a list that is a thing and what it holds, shown -/
def lsL (T : Ths) (p : Nat) : Option (List Dat) := match T[p]? with
  | some (.lst ds) => some (ds.map (look1 T))
  | _ => none
section
variable {α : Type} {f : α → Dat} {S S1 S2 S3 S0 Sn : Sg} {a b c d : Dat} {ma mo mi : ME} {mr : MA} {g p : Nat} {T U : Ths} {xs ys zs : List α}
theorem lsN_th (h : lsN f T p = some xs) : T[p]? = some (.lst (xs.map f)) := by
  unfold lsN at h
  cases ht : T[p]? with
  | none => rw [ht] at h; cases h
  | some o =>
    rw [ht] at h
    cases o with
    | lst ds =>
      have e : Dat.lst ds = eL f xs := decOf_some h
      cases e; rfl
    | _ => cases h
theorem thAt_ls (hT : S[g]? = some (.heap T)) (h : lsN f T p = some xs) : thAt g p S = some (.lst (xs.map f)) := by
  rw [thAt_eq hT]; exact lsN_th h
theorem x_ixL {k : Int} {x : α} (ho : mo S = .ok (eP p) S1) (hi : mi S1 = .ok (.int k) S2) (hT : S2[g]? = some (.heap T)) (h : lsN f T p = some xs) (hx : ixN? xs k = some x) : mIxL g mo mi S = .ok (f x) S2 := by
  unfold mIxL
  rw [ho, Rs.bind_ok, hi, Rs.bind_ok]
  dsimp only
  rw [thAt_ls hT h]
  dsimp only
  rw [show ixD (.lst (xs.map f)) (.int k) = some (f x) from q_ix hx]
  rfl
theorem x_catRT (ha : ma S = .ok (eL f ys) S1) (ho : mo S1 = .ok (eP p) S2) (hT : S2[g]? = some (.heap T)) (h : lsN f T p = some xs) (hx : catN ys xs = some zs) : mCatRT g ma mo S = .ok (eL f zs) S2 := by
  unfold mCatRT
  rw [ha, Rs.bind_ok, ho, Rs.bind_ok]
  dsimp only
  rw [thAt_ls hT h]
  dsimp only
  have e : catDD (eL f ys) (.lst (xs.map f)) = some (eL f zs) := by
    unfold catN at hx
    split at hx
    · rename_i hz
      cases hx
      show (if (ys.map f).length + (xs.map f).length ≤ lim then some (Dat.lst (ys.map f ++ xs.map f)) else none) = _
      rw [List.length_map, List.length_map, if_pos hz]
      show _ = some (Dat.lst ((ys ++ xs).map f))
      rw [List.map_append]
    · cases hx
  rw [e]
  rfl
theorem x_tupT (hr : mr S = .ok [eP p] S1) (hT : S1[g]? = some (.heap T)) (h : lsN f T p = some xs) : mTupT g mr S = .ok (eT f xs) S1 := by
  unfold mTupT
  rw [hr, Rs.bind_ok]
  dsimp only
  rw [thAt_ls hT h]
  rfl
theorem lsL_snap {xs : List Dat} (h : lsL T p = some xs) : snapL T (.ptr p) = eL eD xs := by
  unfold lsL at h
  unfold snapL
  dsimp only
  cases ht : T[p]? with
  | none => rw [ht] at h; cases h
  | some o =>
    rw [ht] at h
    cases o with
    | lst ds =>
      cases h
      show Dat.lst _ = Dat.lst (List.map eD _)
      exact congrArg Dat.lst (List.map_id _).symm
    | _ => cases h
theorem sl_nil : snapAL T [] = some [] := rfl
theorem sl_cons {as : List AV} {fs : List FA} (h : snapL T d = c) (hr : snapAL T as = some fs) : snapAL T (.dat d :: as) = some (.dat c :: fs) := by
  show (snapAL T as).map (.dat (snapL T d) :: ·) = _
  rw [hr, h]; rfl
theorem a_L {Fn : List FA → RF} {as : List AV} {fs : List FA} (hT : S[g]? = some (.heap T)) (hs : snapAL T as = some fs) (hF : Fn fs = .ok d []) (hf : flt d = true) : applyL g Fn as S = .ok d S := by
  unfold applyL
  rw [thsAt_eq hT]
  dsimp only
  rw [hs]
  dsimp only
  rw [hF]
  dsimp only
  rw [if_pos hf]
theorem x_callL {f : List Dat → Option Dat} {xs : List Dat} (hr : mr S = .ok [eP p] S1) (hT : S1[g]? = some (.heap T)) (hl : lsL T p = some xs) (h : f [eL eD xs] = some c) (hf : flt c = true) : mCallL g f mr S = .ok c S1 := by
  unfold mCallL
  rw [hr, Rs.bind_ok, thsAt_eq hT]
  dsimp only
  rw [show [eP p].map (snapL T) = [eL eD xs] from congrArg (fun z => [z]) (lsL_snap hl), h]
  dsimp only
  rw [if_pos hf]
theorem sD_ls {xs : List α} (h : lsN f T p = some xs) : snapD T (.ptr p) = eL f xs := by
  show snap1 T (.ptr p) = _
  unfold snap1
  dsimp only
  rw [lsN_th h]
end
end Mir
namespace K12
open PySem PySem.Spec PyProof.Rows L2 Mir
noncomputable section
def topS (i : Nat) : Stmt := PySem.Challenge.pw_dueways_k12_invalid_curves_in_sequence.main.body.getD i (.Pass ⟨0, 0, 0, 0⟩)
abbrev s_l_rng : Stmt := topS 26
abbrev s_l_draw : Stmt := topS 27
abbrev s_l_choice : Stmt := topS 28
abbrev s_l_written : Stmt := topS 29
abbrev s_l_odd_value : Stmt := topS 30
abbrev s_l_spoilt : Stmt := topS 31
abbrev s_l_is_count : Stmt := topS 32
abbrev s_l_due : Stmt := topS 33
abbrev s_InvalidCurve_init0 : Stmt := inClass (topS 3) 0
abbrev s_is_integer : Stmt := topS 15
abbrev s_is_count : Stmt := topS 16
abbrev s_check_values : Stmt := topS 21
abbrev s_value_at : Stmt := topS 18
abbrev s_check_growth : Stmt := topS 22
abbrev s_grows_by : Stmt := topS 19
abbrev s_form_of : Stmt := topS 20
abbrev s_Curve_init0 : Stmt := inClass (topS 23) 0
abbrev s_l_told : Stmt := topS 34
abbrev s_l_right : Stmt := topS 35
abbrev s_law : Stmt := topS 36
def d_l_rng : DefM := ⟨.glo "_law_rng", "_law_rng", "_law_rng", s_l_rng, [], []⟩
def d_l_draw : DefM := ⟨.glo "_law_draw", "_law_draw", "_law_draw", s_l_draw, [], []⟩
def d_l_choice : DefM := ⟨.glo "_law_choice", "_law_choice", "_law_choice", s_l_choice, [], []⟩
def d_l_written : DefM := ⟨.glo "_law_written", "_law_written", "_law_written", s_l_written, [], []⟩
def d_l_odd_value : DefM := ⟨.glo "_law_odd_value", "_law_odd_value", "_law_odd_value", s_l_odd_value, [], []⟩
def d_l_spoilt : DefM := ⟨.glo "_law_spoilt", "_law_spoilt", "_law_spoilt", s_l_spoilt, [], []⟩
def d_l_is_count : DefM := ⟨.glo "_law_is_count", "_law_is_count", "_law_is_count", s_l_is_count, [], []⟩
def d_l_due : DefM := ⟨.glo "_law_due", "_law_due", "_law_due", s_l_due, [], []⟩
def d_InvalidCurve_init0 : DefM := ⟨.mth "InvalidCurve" "__init__", "__init__", "InvalidCurve.__init__", s_InvalidCurve_init0, [], []⟩
def d_is_integer : DefM := ⟨.glo "is_integer", "is_integer", "is_integer", s_is_integer, [], []⟩
def d_is_count : DefM := ⟨.glo "is_count", "is_count", "is_count", s_is_count, [.non], []⟩
def d_check_values : DefM := ⟨.glo "check_values", "check_values", "check_values", s_check_values, [], []⟩
def d_value_at : DefM := ⟨.glo "value_at", "value_at", "value_at", s_value_at, [], []⟩
def d_check_growth : DefM := ⟨.glo "check_growth", "check_growth", "check_growth", s_check_growth, [], []⟩
def d_grows_by : DefM := ⟨.glo "grows_by", "grows_by", "grows_by", s_grows_by, [], []⟩
def d_form_of : DefM := ⟨.glo "form_of", "form_of", "form_of", s_form_of, [], []⟩
def d_Curve_init0 : DefM := ⟨.mth "Curve" "__init__", "__init__", "Curve.__init__", s_Curve_init0, [], [("period", .int 1), ("gain", .int 0)]⟩
def d_l_told : DefM := ⟨.glo "_law_told", "_law_told", "_law_told", s_l_told, [], []⟩
def d_l_right : DefM := ⟨.glo "_law_right", "_law_right", "_law_right", s_l_right, [], []⟩
def d_law : DefM := ⟨.glo "law", "law", "law", s_law, [], []⟩
def fn : List DefM := [d_l_rng, d_l_draw, d_l_choice, d_l_written, d_l_odd_value, d_l_spoilt, d_l_is_count, d_l_due, d_InvalidCurve_init0, d_is_integer, d_is_count, d_check_values, d_value_at, d_check_growth, d_grows_by, d_form_of, d_Curve_init0, d_l_told, d_l_right, d_law]
def fa : List Fc := [.he (.free "len"),
  .he (.free "min"),
  .he (.free "max"),
  .he (.free "range"),
  .he (.free "abs"),
  .he (.free "int"),
  .he (.glo "_law_rng"),
  .he (.free "divmod"),
  .he (.glo "_law_draw"),
  .he (.glo "_law_choice"),
  .he (.glo "_law_written"),
  .kit (.b "dict") (.b "list") false,
  .kit (.b "tuple") (.b "list") false,
  .kit (.b "list") (.b "list") true,
  .kit (.b "str") (.b "list") false,
  .kit (.b "int") (.b "list") false,
  .kit (.b "bool") (.b "list") false,
  .kit (.b "NoneType") (.b "list") false,
  .clsF "Curve",
  .kit (.c "Curve") (.b "list") false,
  .he (.free "list"),
  .he (.free "isinstance"),
  .he (.free "dict"),
  .he (.free "tuple"),
  .kit (.b "dict") (.b "int") false,
  .kit (.b "tuple") (.b "int") false,
  .kit (.b "list") (.b "int") false,
  .kit (.b "str") (.b "int") false,
  .kit (.b "int") (.b "int") true,
  .kit (.b "bool") (.b "int") true,
  .kit (.b "NoneType") (.b "int") false,
  .kit (.c "Curve") (.b "int") false,
  .he (.glo "_law_odd_value"),
  .he (.glo "_law_spoilt"),
  .he (.free "repr"),
  .he (.free "enumerate"),
  .kit (.b "dict") (.b "bool") false,
  .kit (.b "tuple") (.b "bool") false,
  .kit (.b "list") (.b "bool") false,
  .kit (.b "str") (.b "bool") false,
  .kit (.b "int") (.b "bool") false,
  .kit (.b "bool") (.b "bool") true,
  .kit (.b "NoneType") (.b "bool") false,
  .kit (.c "Curve") (.b "bool") false,
  .he (.free "bool"),
  .he (.glo "_law_is_count"),
  .he (.glo "_law_due"),
  .oex "InvalidCurve",
  .xbs "DueError",
  .he (.glo "DueError"),
  .he (.noat "InvalidCurve" "problem"),
  .he (.noat "InvalidCurve" "position"),
  .xin "InvalidCurve",
  .he (.glo "InvalidCurve"),
  .he (.int "MAX_VALUES" 24),
  .he (.glo "is_integer"),
  .he (.int "MAX_VALUE" 2000),
  .he (.glo "is_count"),
  .he (.glo "check_values"),
  .tupc "PERIODS" [.int 1, .int 2, .int 3, .int 4, .int 6, .int 12],
  .he (.glo "value_at"),
  .he (.glo "check_growth"),
  .he (.int "COMMON" 12),
  .he (.glo "grows_by"),
  .he (.glo "form_of"),
  .he (.noat "Curve" "own_gain"),
  .he (.noat "Curve" "own_period"),
  .he (.noat "Curve" "value_list"),
  .he (.mkr "Curve"),
  .he (.glo "Curve"),
  .exmT "TooLong" (.c "InvalidCurve") false,
  .exmT "NotGood" (.c "InvalidCurve") false,
  .exmT "InvalidRecord" (.c "InvalidCurve") false,
  .exmT "InvalidCount" (.c "InvalidCurve") false,
  .exmT "InvalidLength" (.c "InvalidCurve") false,
  .exmT "InvalidPiece" (.c "InvalidCurve") false,
  .exmT "InvalidCurve" (.c "InvalidCurve") true,
  .xfl "InvalidRecord",
  .he (.noat "InvalidRecord" "position"),
  .xfl "InvalidPiece",
  .he (.noat "InvalidPiece" "position"),
  .xfl "InvalidCurve",
  .he (.glo "InvalidCount"),
  .he (.glo "InvalidLength"),
  .he (.glo "InvalidPiece"),
  .he (.glo "InvalidRecord"),
  .he (.glo "NotGood"),
  .he (.glo "TooLong"),
  .kitA (.c "TooLong") [(.c "InvalidCount"), (.c "InvalidLength"), (.c "InvalidPiece"), (.c "InvalidRecord"), (.c "NotGood"), (.c "TooLong")] true,
  .xc "TooLong",
  .kitA (.c "NotGood") [(.c "InvalidCount"), (.c "InvalidLength"), (.c "InvalidPiece"), (.c "InvalidRecord"), (.c "NotGood"), (.c "TooLong")] true,
  .xc "NotGood",
  .kitA (.c "InvalidRecord") [(.c "InvalidCount"), (.c "InvalidLength"), (.c "InvalidPiece"), (.c "InvalidRecord"), (.c "NotGood"), (.c "TooLong")] true,
  .xc "InvalidRecord",
  .kitA (.c "InvalidCount") [(.c "InvalidCount"), (.c "InvalidLength"), (.c "InvalidPiece"), (.c "InvalidRecord"), (.c "NotGood"), (.c "TooLong")] true,
  .xc "InvalidCount",
  .kitA (.c "InvalidLength") [(.c "InvalidCount"), (.c "InvalidLength"), (.c "InvalidPiece"), (.c "InvalidRecord"), (.c "NotGood"), (.c "TooLong")] true,
  .xc "InvalidLength",
  .kitA (.c "InvalidPiece") [(.c "InvalidCount"), (.c "InvalidLength"), (.c "InvalidPiece"), (.c "InvalidRecord"), (.c "NotGood"), (.c "TooLong")] true,
  .xc "InvalidPiece",
  .kitA (.c "InvalidCurve") [(.c "InvalidCount"), (.c "InvalidLength"), (.c "InvalidPiece"), (.c "InvalidRecord"), (.c "NotGood"), (.c "TooLong")] false,
  .xc "InvalidCurve",
  .he (.free "ValueError"),
  .kit (.c "TooLong") (.b "ValueError") false,
  .kit (.c "NotGood") (.b "ValueError") false,
  .kit (.c "InvalidRecord") (.b "ValueError") true,
  .kit (.c "InvalidCount") (.b "ValueError") true,
  .kit (.c "InvalidLength") (.b "ValueError") true,
  .kit (.c "InvalidPiece") (.b "ValueError") true,
  .kit (.c "InvalidCurve") (.b "ValueError") true,
  .kit (.c "TooLong") (.c "DueError") false,
  .kit (.c "NotGood") (.c "DueError") false,
  .kit (.c "InvalidRecord") (.c "DueError") true,
  .kit (.c "InvalidCount") (.c "DueError") true,
  .kit (.c "InvalidLength") (.c "DueError") true,
  .kit (.c "InvalidPiece") (.c "DueError") true,
  .kit (.c "InvalidCurve") (.c "DueError") true,
  .he (.glo "_law_told"),
  .he (.glo "_law_right"),
  .he (.free "all"),
  .he (.glo "law")]
theorem bs_bd_l_rng_2 {K : PySem.W.Frag} {fd : FuncData} (D : FunM K d_l_rng fd) : ∃ g, KBn K fd ["_law_script", "_law_k"] 2 [] g (fun vs _ => vs) :=
  kb_plain D 2 [] (fun us _ => us) (fun vs _ => vs) (fun r1 _ => r1) (fun _ _ _ _ _ _ us ws h1 h2 => match us, h1, ws, h2 with | [u0, u1], _, [], _ => rfl)
theorem bd_l_draw_2 {K : PySem.W.Frag} {fd : FuncData} (D : FunM K d_l_draw fd) : ∃ g, KBn K fd ["_law_rng_here", "_law_many"] 2 [] g (fun vs zs => [vs.getD 0 .non, vs.getD 1 .non]) :=
  kb_plain D 2 [] (fun us ws => [us.getD 0 .none, us.getD 1 .none]) (fun vs zs => [vs.getD 0 .non, vs.getD 1 .non]) (fun r1 r2 => .cons (Vals.at r1 0) (.cons (Vals.at r1 1) (.nil))) (fun _ _ _ _ _ _ us ws h1 h2 => match us, h1, ws, h2 with | [u0, u1], _, [], _ => rfl)
theorem ar_bd_l_draw_2 {K : PySem.W.Frag} : Arr K 2 0 (fun vs zs => [vs.getD 0 .non, vs.getD 1 .non]) (fun as bs => [as.getD 0 (.dat .non), as.getD 1 (.dat .non)]) := ⟨fun {cm σ G vs zs as bs} l1 l2 a b => by
  match vs, l1, zs, l2, a, b with
  | [v0, v1], _, [], _, a, b => exact AvsOk.cons (a.at 0) (AvsOk.cons (a.at 1) (.nil))⟩
theorem bs_bd_l_draw_2 {K : PySem.W.Frag} {fd : FuncData} (D : FunM K d_l_draw fd) : ∃ g, KBn K fd ["_law_rng_here", "_law_many"] 2 [] g (fun vs _ => vs) :=
  kb_plain D 2 [] (fun us _ => us) (fun vs _ => vs) (fun r1 _ => r1) (fun _ _ _ _ _ _ us ws h1 h2 => match us, h1, ws, h2 with | [u0, u1], _, [], _ => rfl)
theorem bd_l_choice_2 {K : PySem.W.Frag} {fd : FuncData} (D : FunM K d_l_choice fd) : ∃ g, KBn K fd ["_law_rng_here", "_law_some"] 2 [] g (fun vs zs => [vs.getD 0 .non, vs.getD 1 .non]) :=
  kb_plain D 2 [] (fun us ws => [us.getD 0 .none, us.getD 1 .none]) (fun vs zs => [vs.getD 0 .non, vs.getD 1 .non]) (fun r1 r2 => .cons (Vals.at r1 0) (.cons (Vals.at r1 1) (.nil))) (fun _ _ _ _ _ _ us ws h1 h2 => match us, h1, ws, h2 with | [u0, u1], _, [], _ => rfl)
theorem ar_bd_l_choice_2 {K : PySem.W.Frag} : Arr K 2 0 (fun vs zs => [vs.getD 0 .non, vs.getD 1 .non]) (fun as bs => [as.getD 0 (.dat .non), as.getD 1 (.dat .non)]) := ⟨fun {cm σ G vs zs as bs} l1 l2 a b => by
  match vs, l1, zs, l2, a, b with
  | [v0, v1], _, [], _, a, b => exact AvsOk.cons (a.at 0) (AvsOk.cons (a.at 1) (.nil))⟩
theorem bs_bd_l_choice_2 {K : PySem.W.Frag} {fd : FuncData} (D : FunM K d_l_choice fd) : ∃ g, KBn K fd ["_law_rng_here", "_law_some"] 2 [] g (fun vs _ => vs) :=
  kb_plain D 2 [] (fun us _ => us) (fun vs _ => vs) (fun r1 _ => r1) (fun _ _ _ _ _ _ us ws h1 h2 => match us, h1, ws, h2 with | [u0, u1], _, [], _ => rfl)
theorem bd_l_written_1 {K : PySem.W.Frag} {fd : FuncData} (D : FunM K d_l_written fd) : ∃ g, KBn K fd ["_law_rng_here"] 1 [] g (fun vs zs => [vs.getD 0 .non]) :=
  kb_plain D 1 [] (fun us ws => [us.getD 0 .none]) (fun vs zs => [vs.getD 0 .non]) (fun r1 r2 => .cons (Vals.at r1 0) (.nil)) (fun _ _ _ _ _ _ us ws h1 h2 => match us, h1, ws, h2 with | [u0], _, [], _ => rfl)
theorem ar_bd_l_written_1 {K : PySem.W.Frag} : Arr K 1 0 (fun vs zs => [vs.getD 0 .non]) (fun as bs => [as.getD 0 (.dat .non)]) := ⟨fun {cm σ G vs zs as bs} l1 l2 a b => by
  match vs, l1, zs, l2, a, b with
  | [v0], _, [], _, a, b => exact AvsOk.cons (a.at 0) (.nil)⟩
theorem bs_bd_l_written_1 {K : PySem.W.Frag} {fd : FuncData} (D : FunM K d_l_written fd) : ∃ g, KBn K fd ["_law_rng_here"] 1 [] g (fun vs _ => vs) :=
  kb_plain D 1 [] (fun us _ => us) (fun vs _ => vs) (fun r1 _ => r1) (fun _ _ _ _ _ _ us ws h1 h2 => match us, h1, ws, h2 with | [u0], _, [], _ => rfl)
theorem bd_l_odd_value_2 {K : PySem.W.Frag} {fd : FuncData} (D : FunM K d_l_odd_value fd) : ∃ g, KBn K fd ["_law_rng_here", "_law_before"] 2 [] g (fun vs zs => [vs.getD 0 .non, vs.getD 1 .non]) :=
  kb_plain D 2 [] (fun us ws => [us.getD 0 .none, us.getD 1 .none]) (fun vs zs => [vs.getD 0 .non, vs.getD 1 .non]) (fun r1 r2 => .cons (Vals.at r1 0) (.cons (Vals.at r1 1) (.nil))) (fun _ _ _ _ _ _ us ws h1 h2 => match us, h1, ws, h2 with | [u0, u1], _, [], _ => rfl)
theorem ar_bd_l_odd_value_2 {K : PySem.W.Frag} : Arr K 2 0 (fun vs zs => [vs.getD 0 .non, vs.getD 1 .non]) (fun as bs => [as.getD 0 (.dat .non), as.getD 1 (.dat .non)]) := ⟨fun {cm σ G vs zs as bs} l1 l2 a b => by
  match vs, l1, zs, l2, a, b with
  | [v0, v1], _, [], _, a, b => exact AvsOk.cons (a.at 0) (AvsOk.cons (a.at 1) (.nil))⟩
theorem bs_bd_l_odd_value_2 {K : PySem.W.Frag} {fd : FuncData} (D : FunM K d_l_odd_value fd) : ∃ g, KBn K fd ["_law_rng_here", "_law_before"] 2 [] g (fun vs _ => vs) :=
  kb_plain D 2 [] (fun us _ => us) (fun vs _ => vs) (fun r1 _ => r1) (fun _ _ _ _ _ _ us ws h1 h2 => match us, h1, ws, h2 with | [u0, u1], _, [], _ => rfl)
theorem bd_l_spoilt_2 {K : PySem.W.Frag} {fd : FuncData} (D : FunM K d_l_spoilt fd) : ∃ g, KBn K fd ["_law_rng_here", "_law_row"] 2 [] g (fun vs zs => [vs.getD 0 .non, vs.getD 1 .non]) :=
  kb_plain D 2 [] (fun us ws => [us.getD 0 .none, us.getD 1 .none]) (fun vs zs => [vs.getD 0 .non, vs.getD 1 .non]) (fun r1 r2 => .cons (Vals.at r1 0) (.cons (Vals.at r1 1) (.nil))) (fun _ _ _ _ _ _ us ws h1 h2 => match us, h1, ws, h2 with | [u0, u1], _, [], _ => rfl)
theorem ar_bd_l_spoilt_2 {K : PySem.W.Frag} : Arr K 2 0 (fun vs zs => [vs.getD 0 .non, vs.getD 1 .non]) (fun as bs => [as.getD 0 (.dat .non), as.getD 1 (.dat .non)]) := ⟨fun {cm σ G vs zs as bs} l1 l2 a b => by
  match vs, l1, zs, l2, a, b with
  | [v0, v1], _, [], _, a, b => exact AvsOk.cons (a.at 0) (AvsOk.cons (a.at 1) (.nil))⟩
theorem bs_bd_l_spoilt_2 {K : PySem.W.Frag} {fd : FuncData} (D : FunM K d_l_spoilt fd) : ∃ g, KBn K fd ["_law_rng_here", "_law_row"] 2 [] g (fun vs _ => vs) :=
  kb_plain D 2 [] (fun us _ => us) (fun vs _ => vs) (fun r1 _ => r1) (fun _ _ _ _ _ _ us ws h1 h2 => match us, h1, ws, h2 with | [u0, u1], _, [], _ => rfl)
theorem bd_l_is_count_1 {K : PySem.W.Frag} {fd : FuncData} (D : FunM K d_l_is_count fd) : ∃ g, KBn K fd ["_law_thing"] 1 [] g (fun vs zs => [vs.getD 0 .non]) :=
  kb_plain D 1 [] (fun us ws => [us.getD 0 .none]) (fun vs zs => [vs.getD 0 .non]) (fun r1 r2 => .cons (Vals.at r1 0) (.nil)) (fun _ _ _ _ _ _ us ws h1 h2 => match us, h1, ws, h2 with | [u0], _, [], _ => rfl)
theorem ar_bd_l_is_count_1 {K : PySem.W.Frag} : Arr K 1 0 (fun vs zs => [vs.getD 0 .non]) (fun as bs => [as.getD 0 (.dat .non)]) := ⟨fun {cm σ G vs zs as bs} l1 l2 a b => by
  match vs, l1, zs, l2, a, b with
  | [v0], _, [], _, a, b => exact AvsOk.cons (a.at 0) (.nil)⟩
theorem bs_bd_l_is_count_1 {K : PySem.W.Frag} {fd : FuncData} (D : FunM K d_l_is_count fd) : ∃ g, KBn K fd ["_law_thing"] 1 [] g (fun vs _ => vs) :=
  kb_plain D 1 [] (fun us _ => us) (fun vs _ => vs) (fun r1 _ => r1) (fun _ _ _ _ _ _ us ws h1 h2 => match us, h1, ws, h2 with | [u0], _, [], _ => rfl)
theorem bd_l_due_1 {K : PySem.W.Frag} {fd : FuncData} (D : FunM K d_l_due fd) : ∃ g, KBn K fd ["_law_row"] 1 [] g (fun vs zs => [vs.getD 0 .non]) :=
  kb_plain D 1 [] (fun us ws => [us.getD 0 .none]) (fun vs zs => [vs.getD 0 .non]) (fun r1 r2 => .cons (Vals.at r1 0) (.nil)) (fun _ _ _ _ _ _ us ws h1 h2 => match us, h1, ws, h2 with | [u0], _, [], _ => rfl)
theorem ar_bd_l_due_1 {K : PySem.W.Frag} : Arr K 1 0 (fun vs zs => [vs.getD 0 .non]) (fun as bs => [as.getD 0 (.dat .non)]) := ⟨fun {cm σ G vs zs as bs} l1 l2 a b => by
  match vs, l1, zs, l2, a, b with
  | [v0], _, [], _, a, b => exact AvsOk.cons (a.at 0) (.nil)⟩
theorem bs_bd_l_due_1 {K : PySem.W.Frag} {fd : FuncData} (D : FunM K d_l_due fd) : ∃ g, KBn K fd ["_law_row"] 1 [] g (fun vs _ => vs) :=
  kb_plain D 1 [] (fun us _ => us) (fun vs _ => vs) (fun r1 _ => r1) (fun _ _ _ _ _ _ us ws h1 h2 => match us, h1, ws, h2 with | [u0], _, [], _ => rfl)
theorem bs_bd_InvalidCurve_init0_3 {K : PySem.W.Frag} {fd : FuncData} (D : FunM K d_InvalidCurve_init0 fd) : ∃ g, KBn K fd ["self", "problem", "position"] 3 [] g (fun vs _ => vs) :=
  kb_plain D 3 [] (fun us _ => us) (fun vs _ => vs) (fun r1 _ => r1) (fun _ _ _ _ _ _ us ws h1 h2 => match us, h1, ws, h2 with | [u0, u1, u2], _, [], _ => rfl)
theorem bd_is_integer_1 {K : PySem.W.Frag} {fd : FuncData} (D : FunM K d_is_integer fd) : ∃ g, KBn K fd ["value"] 1 [] g (fun vs zs => [vs.getD 0 .non]) :=
  kb_plain D 1 [] (fun us ws => [us.getD 0 .none]) (fun vs zs => [vs.getD 0 .non]) (fun r1 r2 => .cons (Vals.at r1 0) (.nil)) (fun _ _ _ _ _ _ us ws h1 h2 => match us, h1, ws, h2 with | [u0], _, [], _ => rfl)
theorem ar_bd_is_integer_1 {K : PySem.W.Frag} : Arr K 1 0 (fun vs zs => [vs.getD 0 .non]) (fun as bs => [as.getD 0 (.dat .non)]) := ⟨fun {cm σ G vs zs as bs} l1 l2 a b => by
  match vs, l1, zs, l2, a, b with
  | [v0], _, [], _, a, b => exact AvsOk.cons (a.at 0) (.nil)⟩
theorem bs_bd_is_integer_1 {K : PySem.W.Frag} {fd : FuncData} (D : FunM K d_is_integer fd) : ∃ g, KBn K fd ["value"] 1 [] g (fun vs _ => vs) :=
  kb_plain D 1 [] (fun us _ => us) (fun vs _ => vs) (fun r1 _ => r1) (fun _ _ _ _ _ _ us ws h1 h2 => match us, h1, ws, h2 with | [u0], _, [], _ => rfl)
theorem bd_is_count_2 {K : PySem.W.Frag} {fd : FuncData} (D : FunM K d_is_count fd) : ∃ g, KBn K fd ["value", "most"] 2 [] g (fun vs zs => (vs.drop 0).take 1 ++ ((vs.drop 1).take 1)) :=
  kb_dfl D 2 [] (fun {α} vs ds zs => (vs.drop 0).take 1 ++ ((vs.drop 1).take 1)) (List.cons_ne_nil _ _) (fun r1 r2 r3 => vapp (vp r1 0) (vp r1 1)) (fun _ _ _ _ _ _ _ us its ws h1 h2 h3 => match us, h1, its, h2, ws, h3 with | [u0, u1], _, [i0], _, [], _ => ⟨_, rfl, rfl⟩)
theorem ar_bd_is_count_2 {K : PySem.W.Frag} : Arr K 2 0 (fun vs zs => (vs.drop 0).take 1 ++ ((vs.drop 1).take 1)) (fun as bs => [as.getD 0 (.dat .non), as.getD 1 (.dat .non)]) := ⟨fun {cm σ G vs zs as bs} l1 l2 a b => by
  match vs, l1, zs, l2, a, b with
  | [v0, v1], _, [], _, a, b => exact AvsOk.cons (a.at 0) (AvsOk.cons (a.at 1) (.nil))⟩
theorem bd_check_values_1 {K : PySem.W.Frag} {fd : FuncData} (D : FunM K d_check_values fd) : ∃ g, KBn K fd ["values"] 1 [] g (fun vs zs => [vs.getD 0 .non]) :=
  kb_plain D 1 [] (fun us ws => [us.getD 0 .none]) (fun vs zs => [vs.getD 0 .non]) (fun r1 r2 => .cons (Vals.at r1 0) (.nil)) (fun _ _ _ _ _ _ us ws h1 h2 => match us, h1, ws, h2 with | [u0], _, [], _ => rfl)
theorem ar_bd_check_values_1 {K : PySem.W.Frag} : Arr K 1 0 (fun vs zs => [vs.getD 0 .non]) (fun as bs => [as.getD 0 (.dat .non)]) := ⟨fun {cm σ G vs zs as bs} l1 l2 a b => by
  match vs, l1, zs, l2, a, b with
  | [v0], _, [], _, a, b => exact AvsOk.cons (a.at 0) (.nil)⟩
theorem bs_bd_check_values_1 {K : PySem.W.Frag} {fd : FuncData} (D : FunM K d_check_values fd) : ∃ g, KBn K fd ["values"] 1 [] g (fun vs _ => vs) :=
  kb_plain D 1 [] (fun us _ => us) (fun vs _ => vs) (fun r1 _ => r1) (fun _ _ _ _ _ _ us ws h1 h2 => match us, h1, ws, h2 with | [u0], _, [], _ => rfl)
theorem bd_value_at_4 {K : PySem.W.Frag} {fd : FuncData} (D : FunM K d_value_at fd) : ∃ g, KBn K fd ["values", "period", "gain", "length"] 4 [] g (fun vs zs => [vs.getD 0 .non, vs.getD 1 .non, vs.getD 2 .non, vs.getD 3 .non]) :=
  kb_plain D 4 [] (fun us ws => [us.getD 0 .none, us.getD 1 .none, us.getD 2 .none, us.getD 3 .none]) (fun vs zs => [vs.getD 0 .non, vs.getD 1 .non, vs.getD 2 .non, vs.getD 3 .non]) (fun r1 r2 => .cons (Vals.at r1 0) (.cons (Vals.at r1 1) (.cons (Vals.at r1 2) (.cons (Vals.at r1 3) (.nil))))) (fun _ _ _ _ _ _ us ws h1 h2 => match us, h1, ws, h2 with | [u0, u1, u2, u3], _, [], _ => rfl)
theorem ar_bd_value_at_4 {K : PySem.W.Frag} : Arr K 4 0 (fun vs zs => [vs.getD 0 .non, vs.getD 1 .non, vs.getD 2 .non, vs.getD 3 .non]) (fun as bs => [as.getD 0 (.dat .non), as.getD 1 (.dat .non), as.getD 2 (.dat .non), as.getD 3 (.dat .non)]) := ⟨fun {cm σ G vs zs as bs} l1 l2 a b => by
  match vs, l1, zs, l2, a, b with
  | [v0, v1, v2, v3], _, [], _, a, b => exact AvsOk.cons (a.at 0) (AvsOk.cons (a.at 1) (AvsOk.cons (a.at 2) (AvsOk.cons (a.at 3) (.nil))))⟩
theorem bs_bd_value_at_4 {K : PySem.W.Frag} {fd : FuncData} (D : FunM K d_value_at fd) : ∃ g, KBn K fd ["values", "period", "gain", "length"] 4 [] g (fun vs _ => vs) :=
  kb_plain D 4 [] (fun us _ => us) (fun vs _ => vs) (fun r1 _ => r1) (fun _ _ _ _ _ _ us ws h1 h2 => match us, h1, ws, h2 with | [u0, u1, u2, u3], _, [], _ => rfl)
theorem bd_check_growth_3 {K : PySem.W.Frag} {fd : FuncData} (D : FunM K d_check_growth fd) : ∃ g, KBn K fd ["values", "period", "gain"] 3 [] g (fun vs zs => [vs.getD 0 .non, vs.getD 1 .non, vs.getD 2 .non]) :=
  kb_plain D 3 [] (fun us ws => [us.getD 0 .none, us.getD 1 .none, us.getD 2 .none]) (fun vs zs => [vs.getD 0 .non, vs.getD 1 .non, vs.getD 2 .non]) (fun r1 r2 => .cons (Vals.at r1 0) (.cons (Vals.at r1 1) (.cons (Vals.at r1 2) (.nil)))) (fun _ _ _ _ _ _ us ws h1 h2 => match us, h1, ws, h2 with | [u0, u1, u2], _, [], _ => rfl)
theorem ar_bd_check_growth_3 {K : PySem.W.Frag} : Arr K 3 0 (fun vs zs => [vs.getD 0 .non, vs.getD 1 .non, vs.getD 2 .non]) (fun as bs => [as.getD 0 (.dat .non), as.getD 1 (.dat .non), as.getD 2 (.dat .non)]) := ⟨fun {cm σ G vs zs as bs} l1 l2 a b => by
  match vs, l1, zs, l2, a, b with
  | [v0, v1, v2], _, [], _, a, b => exact AvsOk.cons (a.at 0) (AvsOk.cons (a.at 1) (AvsOk.cons (a.at 2) (.nil)))⟩
theorem bs_bd_check_growth_3 {K : PySem.W.Frag} {fd : FuncData} (D : FunM K d_check_growth fd) : ∃ g, KBn K fd ["values", "period", "gain"] 3 [] g (fun vs _ => vs) :=
  kb_plain D 3 [] (fun us _ => us) (fun vs _ => vs) (fun r1 _ => r1) (fun _ _ _ _ _ _ us ws h1 h2 => match us, h1, ws, h2 with | [u0, u1, u2], _, [], _ => rfl)
theorem bd_grows_by_4 {K : PySem.W.Frag} {fd : FuncData} (D : FunM K d_grows_by fd) : ∃ g, KBn K fd ["values", "period", "gain", "other"] 4 [] g (fun vs zs => [vs.getD 0 .non, vs.getD 1 .non, vs.getD 2 .non, vs.getD 3 .non]) :=
  kb_plain D 4 [] (fun us ws => [us.getD 0 .none, us.getD 1 .none, us.getD 2 .none, us.getD 3 .none]) (fun vs zs => [vs.getD 0 .non, vs.getD 1 .non, vs.getD 2 .non, vs.getD 3 .non]) (fun r1 r2 => .cons (Vals.at r1 0) (.cons (Vals.at r1 1) (.cons (Vals.at r1 2) (.cons (Vals.at r1 3) (.nil))))) (fun _ _ _ _ _ _ us ws h1 h2 => match us, h1, ws, h2 with | [u0, u1, u2, u3], _, [], _ => rfl)
theorem ar_bd_grows_by_4 {K : PySem.W.Frag} : Arr K 4 0 (fun vs zs => [vs.getD 0 .non, vs.getD 1 .non, vs.getD 2 .non, vs.getD 3 .non]) (fun as bs => [as.getD 0 (.dat .non), as.getD 1 (.dat .non), as.getD 2 (.dat .non), as.getD 3 (.dat .non)]) := ⟨fun {cm σ G vs zs as bs} l1 l2 a b => by
  match vs, l1, zs, l2, a, b with
  | [v0, v1, v2, v3], _, [], _, a, b => exact AvsOk.cons (a.at 0) (AvsOk.cons (a.at 1) (AvsOk.cons (a.at 2) (AvsOk.cons (a.at 3) (.nil))))⟩
theorem bs_bd_grows_by_4 {K : PySem.W.Frag} {fd : FuncData} (D : FunM K d_grows_by fd) : ∃ g, KBn K fd ["values", "period", "gain", "other"] 4 [] g (fun vs _ => vs) :=
  kb_plain D 4 [] (fun us _ => us) (fun vs _ => vs) (fun r1 _ => r1) (fun _ _ _ _ _ _ us ws h1 h2 => match us, h1, ws, h2 with | [u0, u1, u2, u3], _, [], _ => rfl)
theorem bd_form_of_3 {K : PySem.W.Frag} {fd : FuncData} (D : FunM K d_form_of fd) : ∃ g, KBn K fd ["values", "period", "gain"] 3 [] g (fun vs zs => [vs.getD 0 .non, vs.getD 1 .non, vs.getD 2 .non]) :=
  kb_plain D 3 [] (fun us ws => [us.getD 0 .none, us.getD 1 .none, us.getD 2 .none]) (fun vs zs => [vs.getD 0 .non, vs.getD 1 .non, vs.getD 2 .non]) (fun r1 r2 => .cons (Vals.at r1 0) (.cons (Vals.at r1 1) (.cons (Vals.at r1 2) (.nil)))) (fun _ _ _ _ _ _ us ws h1 h2 => match us, h1, ws, h2 with | [u0, u1, u2], _, [], _ => rfl)
theorem ar_bd_form_of_3 {K : PySem.W.Frag} : Arr K 3 0 (fun vs zs => [vs.getD 0 .non, vs.getD 1 .non, vs.getD 2 .non]) (fun as bs => [as.getD 0 (.dat .non), as.getD 1 (.dat .non), as.getD 2 (.dat .non)]) := ⟨fun {cm σ G vs zs as bs} l1 l2 a b => by
  match vs, l1, zs, l2, a, b with
  | [v0, v1, v2], _, [], _, a, b => exact AvsOk.cons (a.at 0) (AvsOk.cons (a.at 1) (AvsOk.cons (a.at 2) (.nil)))⟩
theorem bs_bd_form_of_3 {K : PySem.W.Frag} {fd : FuncData} (D : FunM K d_form_of fd) : ∃ g, KBn K fd ["values", "period", "gain"] 3 [] g (fun vs _ => vs) :=
  kb_plain D 3 [] (fun us _ => us) (fun vs _ => vs) (fun r1 _ => r1) (fun _ _ _ _ _ _ us ws h1 h2 => match us, h1, ws, h2 with | [u0, u1, u2], _, [], _ => rfl)
theorem bd_Curve_init0_2_period_gain {K : PySem.W.Frag} {fd : FuncData} (D : FunM K d_Curve_init0 fd) : ∃ g, KBn K fd ["self", "values", "period", "gain"] 2 ["period", "gain"] g (fun vs zs => [vs.getD 0 .non, vs.getD 1 .non, zs.getD 0 .non, zs.getD 1 .non]) :=
  kb_plain D 2 ["period", "gain"] (fun us ws => [us.getD 0 .none, us.getD 1 .none, ws.getD 0 .none, ws.getD 1 .none]) (fun vs zs => [vs.getD 0 .non, vs.getD 1 .non, zs.getD 0 .non, zs.getD 1 .non]) (fun r1 r2 => .cons (Vals.at r1 0) (.cons (Vals.at r1 1) (.cons (Vals.at r2 0) (.cons (Vals.at r2 1) (.nil))))) (fun _ _ _ _ _ _ us ws h1 h2 => match us, h1, ws, h2 with | [u0, u1], _, [w0, w1], _ => rfl)
theorem as_bd_Curve_init0_2_period_gain {K : PySem.W.Frag} : Arr K 1 2 (fun vs zs => [vs.getD 0 .non, zs.getD 0 .non, zs.getD 1 .non]) (fun as bs => [as.getD 0 (.dat .non), bs.getD 0 (.dat .non), bs.getD 1 (.dat .non)]) := ⟨fun {cm σ G vs zs as bs} l1 l2 a b => by
  match vs, l1, zs, l2, a, b with
  | [v0], _, [z0, z1], _, a, b => exact AvsOk.cons (a.at 0) (AvsOk.cons (b.at 0) (AvsOk.cons (b.at 1) (.nil)))⟩
theorem bd_l_told_1 {K : PySem.W.Frag} {fd : FuncData} (D : FunM K d_l_told fd) : ∃ g, KBn K fd ["_law_row"] 1 [] g (fun vs zs => [vs.getD 0 .non]) :=
  kb_plain D 1 [] (fun us ws => [us.getD 0 .none]) (fun vs zs => [vs.getD 0 .non]) (fun r1 r2 => .cons (Vals.at r1 0) (.nil)) (fun _ _ _ _ _ _ us ws h1 h2 => match us, h1, ws, h2 with | [u0], _, [], _ => rfl)
theorem ar_bd_l_told_1 {K : PySem.W.Frag} : Arr K 1 0 (fun vs zs => [vs.getD 0 .non]) (fun as bs => [as.getD 0 (.dat .non)]) := ⟨fun {cm σ G vs zs as bs} l1 l2 a b => by
  match vs, l1, zs, l2, a, b with
  | [v0], _, [], _, a, b => exact AvsOk.cons (a.at 0) (.nil)⟩
theorem bs_bd_l_told_1 {K : PySem.W.Frag} {fd : FuncData} (D : FunM K d_l_told fd) : ∃ g, KBn K fd ["_law_row"] 1 [] g (fun vs _ => vs) :=
  kb_plain D 1 [] (fun us _ => us) (fun vs _ => vs) (fun r1 _ => r1) (fun _ _ _ _ _ _ us ws h1 h2 => match us, h1, ws, h2 with | [u0], _, [], _ => rfl)
theorem bd_l_right_1 {K : PySem.W.Frag} {fd : FuncData} (D : FunM K d_l_right fd) : ∃ g, KBn K fd ["_law_rng_here"] 1 [] g (fun vs zs => [vs.getD 0 .non]) :=
  kb_plain D 1 [] (fun us ws => [us.getD 0 .none]) (fun vs zs => [vs.getD 0 .non]) (fun r1 r2 => .cons (Vals.at r1 0) (.nil)) (fun _ _ _ _ _ _ us ws h1 h2 => match us, h1, ws, h2 with | [u0], _, [], _ => rfl)
theorem ar_bd_l_right_1 {K : PySem.W.Frag} : Arr K 1 0 (fun vs zs => [vs.getD 0 .non]) (fun as bs => [as.getD 0 (.dat .non)]) := ⟨fun {cm σ G vs zs as bs} l1 l2 a b => by
  match vs, l1, zs, l2, a, b with
  | [v0], _, [], _, a, b => exact AvsOk.cons (a.at 0) (.nil)⟩
theorem bs_bd_l_right_1 {K : PySem.W.Frag} {fd : FuncData} (D : FunM K d_l_right fd) : ∃ g, KBn K fd ["_law_rng_here"] 1 [] g (fun vs _ => vs) :=
  kb_plain D 1 [] (fun us _ => us) (fun vs _ => vs) (fun r1 _ => r1) (fun _ _ _ _ _ _ us ws h1 h2 => match us, h1, ws, h2 with | [u0], _, [], _ => rfl)
theorem sc_l_rng : FnScope ["_law_script", "_law_k", "_law_cell"] ["_law_script", "_law_k"] (defScope s_l_rng) := ⟨rfl, rfl, rfl, by decide +kernel, rfl, by decide +kernel, by decide +kernel⟩
def m_l_rng : Sg → Rs (List Dat) :=
    mSeqL (mAsg (m2 addD (m2 mulD (mC (.int 7)) (mVar 1)) (mC (.int 3))) (gNm 2))
    (mSeqL (mIfS (cTruth (m2 ltD (mVar 1) (mCall lenC (mCons (mVar 0) (mNil))))) (mAsg (m2 ixD (mVar 0) (mVar 1)) (gNm 2)) (mNext))
    (lLst (mCons (mCall maxC (mCons (mC (.int 0)) (mCons (m2 subD (mCall absC (mCons (mVar 2) (mNil))) (m2 powD (mC (.int 10)) (mC (.int 18)))) (mNil)))) (mCons (m2 addD (m2 modD (m2 mulD (mCall intC (mCons (m2 addD (m2 modD (mCall intC (mCons (mCall absC (mCons (mVar 2) (mNil))) (mNil))) (mC (.int 2147483549))) (mC (.int 1))) (mNil))) (m2 powD (m2 addD (m2 mulD (mC (.int 2)) (mVar 1)) (mC (.int 5))) (mC (.int 3)))) (mC (.int 2147483543))) (mC (.int 1))) (mNil)))))
def F_l_rng : List Dat → Option (List Dat) := runL 2 3 m_l_rng
theorem ok_l_rng {P : Program} {w : World} {K : PySem.W.Frag} {mg : Str → Option Value} {base : Heap} (c : Kn fa fn K mg) {fd : FuncData} (D : FunM K d_l_rng fd) : FnG P w K mg base (L2.CX P w) 1 (d_l_rng.ad.a K) fd ["_law_script", "_law_k"] (spL ⟨He.ga K, none, []⟩ K F_l_rng) := by
  exact fnL_of D sc_l_rng rfl rfl fun cdv A outer s H E hr hg =>
    gs_consL (gs_set (i := 2) sc_l_rng.nd rfl (by first | exact .inl rfl | exact .inr rfl) (ge_op o_add (ge_op o_mul (ge_int) (ge_var (pv 1))) (ge_int)))
    (gs_consL (gs_if (gt_cmp o_lt (ge_var (pv 1)) (ge_callB c_len (by rfl) (c.free 0) (by decide +kernel) (ga_cons (ge_var (pv 0)) (ga_nil))) (nomark _)) (gs_one (gs_set (i := 2) sc_l_rng.nd rfl (by first | exact .inl rfl | exact .inr rfl) (ge_ix i_ix (ge_var (pv 0)) (ge_var (pv 1)) (fun _ _ => rfl)))) (gs_nil))
    (gs_oneL (gs_retL (gl_lst (ga_cons (ge_callB (c_max rfl) (by rfl) (c.free 2) (by decide +kernel) (ga_cons (ge_int) (ga_cons (ge_op o_sub (ge_callB c_abs (by rfl) (c.free 4) (by decide +kernel) (ga_cons (ge_var (pv 2)) (ga_nil))) (ge_op o_pow (ge_int) (ge_int))) (ga_nil)))) (ga_cons (ge_op o_add (ge_op o_mod (ge_op o_mul (ge_callTy c_int (by rfl) (c.free 5) (by decide +kernel) (ga_cons (ge_op o_add (ge_op o_mod (ge_callTy c_int (by rfl) (c.free 5) (by decide +kernel) (ga_cons (ge_callB c_abs (by rfl) (c.free 4) (by decide +kernel) (ga_cons (ge_var (pv 2)) (ga_nil))) (ga_nil))) (ge_int)) (ge_int)) (ga_nil))) (ge_op o_pow (ge_op o_add (ge_op o_mul (ge_int) (ge_var (pv 1))) (ge_int)) (ge_int))) (ge_int)) (ge_int)) (ga_nil)))))))
theorem sc_l_draw : FnScope ["_law_rng_here", "_law_many", "_law_digit"] ["_law_rng_here", "_law_many"] (defScope s_l_draw) := ⟨rfl, rfl, rfl, by decide +kernel, rfl, by decide +kernel, by decide +kernel⟩
def m_l_draw : MS :=
    mSeq (mIfS (cTruth (m2 gtD (mIxS 0 (mC (.int 0))) (mC (.int 0)))) (mSeq (mAsg (mCall divmodC (mCons (mIxS 0 (mC (.int 0))) (mCons (mVar 1) (mNil)))) (gTpN 2 (gCs (gIx 0 (mC (.int 0))) (gCs (gNm 2) (gNl)))))
    (mRet (mVar 2))) (mNext))
    (mSeq (mAsg (m2 modD (mCall intC (mCons (m2 addD (m2 mulD (mIxS 0 (mC (.int 1))) (mC (.int 48311))) (mC (.int 20011))) (mNil))) (mC (.int 2147483563))) (gIx 0 (mC (.int 1))))
    (mRet (m2 modD (m2 fdivD (m2 modD (mCall intC (mCons (m2 mulD (mIxS 0 (mC (.int 1))) (mIxS 0 (mC (.int 1)))) (mNil))) (mC (.int 2147483497))) (mC (.int 17))) (mVar 1))))
def F_l_draw : List FA → RF := runDef 2 3 m_l_draw
theorem ok_l_draw {P : Program} {w : World} {K : PySem.W.Frag} {mg : Str → Option Value} {base : Heap} (c : Kn fa fn K mg) {fd : FuncData} (D : FunM K d_l_draw fd) : FnG P w K mg base (L2.CX P w) 1 (d_l_draw.ad.a K) fd ["_law_rng_here", "_law_many"] (spF ⟨He.ga K, none, []⟩ K F_l_draw) := by
  exact fnG_of D sc_l_draw rfl rfl fun cdv A outer s H E hr hg =>
    gs_cons (gs_if (gt_cmp o_gt (ge_ixS (pv 0) (ge_int) (fun _ _ => rfl)) (ge_int) (nomark _)) (gs_cons (gs_asg (ge_callB c_divmod (by rfl) (c.free 7) (by decide +kernel) (ga_cons (ge_ixS (pv 0) (ge_int) (fun _ _ => rfl)) (ga_cons (ge_var (pv 1)) (ga_nil)))) (gg_tupN rfl (ggs_cons (gg_ix (pv 0) (ge_int)) (ggs_cons (gg_name (pg_name (i := 2) sc_l_draw.nd rfl (by first | exact .inl rfl | exact .inr rfl))) (ggs_nil)))))
    (gs_one (gs_ret (ge_var (pv 2))))) (gs_nil))
    (gs_cons (gs_asg (ge_op o_mod (ge_callTy c_int (by rfl) (c.free 5) (by decide +kernel) (ga_cons (ge_op o_add (ge_op o_mul (ge_ixS (pv 0) (ge_int) (fun _ _ => rfl)) (ge_int)) (ge_int)) (ga_nil))) (ge_int)) (gg_ix (pv 0) (ge_int)))
    (gs_one (gs_ret (ge_op o_mod (ge_op o_fdiv (ge_op o_mod (ge_callTy c_int (by rfl) (c.free 5) (by decide +kernel) (ga_cons (ge_op o_mul (ge_ixS (pv 0) (ge_int) (fun _ _ => rfl)) (ge_ixS (pv 0) (ge_int) (fun _ _ => rfl))) (ga_nil))) (ge_int)) (ge_int)) (ge_var (pv 1))))))
theorem sc_l_choice : FnScope ["_law_rng_here", "_law_some"] ["_law_rng_here", "_law_some"] (defScope s_l_choice) := ⟨rfl, rfl, rfl, by decide +kernel, rfl, by decide +kernel, by decide +kernel⟩
def m_l_choice : MS :=
    mRet (m2 ixD (mVar 1) (mCallF F_l_draw 2 0 (fun as bs => [as.getD 0 (.dat .non), as.getD 1 (.dat .non)]) (vSlot 0 (vDat (mCall lenC (mCons (mVar 1) (mNil))) (vNil))) vNil))
def F_l_choice : List FA → RF := runDef 2 2 m_l_choice
theorem ok_l_choice {P : Program} {w : World} {K : PySem.W.Frag} {mg : Str → Option Value} {base : Heap} (c : Kn fa fn K mg) {fd : FuncData} (D : FunM K d_l_choice fd) : FnG P w K mg base (L2.CX P w) 2 (d_l_choice.ad.a K) fd ["_law_rng_here", "_law_some"] (spF ⟨He.ga K, none, []⟩ K F_l_choice) := by
  obtain ⟨fd_l_draw, D_l_draw⟩ := c.def_ 1 (d := d_l_draw)
  have O_l_draw := ok_l_draw (P := P) (w := w) (base := base) c D_l_draw
  have B2_l_draw := bs_bd_l_draw_2 D_l_draw
  exact fnG_of D sc_l_choice rfl rfl fun cdv A outer s H E hr hg =>
    gs_one (gs_ret (ge_ix i_ix (ge_var (pv 1)) (ge_callF O_l_draw (hr.mono (by decide)) hg (takes_of rfl rfl rfl rfl) (by rfl) (c.glo 8) D_l_draw.kp (bd_l_draw_2 D_l_draw) ar_bd_l_draw_2 (gv_slot (pv 0) (gv_dat (ge_callB c_len (by rfl) (c.free 0) (by decide +kernel) (ga_cons (ge_var (pv 1)) (ga_nil))) (gv_nil)))) (fun _ _ => rfl)))
theorem sc_l_written : FnScope ["_law_rng_here", "_law_many", "_law_told_here", "_law_k", "_law_cycle", "_law_low", "$h"] ["_law_rng_here"] (defScope s_l_written) := ⟨rfl, rfl, rfl, by decide +kernel, rfl, by decide +kernel, by decide +kernel⟩
def m_l_written : MS :=
    mSeq (mAsg (m2 ixD (mLst (mCons (m2 addD (mC (.int 1)) (mCallF F_l_draw 2 0 (fun as bs => [as.getD 0 (.dat .non), as.getD 1 (.dat .non)]) (vSlot 0 (vDat (mC (.int 5)) (vNil))) vNil)) (mCons (mC (.int 24)) (mCons (mC (.int 25)) (mCons (m2 addD (mC (.int 1)) (mCallF F_l_draw 2 0 (fun as bs => [as.getD 0 (.dat .non), as.getD 1 (.dat .non)]) (vSlot 0 (vDat (mC (.int 24)) (vNil))) vNil)) (mCons (mC (.int 0)) (mNil))))))) (m2 fdivD (mCallF F_l_draw 2 0 (fun as bs => [as.getD 0 (.dat .non), as.getD 1 (.dat .non)]) (vSlot 0 (vDat (mC (.int 20)) (vNil))) vNil) (mC (.int 4)))) (gNm 1))
    (mSeq (mIfS (cAnd (cTruth (m2 eqD (mVar 1) (mC (.int 0)))) (cTruth (m2 gtD (mCallF F_l_draw 2 0 (fun as bs => [as.getD 0 (.dat .non), as.getD 1 (.dat .non)]) (vSlot 0 (vDat (mC (.int 3)) (vNil))) vNil) (mC (.int 0))))) (mAsg (mC (.int 3)) (gNm 1)) (mNext))
    (mSeq (mAsg (mNewL 6 (lLst (mNil))) (gNm 2))
    (mSeq (mFor (mIts range1 (mCons (mVar 1) (mNil))) (gNm 3) (mAppT 6 (mVar 2) (mCall minC (mCons (mC (.int 2000)) (mCons (m2 addD (m2 ixD (mCatRT 6 (mLst (mCons (mC (.int 0)) (mNil))) (mVar 2)) (m1 negD (mC (.int 1)))) (m2 ixD (mLst (mCons (mC (.int 0)) (mCons (mC (.int 1)) (mCons (mCallF F_l_draw 2 0 (fun as bs => [as.getD 0 (.dat .non), as.getD 1 (.dat .non)]) (vSlot 0 (vDat (mC (.int 90)) (vNil))) vNil) (mCons (mC (.int 2)) (mNil)))))) (mCallF F_l_draw 2 0 (fun as bs => [as.getD 0 (.dat .non), as.getD 1 (.dat .non)]) (vSlot 0 (vDat (mC (.int 4)) (vNil))) vNil))) (mNil))))))
    (mSeq (mAsg (mCallF F_l_choice 2 0 (fun as bs => [as.getD 0 (.dat .non), as.getD 1 (.dat .non)]) (vSlot 0 (vDat (mLst (mCons (mC (.int 1)) (mCons (mC (.int 1)) (mCons (mC (.int 2)) (mCons (mC (.int 3)) (mCons (mC (.int 4)) (mCons (mC (.int 6)) (mCons (mC (.int 12)) (mNil))))))))) (vNil))) vNil) (gNm 4))
    (mSeq (mAsg (mC (.int 0)) (gNm 5))
    (mSeq (mIfS (cTruth (mChain ltD leD (mC (.int 0)) (mVar 4) (mVar 1))) (mAsg (m2 subD (m2T 6 ixD (mVar 2) (m1 negD (mC (.int 1)))) (m2 ixD (mCatRT 6 (mLst (mCons (mC (.int 0)) (mNil))) (mVar 2)) (m2 subD (m2 addD (mVar 1) (mC (.int 1))) (mVar 4)))) (gNm 5)) (mNext))
    (mRet (mNewL 6 (lLst (mCons (mVar 2) (mCons (mVar 4) (mCons (mCall minC (mCons (mC (.int 2000)) (mCons (m2 addD (mVar 5) (mCallF F_l_draw 2 0 (fun as bs => [as.getD 0 (.dat .non), as.getD 1 (.dat .non)]) (vSlot 0 (vDat (mC (.int 3)) (vNil))) vNil)) (mNil)))) (mNil)))))))))))))
def F_l_written : List FA → Ths → RT := runDefT 1 6 m_l_written
theorem ok_l_written {P : Program} {w : World} {K : PySem.W.Frag} {mg : Str → Option Value} {base : Heap} (c : Kn fa fn K mg) {fd : FuncData} (D : FunM K d_l_written fd) : FnG P w K mg base (L2.CX P w) 3 (d_l_written.ad.a K) fd ["_law_rng_here"] (spT ⟨He.ga K, none, []⟩ K F_l_written) := by
  obtain ⟨fd_l_draw, D_l_draw⟩ := c.def_ 1 (d := d_l_draw)
  have O_l_draw := ok_l_draw (P := P) (w := w) (base := base) c D_l_draw
  have B2_l_draw := bs_bd_l_draw_2 D_l_draw
  obtain ⟨fd_l_choice, D_l_choice⟩ := c.def_ 2 (d := d_l_choice)
  have O_l_choice := ok_l_choice (P := P) (w := w) (base := base) c D_l_choice
  have B2_l_choice := bs_bd_l_choice_2 D_l_choice
  exact fnT_of D sc_l_written rfl rfl (by decide) fun cdv A outer s H E hr hg =>
    gs_cons (gs_set (i := 1) sc_l_written.nd rfl (by first | exact .inl rfl | exact .inr rfl) (ge_ix i_ix (ge_lst (ga_cons (ge_op o_add (ge_int) (ge_callF O_l_draw (hr.mono (by decide)) hg (takes_of rfl rfl rfl rfl) (by rfl) (c.glo 8) D_l_draw.kp (bd_l_draw_2 D_l_draw) ar_bd_l_draw_2 (gv_slot (pv 0) (gv_dat (ge_int) (gv_nil))))) (ga_cons (ge_int) (ga_cons (ge_int) (ga_cons (ge_op o_add (ge_int) (ge_callF O_l_draw (hr.mono (by decide)) hg (takes_of rfl rfl rfl rfl) (by rfl) (c.glo 8) D_l_draw.kp (bd_l_draw_2 D_l_draw) ar_bd_l_draw_2 (gv_slot (pv 0) (gv_dat (ge_int) (gv_nil))))) (ga_cons (ge_int) (ga_nil))))))) (ge_op o_fdiv (ge_callF O_l_draw (hr.mono (by decide)) hg (takes_of rfl rfl rfl rfl) (by rfl) (c.glo 8) D_l_draw.kp (bd_l_draw_2 D_l_draw) ar_bd_l_draw_2 (gv_slot (pv 0) (gv_dat (ge_int) (gv_nil)))) (ge_int)) (fun _ _ => rfl)))
    (gs_cons (gs_if (PW.pt (gw_and (gt_cmp (o_eq hr.units) (ge_var (pv 1)) (ge_int) (nomark _)) (gw_and1 (gt_cmp o_gt (ge_callF O_l_draw (hr.mono (by decide)) hg (takes_of rfl rfl rfl rfl) (by rfl) (c.glo 8) D_l_draw.kp (bd_l_draw_2 D_l_draw) ar_bd_l_draw_2 (gv_slot (pv 0) (gv_dat (ge_int) (gv_nil)))) (ge_int) (nomark _))))) (gs_one (gs_set (i := 1) sc_l_written.nd rfl (by first | exact .inl rfl | exact .inr rfl) (ge_int))) (gs_nil))
    (gs_cons (gs_set (i := 2) sc_l_written.nd rfl (by first | exact .inl rfl | exact .inr rfl) (ge_newL (gl_lst (ga_nil))))
    (gs_cons (gs_for (passes_of rfl) rfl (gi_range1 (by rfl) (c.free 3) (ga_cons (ge_var (pv 1)) (ga_nil))) (gg_name (pg_name (i := 3) sc_l_written.nd rfl (by first | exact .inl rfl | exact .inr rfl))) (gs_one (gs_appT (ge_var (pv 2)) (ge_callB (c_min rfl) (by rfl) (c.free 1) (by decide +kernel) (ga_cons (ge_int) (ga_cons (ge_op o_add (ge_ix i_ix (ge_catRT (ge_lst (ga_cons (ge_int) (ga_nil))) (ge_var (pv 2))) (ge_un u_neg (ge_int)) (fun _ _ => rfl)) (ge_ix i_ix (ge_lst (ga_cons (ge_int) (ga_cons (ge_int) (ga_cons (ge_callF O_l_draw (hr.mono (by decide)) hg (takes_of rfl rfl rfl rfl) (by rfl) (c.glo 8) D_l_draw.kp (bd_l_draw_2 D_l_draw) ar_bd_l_draw_2 (gv_slot (pv 0) (gv_dat (ge_int) (gv_nil)))) (ga_cons (ge_int) (ga_nil)))))) (ge_callF O_l_draw (hr.mono (by decide)) hg (takes_of rfl rfl rfl rfl) (by rfl) (c.glo 8) D_l_draw.kp (bd_l_draw_2 D_l_draw) ar_bd_l_draw_2 (gv_slot (pv 0) (gv_dat (ge_int) (gv_nil)))) (fun _ _ => rfl))) (ga_nil)))))))
    (gs_cons (gs_set (i := 4) sc_l_written.nd rfl (by first | exact .inl rfl | exact .inr rfl) (ge_callF O_l_choice (hr.mono (by decide)) hg (takes_of rfl rfl rfl rfl) (by rfl) (c.glo 9) D_l_choice.kp (bd_l_choice_2 D_l_choice) ar_bd_l_choice_2 (gv_slot (pv 0) (gv_dat (ge_lst (ga_cons (ge_int) (ga_cons (ge_int) (ga_cons (ge_int) (ga_cons (ge_int) (ga_cons (ge_int) (ga_cons (ge_int) (ga_cons (ge_int) (ga_nil))))))))) (gv_nil)))))
    (gs_cons (gs_set (i := 5) sc_l_written.nd rfl (by first | exact .inl rfl | exact .inr rfl) (ge_int))
    (gs_cons (gs_if (gt_chain o_lt o_le (ge_int) (ge_var (pv 4)) (ge_var (pv 1)) (hbl := by intro x y z h; cases x <;> cases y <;> cases h <;> exact ⟨_, rfl⟩)) (gs_one (gs_set (i := 5) sc_l_written.nd rfl (by first | exact .inl rfl | exact .inr rfl) (ge_op o_sub (ge_ixT i_ix (ge_var (pv 2)) (ge_un u_neg (ge_int)) (fun _ _ => rfl)) (ge_ix i_ix (ge_catRT (ge_lst (ga_cons (ge_int) (ga_nil))) (ge_var (pv 2))) (ge_op o_sub (ge_op o_add (ge_var (pv 1)) (ge_int)) (ge_var (pv 4))) (fun _ _ => rfl))))) (gs_nil))
    (gs_one (gs_ret (ge_newL (gl_lst (ga_cons (ge_var (pv 2)) (ga_cons (ge_var (pv 4)) (ga_cons (ge_callB (c_min rfl) (by rfl) (c.free 1) (by decide +kernel) (ga_cons (ge_int) (ga_cons (ge_op o_add (ge_var (pv 5)) (ge_callF O_l_draw (hr.mono (by decide)) hg (takes_of rfl rfl rfl rfl) (by rfl) (c.glo 8) D_l_draw.kp (bd_l_draw_2 D_l_draw) ar_bd_l_draw_2 (gv_slot (pv 0) (gv_dat (ge_int) (gv_nil))))) (ga_nil)))) (ga_nil))))))))))))))
theorem sc_l_odd_value : FnScope ["_law_rng_here", "_law_before", "_law_known", "_law_some"] ["_law_rng_here", "_law_before"] (defScope s_l_odd_value) := ⟨rfl, rfl, rfl, by decide +kernel, rfl, by decide +kernel, by decide +kernel⟩
def m_l_odd_value : MS :=
    mSeq (mAsg (mIf (cTruth (m1 (isiT [("NoneType", false), ("bool", true), ("int", true), ("str", false), ("list", false), ("tuple", false), ("dict", false)] [("Curve", false)]) (mVar 1))) (mVar 1) (mC (.int 0))) (gNm 2))
    (mSeq (mAsg (mLst (mCons (m1 negBD (mC (.int 1))) (mCons (mC (.int 2001)) (mCons (mC (.bl true)) (mCons (mC (.bl false)) (mCons (mC .non) (mCons (mC (.str "1")) (mCons (mTup (mCons (mC (.int 1)) (mNil))) (mCons (mLst (mCons (mC (.int 1)) (mNil))) (mCons (mC (.dic [])) (mCons (m2 powD (mC (.int 10)) (mC (.int 18))) (mCons (m2 subBD (mVar 2) (mC (.int 1))) (mCons (m1 negBD (mVar 2)) (mNil)))))))))))))) (gNm 3))
    (mRet (mCallF F_l_choice 2 0 (fun as bs => [as.getD 0 (.dat .non), as.getD 1 (.dat .non)]) (vSlot 0 (vDat (mVar 3) (vNil))) vNil)))
def F_l_odd_value : List FA → RF := runDef 2 4 m_l_odd_value
theorem ok_l_odd_value {P : Program} {w : World} {K : PySem.W.Frag} {mg : Str → Option Value} {base : Heap} (c : Kn fa fn K mg) {fd : FuncData} (D : FunM K d_l_odd_value fd) : FnG P w K mg base (L2.CX P w) 3 (d_l_odd_value.ad.a K) fd ["_law_rng_here", "_law_before"] (spF ⟨He.ga K, none, []⟩ K F_l_odd_value) := by
  obtain ⟨fd_l_choice, D_l_choice⟩ := c.def_ 2 (d := d_l_choice)
  have O_l_choice := ok_l_choice (P := P) (w := w) (base := base) c D_l_choice
  have B2_l_choice := bs_bd_l_choice_2 D_l_choice
  exact fnG_of D sc_l_odd_value rfl rfl fun cdv A outer s H E hr hg =>
    gs_cons (gs_set (i := 2) sc_l_odd_value.nd rfl (by first | exact .inl rfl | exact .inr rfl) (ge_if (gt_val (ge_isi (c.free 21) (by rfl) (ge_var (pv 1)) (pe_bltn (v := .ty "int") (by rfl) (c.free 5) (by decide +kernel) rfl) (.ty _) (aa1 (c.kit 30 (a := .b "NoneType") (b := (.b "int")) (r := false)) (aa1 (c.kit 29 (a := .b "bool") (b := (.b "int")) (r := true)) (aa1 (c.kit 28 (a := .b "int") (b := (.b "int")) (r := true)) (aa1 (c.kit 27 (a := .b "str") (b := (.b "int")) (r := false)) (aa1 (c.kit 26 (a := .b "list") (b := (.b "int")) (r := false)) (aa1 (c.kit 25 (a := .b "tuple") (b := (.b "int")) (r := false)) (aa1 (c.kit 24 (a := .b "dict") (b := (.b "int")) (r := false)) (aa0)))))))) (aa1 ⟨c.cls 18, c.kit 31 (a := .c "Curve") (b := (.b "int")) (r := false)⟩ (aa0)))) (ge_var (pv 1)) (ge_int)))
    (gs_cons (gs_set (i := 3) sc_l_odd_value.nd rfl (by first | exact .inl rfl | exact .inr rfl) (ge_lst (ga_cons (ge_un u_negB (ge_int)) (ga_cons (ge_int) (ga_cons (ge_bl) (ga_cons (ge_bl) (ga_cons (ge_non) (ga_cons (ge_str) (ga_cons (ge_tup (ga_cons (ge_int) (ga_nil))) (ga_cons (ge_lst (ga_cons (ge_int) (ga_nil))) (ga_cons (ge_dic0) (ga_cons (ge_op o_pow (ge_int) (ge_int)) (ga_cons (ge_op o_subB (ge_var (pv 2)) (ge_int)) (ga_cons (ge_un u_negB (ge_var (pv 2))) (ga_nil)))))))))))))))
    (gs_one (gs_ret (ge_callF O_l_choice (hr.mono (by decide)) hg (takes_of rfl rfl rfl rfl) (by rfl) (c.glo 9) D_l_choice.kp (bd_l_choice_2 D_l_choice) ar_bd_l_choice_2 (gv_slot (pv 0) (gv_dat (ge_var (pv 3)) (gv_nil)))))))
theorem sc_l_spoilt : FnScope ["_law_rng_here", "_law_row", "_law_way", "_law_told_here", "_law_at", "_law_k", "$h"] ["_law_rng_here", "_law_row"] (defScope s_l_spoilt) := ⟨rfl, rfl, rfl, by decide +kernel, rfl, by decide +kernel, by decide +kernel⟩
def m_l_spoilt : MS :=
    mSeq (mAsg (mCallF F_l_draw 2 0 (fun as bs => [as.getD 0 (.dat .non), as.getD 1 (.dat .non)]) (vSlot 0 (vDat (mC (.int 7)) (vNil))) vNil) (gNm 2))
    (mSeq (mAsg (mIxL 6 (mVar 1) (mC (.int 0))) (gNm 3))
    (mIfS (cTruth (m2 eqD (mVar 2) (mC (.int 0)))) (mAsg (mCallF F_l_choice 2 0 (fun as bs => [as.getD 0 (.dat .non), as.getD 1 (.dat .non)]) (vSlot 0 (vDat (mLst (mCons (mTupT 6 (mCons (mVar 3) (mNil))) (mCons (mC .non) (mCons (mC (.str "1,2")) (mCons (mC (.int 5)) (mCons (mCall dictC (mCons (mLc (mIts range1 (mCons (mC (.int 3)) (mNil))) (cgN 5) (cYes) (mTup (mCons (mVar 5) (mCons (mVar 5) (mNil)))) [5]) (mNil))) (mCons (mC (.bl true)) (mNil)))))))) (vNil))) vNil) (gIxT 6 (mVar 1) (mC (.int 0)))) (mIfS (cAnd (cTruth (m2 ltD (mVar 2) (mC (.int 3)))) (cTruth (m2T 6 neND (mVar 3) (mLst (mNil))))) (mSeq (mAsg (mCallF F_l_draw 2 0 (fun as bs => [as.getD 0 (.dat .non), as.getD 1 (.dat .non)]) (vSlot 0 (vDat (mCallT 6 lenC (mCons (mVar 3) (mNil))) (vNil))) vNil) (gNm 4))
    (mAsg (mCallF F_l_odd_value 2 0 (fun as bs => [as.getD 0 (.dat .non), as.getD 1 (.dat .non)]) (vSlot 0 (vDat (m2 ixD (mCatRT 6 (mLst (mCons (mC (.int 0)) (mNil))) (mVar 3)) (mVar 4)) (vNil))) vNil) (gIxT 6 (mVar 3) (mVar 4)))) (mIfS (cTruth (m2 eqD (mVar 2) (mC (.int 3)))) (mAsg (mCallF F_l_choice 2 0 (fun as bs => [as.getD 0 (.dat .non), as.getD 1 (.dat .non)]) (vSlot 0 (vDat (mLst (mCons (mC (.int 0)) (mCons (mC (.int 5)) (mCons (mC (.int 7)) (mCons (mC (.int 8)) (mCons (mC (.int 24)) (mCons (m1 negBD (mC (.int 1))) (mCons (mC (.bl true)) (mCons (mC (.bl false)) (mCons (mC .non) (mCons (mC (.str "1")) (mCons (mTup (mCons (mC (.int 1)) (mNil))) (mCons (mC (.int 12)) (mCons (mC (.int 6)) (mCons (mC (.int 4)) (mCons (mLst (mCons (mC (.int 1)) (mNil))) (mNil))))))))))))))))) (vNil))) vNil) (gIxT 6 (mVar 1) (mC (.int 1)))) (mIfS (cTruth (m2 eqD (mVar 2) (mC (.int 4)))) (mAsg (mCallF F_l_choice 2 0 (fun as bs => [as.getD 0 (.dat .non), as.getD 1 (.dat .non)]) (vSlot 0 (vDat (mLst (mCons (m1 negBD (mC (.int 1))) (mCons (mC (.int 2001)) (mCons (mC (.bl true)) (mCons (mC (.bl false)) (mCons (mC .non) (mCons (mC (.str "0")) (mCons (m2 powD (mC (.int 10)) (mC (.int 18))) (mCons (mTup (mCons (mC (.int 0)) (mNil))) (mCons (mLst (mNil)) (mCons (mC (.int 0)) (mCons (mC (.int 2000)) (mNil))))))))))))) (vNil))) vNil) (gIxT 6 (mVar 1) (mC (.int 2)))) (mIfS (cAnd (cTruth (m2 eqD (mVar 2) (mC (.int 5)))) (cTruth (m1 (isiT [("NoneType", false), ("bool", true), ("int", true), ("str", false), ("list", false), ("tuple", false), ("dict", false)] [("Curve", false)]) (mIxL 6 (mVar 1) (mC (.int 2)))))) (mAsg (m2 subBD (mIxL 6 (mVar 1) (mC (.int 2))) (mC (.int 1))) (gIxT 6 (mVar 1) (mC (.int 2)))) (mNext)))))))
def F_l_spoilt : List FA → Ths → RT := runDefT 2 6 m_l_spoilt
theorem ok_l_spoilt {P : Program} {w : World} {K : PySem.W.Frag} {mg : Str → Option Value} {base : Heap} (c : Kn fa fn K mg) {fd : FuncData} (D : FunM K d_l_spoilt fd) : FnG P w K mg base (L2.CX P w) 4 (d_l_spoilt.ad.a K) fd ["_law_rng_here", "_law_row"] (spT ⟨He.ga K, none, []⟩ K F_l_spoilt) := by
  obtain ⟨fd_l_draw, D_l_draw⟩ := c.def_ 1 (d := d_l_draw)
  have O_l_draw := ok_l_draw (P := P) (w := w) (base := base) c D_l_draw
  have B2_l_draw := bs_bd_l_draw_2 D_l_draw
  obtain ⟨fd_l_choice, D_l_choice⟩ := c.def_ 2 (d := d_l_choice)
  have O_l_choice := ok_l_choice (P := P) (w := w) (base := base) c D_l_choice
  have B2_l_choice := bs_bd_l_choice_2 D_l_choice
  obtain ⟨fd_l_odd_value, D_l_odd_value⟩ := c.def_ 4 (d := d_l_odd_value)
  have O_l_odd_value := ok_l_odd_value (P := P) (w := w) (base := base) c D_l_odd_value
  have B2_l_odd_value := bs_bd_l_odd_value_2 D_l_odd_value
  exact fnT_of D sc_l_spoilt rfl rfl (by decide) fun cdv A outer s H E hr hg =>
    gs_cons (gs_set (i := 2) sc_l_spoilt.nd rfl (by first | exact .inl rfl | exact .inr rfl) (ge_callF O_l_draw (hr.mono (by decide)) hg (takes_of rfl rfl rfl rfl) (by rfl) (c.glo 8) D_l_draw.kp (bd_l_draw_2 D_l_draw) ar_bd_l_draw_2 (gv_slot (pv 0) (gv_dat (ge_int) (gv_nil)))))
    (gs_cons (gs_set (i := 3) sc_l_spoilt.nd rfl (by first | exact .inl rfl | exact .inr rfl) (ge_ixL (ge_var (pv 1)) (ge_int) (fun _ _ => rfl)))
    (gs_one (gs_if (gt_cmp (o_eq hr.units) (ge_var (pv 2)) (ge_int) (nomark _)) (gs_one (gs_asg (ge_callF O_l_choice (hr.mono (by decide)) hg (takes_of rfl rfl rfl rfl) (by rfl) (c.glo 9) D_l_choice.kp (bd_l_choice_2 D_l_choice) ar_bd_l_choice_2 (gv_slot (pv 0) (gv_dat (ge_lst (ga_cons (ge_tupT (by rfl) (c.free 23) (by decide +kernel) (ga_cons (ge_var (pv 3)) (ga_nil))) (ga_cons (ge_non) (ga_cons (ge_str) (ga_cons (ge_int) (ga_cons (ge_callTy (c_dict rfl) (by rfl) (c.free 22) (by decide +kernel) (ga_cons (ge_lc (own := [("_law_k", 5)]) rfl sc_l_spoilt.nd (gi_range1 (by rfl) (c.free 3) (ga_cons (ge_int) (ga_nil))) (blkOk_by (by rfl)) (tg_name 5) (fun _ _ _ _ _ => pg_name (i := 5) sc_l_spoilt.nd rfl (by first | exact .inl rfl | exact .inr rfl)) (fun _ _ _ _ _ => pts_of rfl) (fun _ _ _ _ _ => ge_tup (ga_cons (ge_var (pv 5)) (ga_cons (ge_var (pv 5)) (ga_nil))))) (ga_nil))) (ga_cons (ge_bl) (ga_nil)))))))) (gv_nil)))) (gg_ixT (ge_var (pv 1)) (ge_int)))) (gs_one (gs_if (PW.pt (gw_and (gt_cmp o_lt (ge_var (pv 2)) (ge_int) (nomark _)) (gw_and1 (gt_cmpT (o_neN hr.units) (ge_var (pv 3)) (ge_lst (ga_nil)) (nomark _))))) (gs_cons (gs_set (i := 4) sc_l_spoilt.nd rfl (by first | exact .inl rfl | exact .inr rfl) (ge_callF O_l_draw (hr.mono (by decide)) hg (takes_of rfl rfl rfl rfl) (by rfl) (c.glo 8) D_l_draw.kp (bd_l_draw_2 D_l_draw) ar_bd_l_draw_2 (gv_slot (pv 0) (gv_dat (ge_callBT c_len (by rfl) (c.free 0) (by decide +kernel) (ga_cons (ge_var (pv 3)) (ga_nil))) (gv_nil)))))
    (gs_one (gs_asg (ge_callF O_l_odd_value (hr.mono (by decide)) hg (takes_of rfl rfl rfl rfl) (by rfl) (c.glo 32) D_l_odd_value.kp (bd_l_odd_value_2 D_l_odd_value) ar_bd_l_odd_value_2 (gv_slot (pv 0) (gv_dat (ge_ix i_ix (ge_catRT (ge_lst (ga_cons (ge_int) (ga_nil))) (ge_var (pv 3))) (ge_var (pv 4)) (fun _ _ => rfl)) (gv_nil)))) (gg_ixT (ge_var (pv 3)) (ge_var (pv 4)))))) (gs_one (gs_if (gt_cmp (o_eq hr.units) (ge_var (pv 2)) (ge_int) (nomark _)) (gs_one (gs_asg (ge_callF O_l_choice (hr.mono (by decide)) hg (takes_of rfl rfl rfl rfl) (by rfl) (c.glo 9) D_l_choice.kp (bd_l_choice_2 D_l_choice) ar_bd_l_choice_2 (gv_slot (pv 0) (gv_dat (ge_lst (ga_cons (ge_int) (ga_cons (ge_int) (ga_cons (ge_int) (ga_cons (ge_int) (ga_cons (ge_int) (ga_cons (ge_un u_negB (ge_int)) (ga_cons (ge_bl) (ga_cons (ge_bl) (ga_cons (ge_non) (ga_cons (ge_str) (ga_cons (ge_tup (ga_cons (ge_int) (ga_nil))) (ga_cons (ge_int) (ga_cons (ge_int) (ga_cons (ge_int) (ga_cons (ge_lst (ga_cons (ge_int) (ga_nil))) (ga_nil))))))))))))))))) (gv_nil)))) (gg_ixT (ge_var (pv 1)) (ge_int)))) (gs_one (gs_if (gt_cmp (o_eq hr.units) (ge_var (pv 2)) (ge_int) (nomark _)) (gs_one (gs_asg (ge_callF O_l_choice (hr.mono (by decide)) hg (takes_of rfl rfl rfl rfl) (by rfl) (c.glo 9) D_l_choice.kp (bd_l_choice_2 D_l_choice) ar_bd_l_choice_2 (gv_slot (pv 0) (gv_dat (ge_lst (ga_cons (ge_un u_negB (ge_int)) (ga_cons (ge_int) (ga_cons (ge_bl) (ga_cons (ge_bl) (ga_cons (ge_non) (ga_cons (ge_str) (ga_cons (ge_op o_pow (ge_int) (ge_int)) (ga_cons (ge_tup (ga_cons (ge_int) (ga_nil))) (ga_cons (ge_lst (ga_nil)) (ga_cons (ge_int) (ga_cons (ge_int) (ga_nil))))))))))))) (gv_nil)))) (gg_ixT (ge_var (pv 1)) (ge_int)))) (gs_one (gs_if (PW.pt (gw_and (gt_cmp (o_eq hr.units) (ge_var (pv 2)) (ge_int) (nomark _)) (gw_and1 (gt_val (ge_isi (c.free 21) (by rfl) (ge_ixL (ge_var (pv 1)) (ge_int) (fun _ _ => rfl)) (pe_bltn (v := .ty "int") (by rfl) (c.free 5) (by decide +kernel) rfl) (.ty _) (aa1 (c.kit 30 (a := .b "NoneType") (b := (.b "int")) (r := false)) (aa1 (c.kit 29 (a := .b "bool") (b := (.b "int")) (r := true)) (aa1 (c.kit 28 (a := .b "int") (b := (.b "int")) (r := true)) (aa1 (c.kit 27 (a := .b "str") (b := (.b "int")) (r := false)) (aa1 (c.kit 26 (a := .b "list") (b := (.b "int")) (r := false)) (aa1 (c.kit 25 (a := .b "tuple") (b := (.b "int")) (r := false)) (aa1 (c.kit 24 (a := .b "dict") (b := (.b "int")) (r := false)) (aa0)))))))) (aa1 ⟨c.cls 18, c.kit 31 (a := .c "Curve") (b := (.b "int")) (r := false)⟩ (aa0))))))) (gs_one (gs_asg (ge_op o_subB (ge_ixL (ge_var (pv 1)) (ge_int) (fun _ _ => rfl)) (ge_int)) (gg_ixT (ge_var (pv 1)) (ge_int)))) (gs_nil))))))))))))
theorem sc_l_is_count : FnScope ["_law_thing"] ["_law_thing"] (defScope s_l_is_count) := ⟨rfl, rfl, rfl, by decide +kernel, rfl, by decide +kernel, by decide +kernel⟩
def m_l_is_count : MS :=
    mRet (mAnd (m1 (isiT [("NoneType", false), ("bool", true), ("int", true), ("str", false), ("list", false), ("tuple", false), ("dict", false)] [("Curve", false)]) (mVar 0)) (mAnd (mNot (m1 (isiT [("NoneType", false), ("bool", true), ("int", false), ("str", false), ("list", false), ("tuple", false), ("dict", false)] [("Curve", false)]) (mVar 0))) (mChain leD leD (mC (.int 0)) (mVar 0) (mC (.int 2000)))))
def F_l_is_count : List FA → RF := runDef 1 1 m_l_is_count
theorem ok_l_is_count {P : Program} {w : World} {K : PySem.W.Frag} {mg : Str → Option Value} {base : Heap} (c : Kn fa fn K mg) {fd : FuncData} (D : FunM K d_l_is_count fd) : FnG P w K mg base (L2.CX P w) 1 (d_l_is_count.ad.a K) fd ["_law_thing"] (spF ⟨He.ga K, none, []⟩ K F_l_is_count) := by
  exact fnG_of D sc_l_is_count rfl rfl fun cdv A outer s H E hr hg =>
    gs_one (gs_ret (ge_and (ge_isi (c.free 21) (by rfl) (ge_var (pv 0)) (pe_bltn (v := .ty "int") (by rfl) (c.free 5) (by decide +kernel) rfl) (.ty _) (aa1 (c.kit 30 (a := .b "NoneType") (b := (.b "int")) (r := false)) (aa1 (c.kit 29 (a := .b "bool") (b := (.b "int")) (r := true)) (aa1 (c.kit 28 (a := .b "int") (b := (.b "int")) (r := true)) (aa1 (c.kit 27 (a := .b "str") (b := (.b "int")) (r := false)) (aa1 (c.kit 26 (a := .b "list") (b := (.b "int")) (r := false)) (aa1 (c.kit 25 (a := .b "tuple") (b := (.b "int")) (r := false)) (aa1 (c.kit 24 (a := .b "dict") (b := (.b "int")) (r := false)) (aa0)))))))) (aa1 ⟨c.cls 18, c.kit 31 (a := .c "Curve") (b := (.b "int")) (r := false)⟩ (aa0))) (ge_and (ge_not (ge_isi (c.free 21) (by rfl) (ge_var (pv 0)) (pe_bltn (v := .ty "bool") (by rfl) (c.free 44) (by decide +kernel) rfl) (.ty _) (aa1 (c.kit 42 (a := .b "NoneType") (b := (.b "bool")) (r := false)) (aa1 (c.kit 41 (a := .b "bool") (b := (.b "bool")) (r := true)) (aa1 (c.kit 40 (a := .b "int") (b := (.b "bool")) (r := false)) (aa1 (c.kit 39 (a := .b "str") (b := (.b "bool")) (r := false)) (aa1 (c.kit 38 (a := .b "list") (b := (.b "bool")) (r := false)) (aa1 (c.kit 37 (a := .b "tuple") (b := (.b "bool")) (r := false)) (aa1 (c.kit 36 (a := .b "dict") (b := (.b "bool")) (r := false)) (aa0)))))))) (aa1 ⟨c.cls 18, c.kit 43 (a := .c "Curve") (b := (.b "bool")) (r := false)⟩ (aa0)))) (ge_one (ge_chain o_le o_le (ge_int) (ge_var (pv 0)) (ge_int) (hbl := by intro x y z h; cases x <;> cases y <;> cases h <;> exact ⟨_, rfl⟩))))))
theorem sc_l_due : FnScope ["_law_row", "_law_before", "_law_told_here", "_law_cycle", "_law_more", "_law_at", "_law_one", "_law_k"] ["_law_row"] (defScope s_l_due) := ⟨rfl, rfl, rfl, by decide +kernel, rfl, by decide +kernel, by decide +kernel⟩
def m_l_due : MS :=
    mSeq (mAsg (mVar 0) (gTpL 3 (gCs (gNm 2) (gCs (gNm 3) (gCs (gNm 4) (gNl))))))
    (mSeq (mIfS (cNot (cTruth (m1 (isiT [("NoneType", false), ("bool", false), ("int", false), ("str", false), ("list", true), ("tuple", false), ("dict", false)] [("Curve", false)]) (mVar 2)))) (mRet (mTup (mCons (mC (.str "list")) (mCons (mC (.int 0)) (mNil))))) (mNext))
    (mSeq (mIfS (cOr (cTruth (m2 ltD (mCall lenC (mCons (mVar 2) (mNil))) (mC (.int 1)))) (cTruth (m2 gtD (mCall lenC (mCons (mVar 2) (mNil))) (mC (.int 24))))) (mRet (mTup (mCons (mC (.str "count")) (mCons (mC (.int 0)) (mNil))))) (mNext))
    (mSeq (mAsg (mC (.int 0)) (gNm 1))
    (mSeq (mFor (mIts enumD (mCons (mVar 2) (mNil))) (gTpN 2 (gCs (gNm 5) (gCs (gNm 6) (gNl)))) (mSeq (mIfS (cOr (cNot (cTruth (mCallF F_l_is_count 1 0 (fun as bs => [as.getD 0 (.dat .non)]) (vDat (mVar 6) (vNil)) vNil))) (cTruth (m2 ltD (mVar 6) (mVar 1)))) (mRet (mTup (mCons (mC (.str "value")) (mCons (mVar 5) (mNil))))) (mNext))
    (mAsg (mVar 6) (gNm 1))))
    (mSeq (mIfS (cOr (cNot (cTruth (m1 (isiT [("NoneType", false), ("bool", true), ("int", true), ("str", false), ("list", false), ("tuple", false), ("dict", false)] [("Curve", false)]) (mVar 3)))) (cOr (cTruth (m1 (isiT [("NoneType", false), ("bool", true), ("int", false), ("str", false), ("list", false), ("tuple", false), ("dict", false)] [("Curve", false)]) (mVar 3))) (cTruth (m2 eqD (mLc (mItems (mLst (mCons (mC (.int 1)) (mCons (mC (.int 2)) (mCons (mC (.int 3)) (mCons (mC (.int 4)) (mCons (mC (.int 6)) (mCons (mC (.int 12)) (mNil))))))))) (cgN 7) (cTruth (m2 eqD (mVar 7) (mVar 3))) (mVar 7) [7]) (mLst (mNil)))))) (mRet (mTup (mCons (mC (.str "period")) (mCons (mC (.int 0)) (mNil))))) (mNext))
    (mSeq (mIfS (cTruth (m2 gtD (mVar 3) (mCall lenC (mCons (mVar 2) (mNil))))) (mRet (mTup (mCons (mC (.str "period")) (mCons (mC (.int 0)) (mNil))))) (mNext))
    (mSeq (mIfS (cOr (cNot (cTruth (mCallF F_l_is_count 1 0 (fun as bs => [as.getD 0 (.dat .non)]) (vDat (mVar 4) (vNil)) vNil))) (cTruth (m2 ltD (m2 addD (m2 ixD (m2 addD (mLst (mCons (mC (.int 0)) (mNil))) (mVar 2)) (m2 subD (m2 addD (mCall lenC (mCons (mVar 2) (mNil))) (mC (.int 1))) (mVar 3))) (mVar 4)) (m2 ixD (mVar 2) (m1 negD (mC (.int 1))))))) (mRet (mTup (mCons (mC (.str "gain")) (mCons (mC (.int 0)) (mNil))))) (mNext))
    (mRet (mC .non)))))))))
def F_l_due : List FA → RF := runDef 1 8 m_l_due
theorem ok_l_due {P : Program} {w : World} {K : PySem.W.Frag} {mg : Str → Option Value} {base : Heap} (c : Kn fa fn K mg) {fd : FuncData} (D : FunM K d_l_due fd) : FnG P w K mg base (L2.CX P w) 2 (d_l_due.ad.a K) fd ["_law_row"] (spF ⟨He.ga K, none, []⟩ K F_l_due) := by
  obtain ⟨fd_l_is_count, D_l_is_count⟩ := c.def_ 6 (d := d_l_is_count)
  have O_l_is_count := ok_l_is_count (P := P) (w := w) (base := base) c D_l_is_count
  have B1_l_is_count := bs_bd_l_is_count_1 D_l_is_count
  exact fnG_of D sc_l_due rfl rfl fun cdv A outer s H E hr hg =>
    gs_cons (gs_asg (ge_var (pv 0)) (gg_tupL rfl (ggs_cons (gg_name (pg_name (i := 2) sc_l_due.nd rfl (by first | exact .inl rfl | exact .inr rfl))) (ggs_cons (gg_name (pg_name (i := 3) sc_l_due.nd rfl (by first | exact .inl rfl | exact .inr rfl))) (ggs_cons (gg_name (pg_name (i := 4) sc_l_due.nd rfl (by first | exact .inl rfl | exact .inr rfl))) (ggs_nil))))))
    (gs_cons (gs_if (gt_not (gt_val (ge_isi (c.free 21) (by rfl) (ge_var (pv 2)) (pe_bltn (v := .ty "list") (by rfl) (c.free 20) (by decide +kernel) rfl) (.ty _) (aa1 (c.kit 17 (a := .b "NoneType") (b := (.b "list")) (r := false)) (aa1 (c.kit 16 (a := .b "bool") (b := (.b "list")) (r := false)) (aa1 (c.kit 15 (a := .b "int") (b := (.b "list")) (r := false)) (aa1 (c.kit 14 (a := .b "str") (b := (.b "list")) (r := false)) (aa1 (c.kit 13 (a := .b "list") (b := (.b "list")) (r := true)) (aa1 (c.kit 12 (a := .b "tuple") (b := (.b "list")) (r := false)) (aa1 (c.kit 11 (a := .b "dict") (b := (.b "list")) (r := false)) (aa0)))))))) (aa1 ⟨c.cls 18, c.kit 19 (a := .c "Curve") (b := (.b "list")) (r := false)⟩ (aa0))))) (gs_one (gs_ret (ge_tup (ga_cons (ge_str) (ga_cons (ge_int) (ga_nil)))))) (gs_nil))
    (gs_cons (gs_if (PW.pt (gw_or (gt_cmp o_lt (ge_callB c_len (by rfl) (c.free 0) (by decide +kernel) (ga_cons (ge_var (pv 2)) (ga_nil))) (ge_int) (nomark _)) (gw_or1 (gt_cmp o_gt (ge_callB c_len (by rfl) (c.free 0) (by decide +kernel) (ga_cons (ge_var (pv 2)) (ga_nil))) (ge_int) (nomark _))))) (gs_one (gs_ret (ge_tup (ga_cons (ge_str) (ga_cons (ge_int) (ga_nil)))))) (gs_nil))
    (gs_cons (gs_set (i := 1) sc_l_due.nd rfl (by first | exact .inl rfl | exact .inr rfl) (ge_int))
    (gs_cons (gs_for (passes_of rfl) rfl (gi_enum (by rfl) (c.free 35) (ga_cons (ge_var (pv 2)) (ga_nil))) (gg_tupN rfl (ggs_cons (gg_name (pg_name (i := 5) sc_l_due.nd rfl (by first | exact .inl rfl | exact .inr rfl))) (ggs_cons (gg_name (pg_name (i := 6) sc_l_due.nd rfl (by first | exact .inl rfl | exact .inr rfl))) (ggs_nil)))) (gs_cons (gs_if (PW.pt (gw_or (gt_not (gt_val (ge_callF O_l_is_count (hr.mono (by decide)) hg (takes_of rfl rfl rfl rfl) (by rfl) (c.glo 45) D_l_is_count.kp (bd_l_is_count_1 D_l_is_count) ar_bd_l_is_count_1 (gv_dat (ge_var (pv 6)) (gv_nil))))) (gw_or1 (gt_cmp o_lt (ge_var (pv 6)) (ge_var (pv 1)) (nomark _))))) (gs_one (gs_ret (ge_tup (ga_cons (ge_str) (ga_cons (ge_var (pv 5)) (ga_nil)))))) (gs_nil))
    (gs_one (gs_set (i := 1) sc_l_due.nd rfl (by first | exact .inl rfl | exact .inr rfl) (ge_var (pv 6))))))
    (gs_cons (gs_if (PW.pt (gw_or (gt_not (gt_val (ge_isi (c.free 21) (by rfl) (ge_var (pv 3)) (pe_bltn (v := .ty "int") (by rfl) (c.free 5) (by decide +kernel) rfl) (.ty _) (aa1 (c.kit 30 (a := .b "NoneType") (b := (.b "int")) (r := false)) (aa1 (c.kit 29 (a := .b "bool") (b := (.b "int")) (r := true)) (aa1 (c.kit 28 (a := .b "int") (b := (.b "int")) (r := true)) (aa1 (c.kit 27 (a := .b "str") (b := (.b "int")) (r := false)) (aa1 (c.kit 26 (a := .b "list") (b := (.b "int")) (r := false)) (aa1 (c.kit 25 (a := .b "tuple") (b := (.b "int")) (r := false)) (aa1 (c.kit 24 (a := .b "dict") (b := (.b "int")) (r := false)) (aa0)))))))) (aa1 ⟨c.cls 18, c.kit 31 (a := .c "Curve") (b := (.b "int")) (r := false)⟩ (aa0))))) (gw_or (gt_val (ge_isi (c.free 21) (by rfl) (ge_var (pv 3)) (pe_bltn (v := .ty "bool") (by rfl) (c.free 44) (by decide +kernel) rfl) (.ty _) (aa1 (c.kit 42 (a := .b "NoneType") (b := (.b "bool")) (r := false)) (aa1 (c.kit 41 (a := .b "bool") (b := (.b "bool")) (r := true)) (aa1 (c.kit 40 (a := .b "int") (b := (.b "bool")) (r := false)) (aa1 (c.kit 39 (a := .b "str") (b := (.b "bool")) (r := false)) (aa1 (c.kit 38 (a := .b "list") (b := (.b "bool")) (r := false)) (aa1 (c.kit 37 (a := .b "tuple") (b := (.b "bool")) (r := false)) (aa1 (c.kit 36 (a := .b "dict") (b := (.b "bool")) (r := false)) (aa0)))))))) (aa1 ⟨c.cls 18, c.kit 43 (a := .c "Curve") (b := (.b "bool")) (r := false)⟩ (aa0)))) (gw_or1 (gt_cmp (o_eq hr.units) (ge_lc (own := [("_law_k", 7)]) rfl sc_l_due.nd (gi_seq (ge_lst (ga_cons (ge_int) (ga_cons (ge_int) (ga_cons (ge_int) (ga_cons (ge_int) (ga_cons (ge_int) (ga_cons (ge_int) (ga_nil))))))))) (blkOk_by (by rfl)) (tg_name 7) (fun _ _ _ _ _ => pg_name (i := 7) sc_l_due.nd rfl (by first | exact .inl rfl | exact .inr rfl)) (fun _ _ _ _ _ => pts_one (gt_cmp (o_eq hr.units) (ge_var (pv 7)) (ge_var (pv 3)) (nomark _))) (fun _ _ _ _ _ => ge_var (pv 7))) (ge_lst (ga_nil)) (nomark _)))))) (gs_one (gs_ret (ge_tup (ga_cons (ge_str) (ga_cons (ge_int) (ga_nil)))))) (gs_nil))
    (gs_cons (gs_if (gt_cmp o_gt (ge_var (pv 3)) (ge_callB c_len (by rfl) (c.free 0) (by decide +kernel) (ga_cons (ge_var (pv 2)) (ga_nil))) (nomark _)) (gs_one (gs_ret (ge_tup (ga_cons (ge_str) (ga_cons (ge_int) (ga_nil)))))) (gs_nil))
    (gs_cons (gs_if (PW.pt (gw_or (gt_not (gt_val (ge_callF O_l_is_count (hr.mono (by decide)) hg (takes_of rfl rfl rfl rfl) (by rfl) (c.glo 45) D_l_is_count.kp (bd_l_is_count_1 D_l_is_count) ar_bd_l_is_count_1 (gv_dat (ge_var (pv 4)) (gv_nil))))) (gw_or1 (gt_cmp o_lt (ge_op o_add (ge_ix i_ix (ge_op o_add (ge_lst (ga_cons (ge_int) (ga_nil))) (ge_var (pv 2))) (ge_op o_sub (ge_op o_add (ge_callB c_len (by rfl) (c.free 0) (by decide +kernel) (ga_cons (ge_var (pv 2)) (ga_nil))) (ge_int)) (ge_var (pv 3))) (fun _ _ => rfl)) (ge_var (pv 4))) (ge_ix i_ix (ge_var (pv 2)) (ge_un u_neg (ge_int)) (fun _ _ => rfl)) (nomark _))))) (gs_one (gs_ret (ge_tup (ga_cons (ge_str) (ga_cons (ge_int) (ga_nil)))))) (gs_nil))
    (gs_one (gs_ret (ge_non))))))))))
theorem sc_InvalidCurve_init0 : FnScope ["self", "problem", "position"] ["self", "problem", "position"] (defScope s_InvalidCurve_init0) := ⟨rfl, rfl, rfl, by decide +kernel, rfl, by decide +kernel, by decide +kernel⟩
def mf_InvalidCurve_init0 : ME := mFStr [mC (.str "invalid curve: "), m1 fmtR (mVar 1), mC (.str ", "), m1 fmtR (mVar 2)]
def X_InvalidCurve_init0 : List Dat → Option (List (Str × Dat)) := fxOf 2 mf_InvalidCurve_init0 [("problem", 1), ("position", 2)]
theorem ok_InvalidCurve_init0 {P : Program} {w : World} {K : PySem.W.Frag} {mg : Str → Option Value} {base : Heap} (c : Kn fa fn K mg) {fd : FuncData} (D : FunM K d_InvalidCurve_init0 fd) : FnG P w K mg base (L2.CX P w) 1 (d_InvalidCurve_init0.ad.a K) fd ["self", "problem", "position"] (spX ⟨He.ga K, none, []⟩ K (He.ga K "InvalidCurve") X_InvalidCurve_init0) := by
  exact fnX_of D sc_InvalidCurve_init0 rfl (c.oex 47) (by simp) (by decide) (aa1 ⟨c.nof 50, by decide, by decide⟩ (aa1 ⟨c.nof 51, by decide, by decide⟩ aa0)) fun cdv A outer s H E hr hg =>
    pss_cons (ps_expr (pe_binit (by rfl) (c.glo 49) (c.xbs 48).1 (c.xbs 48).2.1 (c.xbs 48).2.2 (pa_cons (pv 0) (pa_cons (ge_fstr (pj_cons (ge_str) (pj_cons (ge_fmtR hg hr.units (ge_var (pv 1))) (pj_cons (ge_str) (pj_cons (ge_fmtR hg hr.units (ge_var (pv 2))) (pj_nil)))))) pa_nil)))) (pss_cons (ps_ost (pv 0) (pv 1)) (pss_one (ps_ost (pv 0) (pv 2))))
theorem sc_is_integer : FnScope ["value"] ["value"] (defScope s_is_integer) := ⟨rfl, rfl, rfl, by decide +kernel, rfl, by decide +kernel, by decide +kernel⟩
def m_is_integer : MS :=
    mRet (mAnd (m1 (isiT [("NoneType", false), ("bool", true), ("int", true), ("str", false), ("list", false), ("tuple", false), ("dict", false)] [("Curve", false)]) (mVar 0)) (mNot (m1 (isiT [("NoneType", false), ("bool", true), ("int", false), ("str", false), ("list", false), ("tuple", false), ("dict", false)] [("Curve", false)]) (mVar 0))))
def F_is_integer : List FA → RF := runDef 1 1 m_is_integer
theorem ok_is_integer {P : Program} {w : World} {K : PySem.W.Frag} {mg : Str → Option Value} {base : Heap} (c : Kn fa fn K mg) {fd : FuncData} (D : FunM K d_is_integer fd) : FnG P w K mg base (L2.CX P w) 1 (d_is_integer.ad.a K) fd ["value"] (spF ⟨He.ga K, none, []⟩ K F_is_integer) := by
  exact fnG_of D sc_is_integer rfl rfl fun cdv A outer s H E hr hg =>
    gs_one (gs_ret (ge_and (ge_isi (c.free 21) (by rfl) (ge_var (pv 0)) (pe_bltn (v := .ty "int") (by rfl) (c.free 5) (by decide +kernel) rfl) (.ty _) (aa1 (c.kit 30 (a := .b "NoneType") (b := (.b "int")) (r := false)) (aa1 (c.kit 29 (a := .b "bool") (b := (.b "int")) (r := true)) (aa1 (c.kit 28 (a := .b "int") (b := (.b "int")) (r := true)) (aa1 (c.kit 27 (a := .b "str") (b := (.b "int")) (r := false)) (aa1 (c.kit 26 (a := .b "list") (b := (.b "int")) (r := false)) (aa1 (c.kit 25 (a := .b "tuple") (b := (.b "int")) (r := false)) (aa1 (c.kit 24 (a := .b "dict") (b := (.b "int")) (r := false)) (aa0)))))))) (aa1 ⟨c.cls 18, c.kit 31 (a := .c "Curve") (b := (.b "int")) (r := false)⟩ (aa0))) (ge_one (ge_not (ge_isi (c.free 21) (by rfl) (ge_var (pv 0)) (pe_bltn (v := .ty "bool") (by rfl) (c.free 44) (by decide +kernel) rfl) (.ty _) (aa1 (c.kit 42 (a := .b "NoneType") (b := (.b "bool")) (r := false)) (aa1 (c.kit 41 (a := .b "bool") (b := (.b "bool")) (r := true)) (aa1 (c.kit 40 (a := .b "int") (b := (.b "bool")) (r := false)) (aa1 (c.kit 39 (a := .b "str") (b := (.b "bool")) (r := false)) (aa1 (c.kit 38 (a := .b "list") (b := (.b "bool")) (r := false)) (aa1 (c.kit 37 (a := .b "tuple") (b := (.b "bool")) (r := false)) (aa1 (c.kit 36 (a := .b "dict") (b := (.b "bool")) (r := false)) (aa0)))))))) (aa1 ⟨c.cls 18, c.kit 43 (a := .c "Curve") (b := (.b "bool")) (r := false)⟩ (aa0)))))))
theorem sc_is_count : FnScope ["value", "most"] ["value", "most"] (defScope s_is_count) := ⟨rfl, rfl, rfl, by decide +kernel, rfl, by decide +kernel, by decide +kernel⟩
def m_is_count : MS :=
    mRet (mAnd (mCallF F_is_integer 1 0 (fun as bs => [as.getD 0 (.dat .non)]) (vDat (mVar 0) (vNil)) vNil) (mAnd (m2 geD (mVar 0) (mC (.int 0))) (mOr (m2 isND (mVar 1) (mC .non)) (m2 leD (mVar 0) (mVar 1)))))
def F_is_count : List FA → RF := runDef 2 2 m_is_count
theorem ok_is_count {P : Program} {w : World} {K : PySem.W.Frag} {mg : Str → Option Value} {base : Heap} (c : Kn fa fn K mg) {fd : FuncData} (D : FunM K d_is_count fd) : FnG P w K mg base (L2.CX P w) 2 (d_is_count.ad.a K) fd ["value", "most"] (spF ⟨He.ga K, none, []⟩ K F_is_count) := by
  obtain ⟨fd_is_integer, D_is_integer⟩ := c.def_ 9 (d := d_is_integer)
  have O_is_integer := ok_is_integer (P := P) (w := w) (base := base) c D_is_integer
  have B1_is_integer := bs_bd_is_integer_1 D_is_integer
  exact fnG_of D sc_is_count rfl rfl fun cdv A outer s H E hr hg =>
    gs_one (gs_ret (ge_and (ge_callF O_is_integer (hr.mono (by decide)) hg (takes_of rfl rfl rfl rfl) (by rfl) (c.glo 55) D_is_integer.kp (bd_is_integer_1 D_is_integer) ar_bd_is_integer_1 (gv_dat (ge_var (pv 0)) (gv_nil))) (ge_and (ge_cmp o_ge (ge_var (pv 0)) (ge_int) (nomark _)) (ge_one (ge_or (ge_cmp o_isN (ge_var (pv 1)) (ge_non) (nomark _)) (ge_one (ge_cmp o_le (ge_var (pv 0)) (ge_var (pv 1)) (nomark _))))))))
theorem sc_check_values : FnScope ["values", "position", "value"] ["values"] (defScope s_check_values) := ⟨rfl, rfl, rfl, by decide +kernel, rfl, by decide +kernel, by decide +kernel⟩
def m_check_values : MS :=
    mSeq (mIfS (cNot (cTruth (m1 (isiT [("NoneType", false), ("bool", false), ("int", false), ("str", false), ("list", true), ("tuple", false), ("dict", false)] [("Curve", false)]) (mVar 0)))) (mRaise "InvalidCurve" X_InvalidCurve_init0 2 (vDat (mC (.str "list")) (vDat (mC (.int 0)) (vNil)))) (mNext))
    (mSeq (mIfS (cNot (cTruth (mChain leD leD (mC (.int 1)) (mCall lenC (mCons (mVar 0) (mNil))) (mC (.int 24))))) (mRaise "InvalidCurve" X_InvalidCurve_init0 2 (vDat (mC (.str "count")) (vDat (mC (.int 0)) (vNil)))) (mNext))
    (mFor (mIts enumD (mCons (mVar 0) (mNil))) (gTpN 2 (gCs (gNm 1) (gCs (gNm 2) (gNl)))) (mIfS (cOr (cNot (cTruth (mCallF F_is_count 2 0 (fun as bs => [as.getD 0 (.dat .non), as.getD 1 (.dat .non)]) (vDat (mVar 2) (vDat (mC (.int 2000)) (vNil))) vNil))) (cAnd (cTruth (m2 gtD (mVar 1) (mC (.int 0)))) (cTruth (m2 ltD (mVar 2) (m2 ixD (mVar 0) (m2 subD (mVar 1) (mC (.int 1)))))))) (mRaise "InvalidCurve" X_InvalidCurve_init0 2 (vDat (mC (.str "value")) (vDat (mVar 1) (vNil)))) (mNext))))
def F_check_values : List FA → RF := runDef 1 3 m_check_values
theorem ok_check_values {P : Program} {w : World} {K : PySem.W.Frag} {mg : Str → Option Value} {base : Heap} (c : Kn fa fn K mg) {fd : FuncData} (D : FunM K d_check_values fd) : FnG P w K mg base (L2.CX P w) 3 (d_check_values.ad.a K) fd ["values"] (spF ⟨He.ga K, none, []⟩ K F_check_values) := by
  obtain ⟨fd_InvalidCurve_init0, D_InvalidCurve_init0⟩ := c.def_ 8 (d := d_InvalidCurve_init0)
  have O_InvalidCurve_init0 := ok_InvalidCurve_init0 (P := P) (w := w) (base := base) c D_InvalidCurve_init0
  have B3_InvalidCurve_init0 := bs_bd_InvalidCurve_init0_3 D_InvalidCurve_init0
  obtain ⟨fd_is_count, D_is_count⟩ := c.def_ 10 (d := d_is_count)
  have O_is_count := ok_is_count (P := P) (w := w) (base := base) c D_is_count
  exact fnG_of D sc_check_values rfl rfl fun cdv A outer s H E hr hg =>
    gs_cons (gs_if (gt_not (gt_val (ge_isi (c.free 21) (by rfl) (ge_var (pv 0)) (pe_bltn (v := .ty "list") (by rfl) (c.free 20) (by decide +kernel) rfl) (.ty _) (aa1 (c.kit 17 (a := .b "NoneType") (b := (.b "list")) (r := false)) (aa1 (c.kit 16 (a := .b "bool") (b := (.b "list")) (r := false)) (aa1 (c.kit 15 (a := .b "int") (b := (.b "list")) (r := false)) (aa1 (c.kit 14 (a := .b "str") (b := (.b "list")) (r := false)) (aa1 (c.kit 13 (a := .b "list") (b := (.b "list")) (r := true)) (aa1 (c.kit 12 (a := .b "tuple") (b := (.b "list")) (r := false)) (aa1 (c.kit 11 (a := .b "dict") (b := (.b "list")) (r := false)) (aa0)))))))) (aa1 ⟨c.cls 18, c.kit 19 (a := .c "Curve") (b := (.b "list")) (r := false)⟩ (aa0))))) (gs_one (gs_raise rfl (c.oex 47) (c.xin 52).1 (c.xin 52).2 O_InvalidCurve_init0 (hr.mono (by decide)) hg (takes_of rfl rfl rfl rfl) (by rfl) (c.glo 53) B3_InvalidCurve_init0 (by decide) (gv_dat (ge_str) (gv_dat (ge_int) (gv_nil))))) (gs_nil))
    (gs_cons (gs_if (gt_not (gt_chain o_le o_le (ge_int) (ge_callB c_len (by rfl) (c.free 0) (by decide +kernel) (ga_cons (ge_var (pv 0)) (ga_nil))) (ge_gint (by rfl) (c.int 54)) (hbl := by intro x y z h; cases x <;> cases y <;> cases h <;> exact ⟨_, rfl⟩))) (gs_one (gs_raise rfl (c.oex 47) (c.xin 52).1 (c.xin 52).2 O_InvalidCurve_init0 (hr.mono (by decide)) hg (takes_of rfl rfl rfl rfl) (by rfl) (c.glo 53) B3_InvalidCurve_init0 (by decide) (gv_dat (ge_str) (gv_dat (ge_int) (gv_nil))))) (gs_nil))
    (gs_one (gs_for (passes_of rfl) rfl (gi_enum (by rfl) (c.free 35) (ga_cons (ge_var (pv 0)) (ga_nil))) (gg_tupN rfl (ggs_cons (gg_name (pg_name (i := 1) sc_check_values.nd rfl (by first | exact .inl rfl | exact .inr rfl))) (ggs_cons (gg_name (pg_name (i := 2) sc_check_values.nd rfl (by first | exact .inl rfl | exact .inr rfl))) (ggs_nil)))) (gs_one (gs_if (PW.pt (gw_or (gt_not (gt_val (ge_callF O_is_count (hr.mono (by decide)) hg (takes_of rfl rfl rfl rfl) (by rfl) (c.glo 57) D_is_count.kp (bd_is_count_2 D_is_count) ar_bd_is_count_2 (gv_dat (ge_var (pv 2)) (gv_dat (ge_gint (by rfl) (c.int 56)) (gv_nil)))))) (gw_or1 (PW.pt (gw_and (gt_cmp o_gt (ge_var (pv 1)) (ge_int) (nomark _)) (gw_and1 (gt_cmp o_lt (ge_var (pv 2)) (ge_ix i_ix (ge_var (pv 0)) (ge_op o_sub (ge_var (pv 1)) (ge_int)) (fun _ _ => rfl)) (nomark _)))))))) (gs_one (gs_raise rfl (c.oex 47) (c.xin 52).1 (c.xin 52).2 O_InvalidCurve_init0 (hr.mono (by decide)) hg (takes_of rfl rfl rfl rfl) (by rfl) (c.glo 53) B3_InvalidCurve_init0 (by decide) (gv_dat (ge_str) (gv_dat (ge_var (pv 1)) (gv_nil))))) (gs_nil))))))
theorem sc_value_at : FnScope ["values", "period", "gain", "length", "times"] ["values", "period", "gain", "length"] (defScope s_value_at) := ⟨rfl, rfl, rfl, by decide +kernel, rfl, by decide +kernel, by decide +kernel⟩
def m_value_at : MS :=
    mSeq (mIfS (cTruth (m2 eqD (mVar 3) (mC (.int 0)))) (mRet (mC (.int 0))) (mNext))
    (mSeq (mIfS (cTruth (m2 leD (mVar 3) (mCall lenC (mCons (mVar 0) (mNil))))) (mRet (m2 ixD (mVar 0) (m2 subD (mVar 3) (mC (.int 1))))) (mNext))
    (mSeq (mAsg (m2 fdivD (m2 subD (m2 addD (m2 subD (mVar 3) (mCall lenC (mCons (mVar 0) (mNil)))) (mVar 1)) (mC (.int 1))) (mVar 1)) (gNm 4))
    (mRet (m2 addD (m2 ixD (mVar 0) (m2 subD (m2 subD (mVar 3) (m2 mulD (mVar 4) (mVar 1))) (mC (.int 1)))) (m2 mulD (mVar 4) (mVar 2))))))
def F_value_at : List FA → RF := runDef 4 5 m_value_at
theorem ok_value_at {P : Program} {w : World} {K : PySem.W.Frag} {mg : Str → Option Value} {base : Heap} (c : Kn fa fn K mg) {fd : FuncData} (D : FunM K d_value_at fd) : FnG P w K mg base (L2.CX P w) 1 (d_value_at.ad.a K) fd ["values", "period", "gain", "length"] (spF ⟨He.ga K, none, []⟩ K F_value_at) := by
  exact fnG_of D sc_value_at rfl rfl fun cdv A outer s H E hr hg =>
    gs_cons (gs_if (gt_cmp (o_eq hr.units) (ge_var (pv 3)) (ge_int) (nomark _)) (gs_one (gs_ret (ge_int))) (gs_nil))
    (gs_cons (gs_if (gt_cmp o_le (ge_var (pv 3)) (ge_callB c_len (by rfl) (c.free 0) (by decide +kernel) (ga_cons (ge_var (pv 0)) (ga_nil))) (nomark _)) (gs_one (gs_ret (ge_ix i_ix (ge_var (pv 0)) (ge_op o_sub (ge_var (pv 3)) (ge_int)) (fun _ _ => rfl)))) (gs_nil))
    (gs_cons (gs_set (i := 4) sc_value_at.nd rfl (by first | exact .inl rfl | exact .inr rfl) (ge_op o_fdiv (ge_op o_sub (ge_op o_add (ge_op o_sub (ge_var (pv 3)) (ge_callB c_len (by rfl) (c.free 0) (by decide +kernel) (ga_cons (ge_var (pv 0)) (ga_nil)))) (ge_var (pv 1))) (ge_int)) (ge_var (pv 1))))
    (gs_one (gs_ret (ge_op o_add (ge_ix i_ix (ge_var (pv 0)) (ge_op o_sub (ge_op o_sub (ge_var (pv 3)) (ge_op o_mul (ge_var (pv 4)) (ge_var (pv 1)))) (ge_int)) (fun _ _ => rfl)) (ge_op o_mul (ge_var (pv 4)) (ge_var (pv 2))))))))
theorem sc_check_growth : FnScope ["values", "period", "gain"] ["values", "period", "gain"] (defScope s_check_growth) := ⟨rfl, rfl, rfl, by decide +kernel, rfl, by decide +kernel, by decide +kernel⟩
def m_check_growth : MS :=
    mSeq (mIfS (cOr (cNot (cTruth (mCallF F_is_integer 1 0 (fun as bs => [as.getD 0 (.dat .non)]) (vDat (mVar 1) (vNil)) vNil))) (cOr (cTruth (m2 notInXD (mVar 1) (mC (.tup [.int 1, .int 2, .int 3, .int 4, .int 6, .int 12])))) (cTruth (m2 gtD (mVar 1) (mCall lenC (mCons (mVar 0) (mNil))))))) (mRaise "InvalidCurve" X_InvalidCurve_init0 2 (vDat (mC (.str "period")) (vDat (mC (.int 0)) (vNil)))) (mNext))
    (mIfS (cOr (cNot (cTruth (mCallF F_is_count 2 0 (fun as bs => [as.getD 0 (.dat .non), as.getD 1 (.dat .non)]) (vDat (mVar 2) (vDat (mC (.int 2000)) (vNil))) vNil))) (cTruth (m2 ltD (mCallF F_value_at 4 0 (fun as bs => [as.getD 0 (.dat .non), as.getD 1 (.dat .non), as.getD 2 (.dat .non), as.getD 3 (.dat .non)]) (vDat (mVar 0) (vDat (mVar 1) (vDat (mVar 2) (vDat (m2 addD (mCall lenC (mCons (mVar 0) (mNil))) (mC (.int 1))) (vNil))))) vNil) (m2 ixD (mVar 0) (m1 negD (mC (.int 1))))))) (mRaise "InvalidCurve" X_InvalidCurve_init0 2 (vDat (mC (.str "gain")) (vDat (mC (.int 0)) (vNil)))) (mNext))
def F_check_growth : List FA → RF := runDef 3 3 m_check_growth
theorem ok_check_growth {P : Program} {w : World} {K : PySem.W.Frag} {mg : Str → Option Value} {base : Heap} (c : Kn fa fn K mg) {fd : FuncData} (D : FunM K d_check_growth fd) : FnG P w K mg base (L2.CX P w) 3 (d_check_growth.ad.a K) fd ["values", "period", "gain"] (spF ⟨He.ga K, none, []⟩ K F_check_growth) := by
  obtain ⟨fd_is_integer, D_is_integer⟩ := c.def_ 9 (d := d_is_integer)
  have O_is_integer := ok_is_integer (P := P) (w := w) (base := base) c D_is_integer
  have B1_is_integer := bs_bd_is_integer_1 D_is_integer
  obtain ⟨fd_InvalidCurve_init0, D_InvalidCurve_init0⟩ := c.def_ 8 (d := d_InvalidCurve_init0)
  have O_InvalidCurve_init0 := ok_InvalidCurve_init0 (P := P) (w := w) (base := base) c D_InvalidCurve_init0
  have B3_InvalidCurve_init0 := bs_bd_InvalidCurve_init0_3 D_InvalidCurve_init0
  obtain ⟨fd_is_count, D_is_count⟩ := c.def_ 10 (d := d_is_count)
  have O_is_count := ok_is_count (P := P) (w := w) (base := base) c D_is_count
  obtain ⟨fd_value_at, D_value_at⟩ := c.def_ 12 (d := d_value_at)
  have O_value_at := ok_value_at (P := P) (w := w) (base := base) c D_value_at
  have B4_value_at := bs_bd_value_at_4 D_value_at
  exact fnG_of D sc_check_growth rfl rfl fun cdv A outer s H E hr hg =>
    gs_cons (gs_if (PW.pt (gw_or (gt_not (gt_val (ge_callF O_is_integer (hr.mono (by decide)) hg (takes_of rfl rfl rfl rfl) (by rfl) (c.glo 55) D_is_integer.kp (bd_is_integer_1 D_is_integer) ar_bd_is_integer_1 (gv_dat (ge_var (pv 1)) (gv_nil))))) (gw_or (gt_cmp (o_notInX hr.units) (ge_var (pv 1)) (ge_gtup (by rfl) (c.tup 59).1 (c.tup 59).2 (fun _ => .cons (.int 1) (.cons (.int 2) (.cons (.int 3) (.cons (.int 4) (.cons (.int 6) (.cons (.int 12) (.nil)))))))) rfl) (gw_or1 (gt_cmp o_gt (ge_var (pv 1)) (ge_callB c_len (by rfl) (c.free 0) (by decide +kernel) (ga_cons (ge_var (pv 0)) (ga_nil))) (nomark _)))))) (gs_one (gs_raise rfl (c.oex 47) (c.xin 52).1 (c.xin 52).2 O_InvalidCurve_init0 (hr.mono (by decide)) hg (takes_of rfl rfl rfl rfl) (by rfl) (c.glo 53) B3_InvalidCurve_init0 (by decide) (gv_dat (ge_str) (gv_dat (ge_int) (gv_nil))))) (gs_nil))
    (gs_one (gs_if (PW.pt (gw_or (gt_not (gt_val (ge_callF O_is_count (hr.mono (by decide)) hg (takes_of rfl rfl rfl rfl) (by rfl) (c.glo 57) D_is_count.kp (bd_is_count_2 D_is_count) ar_bd_is_count_2 (gv_dat (ge_var (pv 2)) (gv_dat (ge_gint (by rfl) (c.int 56)) (gv_nil)))))) (gw_or1 (gt_cmp o_lt (ge_callF O_value_at (hr.mono (by decide)) hg (takes_of rfl rfl rfl rfl) (by rfl) (c.glo 60) D_value_at.kp (bd_value_at_4 D_value_at) ar_bd_value_at_4 (gv_dat (ge_var (pv 0)) (gv_dat (ge_var (pv 1)) (gv_dat (ge_var (pv 2)) (gv_dat (ge_op o_add (ge_callB c_len (by rfl) (c.free 0) (by decide +kernel) (ga_cons (ge_var (pv 0)) (ga_nil))) (ge_int)) (gv_nil)))))) (ge_ix i_ix (ge_var (pv 0)) (ge_un u_neg (ge_int)) (fun _ _ => rfl)) (nomark _))))) (gs_one (gs_raise rfl (c.oex 47) (c.xin 52).1 (c.xin 52).2 O_InvalidCurve_init0 (hr.mono (by decide)) hg (takes_of rfl rfl rfl rfl) (by rfl) (c.glo 53) B3_InvalidCurve_init0 (by decide) (gv_dat (ge_str) (gv_dat (ge_int) (gv_nil))))) (gs_nil)))
theorem sc_grows_by : FnScope ["values", "period", "gain", "other", "start", "growth", "length", "one", "next_one"] ["values", "period", "gain", "other"] (defScope s_grows_by) := ⟨rfl, rfl, rfl, by decide +kernel, rfl, by decide +kernel, by decide +kernel⟩
def m_grows_by : MS :=
    mSeq (mAsg (m2 addD (mCall lenC (mCons (mVar 0) (mNil))) (mC (.int 1))) (gNm 4))
    (mSeq (mAsg (m2 subD (mCallF F_value_at 4 0 (fun as bs => [as.getD 0 (.dat .non), as.getD 1 (.dat .non), as.getD 2 (.dat .non), as.getD 3 (.dat .non)]) (vDat (mVar 0) (vDat (mVar 1) (vDat (mVar 2) (vDat (m2 addD (mVar 4) (mVar 3)) (vNil))))) vNil) (mCallF F_value_at 4 0 (fun as bs => [as.getD 0 (.dat .non), as.getD 1 (.dat .non), as.getD 2 (.dat .non), as.getD 3 (.dat .non)]) (vDat (mVar 0) (vDat (mVar 1) (vDat (mVar 2) (vDat (mVar 4) (vNil))))) vNil)) (gNm 5))
    (mSeq (mFor (mIts range2 (mCons (mVar 4) (mCons (m2 addD (mVar 4) (mC (.int 12))) (mNil)))) (gNm 6) (mSeq (mPar 7 8 (mCons (mCallF F_value_at 4 0 (fun as bs => [as.getD 0 (.dat .non), as.getD 1 (.dat .non), as.getD 2 (.dat .non), as.getD 3 (.dat .non)]) (vDat (mVar 0) (vDat (mVar 1) (vDat (mVar 2) (vDat (mVar 6) (vNil))))) vNil) (mCons (mCallF F_value_at 4 0 (fun as bs => [as.getD 0 (.dat .non), as.getD 1 (.dat .non), as.getD 2 (.dat .non), as.getD 3 (.dat .non)]) (vDat (mVar 0) (vDat (mVar 1) (vDat (mVar 2) (vDat (m2 addD (mVar 6) (mVar 3)) (vNil))))) vNil) (mNil))))
    (mIfS (cTruth (m2 neD (m2 subD (mVar 8) (mVar 7)) (mVar 5))) (mRet (mC .non)) (mNext))))
    (mRet (mVar 5))))
def F_grows_by : List FA → RF := runDef 4 9 m_grows_by
theorem ok_grows_by {P : Program} {w : World} {K : PySem.W.Frag} {mg : Str → Option Value} {base : Heap} (c : Kn fa fn K mg) {fd : FuncData} (D : FunM K d_grows_by fd) : FnG P w K mg base (L2.CX P w) 2 (d_grows_by.ad.a K) fd ["values", "period", "gain", "other"] (spF ⟨He.ga K, none, []⟩ K F_grows_by) := by
  obtain ⟨fd_value_at, D_value_at⟩ := c.def_ 12 (d := d_value_at)
  have O_value_at := ok_value_at (P := P) (w := w) (base := base) c D_value_at
  have B4_value_at := bs_bd_value_at_4 D_value_at
  exact fnG_of D sc_grows_by rfl rfl fun cdv A outer s H E hr hg =>
    gs_cons (gs_set (i := 4) sc_grows_by.nd rfl (by first | exact .inl rfl | exact .inr rfl) (ge_op o_add (ge_callB c_len (by rfl) (c.free 0) (by decide +kernel) (ga_cons (ge_var (pv 0)) (ga_nil))) (ge_int)))
    (gs_cons (gs_set (i := 5) sc_grows_by.nd rfl (by first | exact .inl rfl | exact .inr rfl) (ge_op o_sub (ge_callF O_value_at (hr.mono (by decide)) hg (takes_of rfl rfl rfl rfl) (by rfl) (c.glo 60) D_value_at.kp (bd_value_at_4 D_value_at) ar_bd_value_at_4 (gv_dat (ge_var (pv 0)) (gv_dat (ge_var (pv 1)) (gv_dat (ge_var (pv 2)) (gv_dat (ge_op o_add (ge_var (pv 4)) (ge_var (pv 3))) (gv_nil)))))) (ge_callF O_value_at (hr.mono (by decide)) hg (takes_of rfl rfl rfl rfl) (by rfl) (c.glo 60) D_value_at.kp (bd_value_at_4 D_value_at) ar_bd_value_at_4 (gv_dat (ge_var (pv 0)) (gv_dat (ge_var (pv 1)) (gv_dat (ge_var (pv 2)) (gv_dat (ge_var (pv 4)) (gv_nil))))))))
    (gs_cons (gs_for (passes_of rfl) rfl (gi_range2 (by rfl) (c.free 3) (ga_cons (ge_var (pv 4)) (ga_cons (ge_op o_add (ge_var (pv 4)) (ge_gint (by rfl) (c.int 62))) (ga_nil)))) (gg_name (pg_name (i := 6) sc_grows_by.nd rfl (by first | exact .inl rfl | exact .inr rfl))) (gs_cons (gs_par (i := 7) (j := 8) rfl sc_grows_by.nd rfl rfl (by decide) rfl rfl (ga_cons (ge_callF O_value_at (hr.mono (by decide)) hg (takes_of rfl rfl rfl rfl) (by rfl) (c.glo 60) D_value_at.kp (bd_value_at_4 D_value_at) ar_bd_value_at_4 (gv_dat (ge_var (pv 0)) (gv_dat (ge_var (pv 1)) (gv_dat (ge_var (pv 2)) (gv_dat (ge_var (pv 6)) (gv_nil)))))) (ga_cons (ge_callF O_value_at (hr.mono (by decide)) hg (takes_of rfl rfl rfl rfl) (by rfl) (c.glo 60) D_value_at.kp (bd_value_at_4 D_value_at) ar_bd_value_at_4 (gv_dat (ge_var (pv 0)) (gv_dat (ge_var (pv 1)) (gv_dat (ge_var (pv 2)) (gv_dat (ge_op o_add (ge_var (pv 6)) (ge_var (pv 3))) (gv_nil)))))) (ga_nil))) rfl)
    (gs_one (gs_if (gt_cmp (o_ne hr.units) (ge_op o_sub (ge_var (pv 8)) (ge_var (pv 7))) (ge_var (pv 5)) (nomark _)) (gs_one (gs_ret (ge_non))) (gs_nil)))))
    (gs_one (gs_ret (ge_var (pv 5))))))
theorem sc_form_of : FnScope ["values", "period", "gain", "best", "growth", "found", "length", "other"] ["values", "period", "gain"] (defScope s_form_of) := ⟨rfl, rfl, rfl, by decide +kernel, rfl, by decide +kernel, by decide +kernel⟩
def m_form_of : MS :=
    mSeq (mAsg (m2 ixD (mLc (mItems (mC (.tup [.int 1, .int 2, .int 3, .int 4, .int 6, .int 12]))) (cgN 7) (cTruth (m2 notND (mCallF F_grows_by 4 0 (fun as bs => [as.getD 0 (.dat .non), as.getD 1 (.dat .non), as.getD 2 (.dat .non), as.getD 3 (.dat .non)]) (vDat (mVar 0) (vDat (mVar 1) (vDat (mVar 2) (vDat (mVar 7) (vNil))))) vNil) (mC .non))) (mVar 7) [7]) (mC (.int 0))) (gNm 3))
    (mSeq (mAsg (mCallF F_grows_by 4 0 (fun as bs => [as.getD 0 (.dat .non), as.getD 1 (.dat .non), as.getD 2 (.dat .non), as.getD 3 (.dat .non)]) (vDat (mVar 0) (vDat (mVar 1) (vDat (mVar 2) (vDat (mVar 3) (vNil))))) vNil) (gNm 4))
    (mSeq (mSetF 5 (lLc (mIts range2 (mCons (mC (.int 1)) (mCons (m2 addD (m2 addD (mCall lenC (mCons (mVar 0) (mNil))) (mC (.int 12))) (mC (.int 1))) (mNil)))) (cgN 6) (cYes) (mCallF F_value_at 4 0 (fun as bs => [as.getD 0 (.dat .non), as.getD 1 (.dat .non), as.getD 2 (.dat .non), as.getD 3 (.dat .non)]) (vDat (mVar 0) (vDat (mVar 1) (vDat (mVar 2) (vDat (mVar 6) (vNil))))) vNil) [6]))
    (mSeq (mWhile (cAnd (cTruth (m2 gtD (mCallP lenC 5) (mVar 3))) (cTruth (m2 eqD (mIxS 5 (m1 negD (mC (.int 1)))) (m2 addD (mIxS 5 (m2 subD (m1 negD (mC (.int 1))) (mVar 3))) (mVar 4))))) (mPop 5))
    (mRet (mTup (mCons (mVar 5) (mCons (mVar 3) (mCons (mVar 4) (mNil)))))))))
def F_form_of : List FA → RF := runDef 3 8 m_form_of
theorem ok_form_of {P : Program} {w : World} {K : PySem.W.Frag} {mg : Str → Option Value} {base : Heap} (c : Kn fa fn K mg) {fd : FuncData} (D : FunM K d_form_of fd) : FnG P w K mg base (L2.CX P w) 3 (d_form_of.ad.a K) fd ["values", "period", "gain"] (spF ⟨He.ga K, none, []⟩ K F_form_of) := by
  obtain ⟨fd_grows_by, D_grows_by⟩ := c.def_ 14 (d := d_grows_by)
  have O_grows_by := ok_grows_by (P := P) (w := w) (base := base) c D_grows_by
  have B4_grows_by := bs_bd_grows_by_4 D_grows_by
  obtain ⟨fd_value_at, D_value_at⟩ := c.def_ 12 (d := d_value_at)
  have O_value_at := ok_value_at (P := P) (w := w) (base := base) c D_value_at
  have B4_value_at := bs_bd_value_at_4 D_value_at
  exact fnG_of D sc_form_of rfl rfl fun cdv A outer s H E hr hg =>
    gs_cons (gs_set (i := 3) sc_form_of.nd rfl (by first | exact .inl rfl | exact .inr rfl) (ge_ix i_ix (ge_lc (own := [("other", 7)]) rfl sc_form_of.nd (gi_seq (ge_gtup (by rfl) (c.tup 59).1 (c.tup 59).2 (fun _ => .cons (.int 1) (.cons (.int 2) (.cons (.int 3) (.cons (.int 4) (.cons (.int 6) (.cons (.int 12) (.nil))))))))) (blkOk_by (by rfl)) (tg_name 7) (fun _ _ _ _ _ => pg_name (i := 7) sc_form_of.nd rfl (by first | exact .inl rfl | exact .inr rfl)) (fun _ _ _ _ _ => pts_one (gt_cmp o_notN (ge_callF O_grows_by (hr.mono (by decide)) hg Mir.takes0 (by rfl) (c.glo 63) D_grows_by.kp (bd_grows_by_4 D_grows_by) ar_bd_grows_by_4 (gv_dat (ge_var (pv 0)) (gv_dat (ge_var (pv 1)) (gv_dat (ge_var (pv 2)) (gv_dat (ge_var (pv 7)) (gv_nil)))))) (ge_non) (nomark _))) (fun _ _ _ _ _ => ge_var (pv 7))) (ge_int) (fun _ _ => rfl)))
    (gs_cons (gs_set (i := 4) sc_form_of.nd rfl (by first | exact .inl rfl | exact .inr rfl) (ge_callF O_grows_by (hr.mono (by decide)) hg (takes_of rfl rfl rfl rfl) (by rfl) (c.glo 63) D_grows_by.kp (bd_grows_by_4 D_grows_by) ar_bd_grows_by_4 (gv_dat (ge_var (pv 0)) (gv_dat (ge_var (pv 1)) (gv_dat (ge_var (pv 2)) (gv_dat (ge_var (pv 3)) (gv_nil)))))))
    (gs_cons (gs_setLcF (i := 5) (own := [("length", 6)])  rfl sc_form_of.nd rfl rfl (gi_range2 (by rfl) (c.free 3) (ga_cons (ge_int) (ga_cons (ge_op o_add (ge_op o_add (ge_callB c_len (by rfl) (c.free 0) (by decide +kernel) (ga_cons (ge_var (pv 0)) (ga_nil))) (ge_gint (by rfl) (c.int 62))) (ge_int)) (ga_nil)))) (blkOk_by (by rfl)) (tg_name 6) (fun _ _ _ _ _ => pg_name (i := 6) sc_form_of.nd rfl (by first | exact .inl rfl | exact .inr rfl)) (fun _ _ _ _ _ => pts_of rfl) (fun _ _ _ _ _ => ge_callF O_value_at (hr.mono (by decide)) hg Mir.takes0 (by rfl) (c.glo 60) D_value_at.kp (bd_value_at_4 D_value_at) ar_bd_value_at_4 (gv_dat (ge_var (pv 0)) (gv_dat (ge_var (pv 1)) (gv_dat (ge_var (pv 2)) (gv_dat (ge_var (pv 6)) (gv_nil)))))))
    (gs_cons (gs_while (passes_of rfl) (PW.pt (gw_and (gt_cmp o_gt (ge_callBP c_len (by rfl) (c.free 0) (by decide +kernel) (pv 5)) (ge_var (pv 3)) (nomark _)) (gw_and1 (gt_cmp (o_eq hr.units) (ge_ixS (pv 5) (ge_un u_neg (ge_int)) (fun _ _ => rfl)) (ge_op o_add (ge_ixS (pv 5) (ge_op o_sub (ge_un u_neg (ge_int)) (ge_var (pv 3))) (fun _ _ => rfl)) (ge_var (pv 4))) (nomark _))))) (gs_one (gs_pop (pv 5))))
    (gs_one (gs_ret (ge_tup (ga_cons (ge_var (pv 5)) (ga_cons (ge_var (pv 3)) (ga_cons (ge_var (pv 4)) (ga_nil))))))))))
theorem sc_Curve_init0 : FnScope ["self", "values", "period", "gain"] ["self", "values", "period", "gain"] (defScope s_Curve_init0) := ⟨rfl, rfl, rfl, by decide +kernel, rfl, by decide +kernel, by decide +kernel⟩
def m_Curve_init0 : MS :=
    mSeq (mDrop (mCallF F_check_values 1 0 (fun as bs => [as.getD 0 (.dat .non)]) (vDat (mVar 1) (vNil)) vNil))
    (mSeq (mDrop (mCallF F_check_growth 3 0 (fun as bs => [as.getD 0 (.dat .non), as.getD 1 (.dat .non), as.getD 2 (.dat .non)]) (vDat (mVar 1) (vDat (mVar 2) (vDat (mVar 3) (vNil)))) vNil))
    (mAsg (mCallF F_form_of 3 0 (fun as bs => [as.getD 0 (.dat .non), as.getD 1 (.dat .non), as.getD 2 (.dat .non)]) (vDat (mVar 1) (vDat (mVar 2) (vDat (mVar 3) (vNil)))) vNil) (gTpN 3 (gCs (gFld ["Curve"] 0 "value_list") (gCs (gFld ["Curve"] 0 "own_period") (gCs (gFld ["Curve"] 0 "own_gain") (gNl)))))))
def F_Curve_init0 : List FA → RF := runDef 4 4 m_Curve_init0
theorem ok_Curve_init0 {P : Program} {w : World} {K : PySem.W.Frag} {mg : Str → Option Value} {base : Heap} (c : Kn fa fn K mg) {fd : FuncData} (D : FunM K d_Curve_init0 fd) : FnG P w K mg base (L2.CX P w) 4 (d_Curve_init0.ad.a K) fd ["self", "values", "period", "gain"] (spF ⟨He.ga K, none, []⟩ K F_Curve_init0) := by
  obtain ⟨fd_check_values, D_check_values⟩ := c.def_ 11 (d := d_check_values)
  have O_check_values := ok_check_values (P := P) (w := w) (base := base) c D_check_values
  have B1_check_values := bs_bd_check_values_1 D_check_values
  obtain ⟨fd_check_growth, D_check_growth⟩ := c.def_ 13 (d := d_check_growth)
  have O_check_growth := ok_check_growth (P := P) (w := w) (base := base) c D_check_growth
  have B3_check_growth := bs_bd_check_growth_3 D_check_growth
  obtain ⟨fd_form_of, D_form_of⟩ := c.def_ 15 (d := d_form_of)
  have O_form_of := ok_form_of (P := P) (w := w) (base := base) c D_form_of
  have B3_form_of := bs_bd_form_of_3 D_form_of
  exact fnG_of D sc_Curve_init0 rfl rfl fun cdv A outer s H E hr hg =>
    gs_cons (gs_expr (ge_callF O_check_values (hr.mono (by decide)) hg (takes_of rfl rfl rfl rfl) (by rfl) (c.glo 58) D_check_values.kp (bd_check_values_1 D_check_values) ar_bd_check_values_1 (gv_dat (ge_var (pv 1)) (gv_nil))))
    (gs_cons (gs_expr (ge_callF O_check_growth (hr.mono (by decide)) hg (takes_of rfl rfl rfl rfl) (by rfl) (c.glo 61) D_check_growth.kp (bd_check_growth_3 D_check_growth) ar_bd_check_growth_3 (gv_dat (ge_var (pv 1)) (gv_dat (ge_var (pv 2)) (gv_dat (ge_var (pv 3)) (gv_nil))))))
    (gs_one (gs_asg (ge_callF O_form_of (hr.mono (by decide)) hg (takes_of rfl rfl rfl rfl) (by rfl) (c.glo 64) D_form_of.kp (bd_form_of_3 D_form_of) ar_bd_form_of_3 (gv_dat (ge_var (pv 1)) (gv_dat (ge_var (pv 2)) (gv_dat (ge_var (pv 3)) (gv_nil))))) (gg_tupN rfl (ggs_cons (gg_fld (aa1 ⟨(c.cls 18).cl, c.noat 67⟩ aa0) (pv 0)) (ggs_cons (gg_fld (aa1 ⟨(c.cls 18).cl, c.noat 66⟩ aa0) (pv 0)) (ggs_cons (gg_fld (aa1 ⟨(c.cls 18).cl, c.noat 65⟩ aa0) (pv 0)) (ggs_nil))))))))
theorem sc_l_told : FnScope ["_law_row", "_law_found", "e", "_law_others"] ["_law_row"] (defScope s_l_told) := ⟨rfl, rfl, rfl, by decide +kernel, rfl, by decide +kernel, by decide +kernel⟩
def m_l_told : MS :=
    mSeq (mAsg (mC .non) (gNm 1))
    (mSeq (mTry [("InvalidCurve", true), ("InvalidPiece", false), ("InvalidLength", false), ("InvalidCount", false), ("InvalidRecord", false), ("NotGood", false), ("TooLong", false)] 2 (mDrop (mMake "Curve" F_Curve_init0 1 2 (fun as bs => [as.getD 0 (.dat .non), bs.getD 0 (.dat .non), bs.getD 1 (.dat .non)]) (vDat (m2 ixD (mVar 0) (mC (.int 0))) (vNil)) (vDat (m2 ixD (mVar 0) (mC (.int 1))) (vDat (m2 ixD (mVar 0) (mC (.int 2))) (vNil))))) (mSeq (mAsg (mTup (mCons (mXf ["InvalidCurve"] 2 "problem") (mCons (mXf ["InvalidCurve", "InvalidPiece", "InvalidRecord"] 2 "position") (mNil)))) (gNm 1))
    (mSeq (mAsg (mLst (mCons (mIsX [("InvalidCurve", false), ("InvalidPiece", true), ("InvalidLength", true), ("InvalidCount", true), ("InvalidRecord", true), ("NotGood", true), ("TooLong", true)] 2) (mNil))) (gNm 3))
    (mIfS (cTruth (m2 neD (m2 addD (mVar 3) (mLst (mCons (mIsX [("InvalidCurve", true), ("InvalidPiece", true), ("InvalidLength", true), ("InvalidCount", true), ("InvalidRecord", true), ("NotGood", false), ("TooLong", false)] 2) (mCons (mIsX [("InvalidCurve", true), ("InvalidPiece", true), ("InvalidLength", true), ("InvalidCount", true), ("InvalidRecord", true), ("NotGood", false), ("TooLong", false)] 2) (mNil))))) (mLst (mCons (mC (.bl false)) (mCons (mC (.bl true)) (mCons (mC (.bl true)) (mNil))))))) (mAsg (mC (.str "other")) (gNm 1)) (mNext)))))
    (mRet (mVar 1)))
def F_l_told : List FA → RF := runDef 1 4 m_l_told
theorem ok_l_told {P : Program} {w : World} {K : PySem.W.Frag} {mg : Str → Option Value} {base : Heap} (c : Kn fa fn K mg) {fd : FuncData} (D : FunM K d_l_told fd) : FnG P w K mg base (L2.CX P w) 6 (d_l_told.ad.a K) fd ["_law_row"] (spF ⟨He.ga K, none, []⟩ K F_l_told) := by
  obtain ⟨fd_Curve_init0, D_Curve_init0⟩ := c.def_ 16 (d := d_Curve_init0)
  have O_Curve_init0 := ok_Curve_init0 (P := P) (w := w) (base := base) c D_Curve_init0
  exact fnG_of D sc_l_told rfl rfl fun cdv A outer s H E hr hg =>
    gs_cons (gs_set (i := 1) sc_l_told.nd rfl (by first | exact .inl rfl | exact .inr rfl) (ge_non))
    (gs_cons (gs_tryAs rfl rfl sc_l_told.nd rfl rfl ⟨by rfl, by decide, .inl (c.glo 53)⟩ (takes_of rfl rfl rfl rfl) rfl (aa1 (c.exmT 76 (x := "InvalidCurve") (t := (.c "InvalidCurve")) (b := true)) (aa1 (c.exmT 75 (x := "InvalidPiece") (t := (.c "InvalidCurve")) (b := false)) (aa1 (c.exmT 74 (x := "InvalidLength") (t := (.c "InvalidCurve")) (b := false)) (aa1 (c.exmT 73 (x := "InvalidCount") (t := (.c "InvalidCurve")) (b := false)) (aa1 (c.exmT 72 (x := "InvalidRecord") (t := (.c "InvalidCurve")) (b := false)) (aa1 (c.exmT 71 (x := "NotGood") (t := (.c "InvalidCurve")) (b := false)) (aa1 (c.exmT 70 (x := "TooLong") (t := (.c "InvalidCurve")) (b := false)) (aa0)))))))) (fun W' pn xe tkT paT => gs_one (gs_expr (ge_makeK (cm := ⟨He.ga K, none, []⟩) (c.mkr 68) O_Curve_init0 (hr.mono (by decide)) hg tkT (by rfl) (c.glo 69) (bd_Curve_init0_2_period_gain D_Curve_init0) (fun _ _ _ => rfl) as_bd_Curve_init0_2_period_gain (gv_dat (ge_ix i_ix (ge_var (pv 0)) (ge_int) (fun _ _ => rfl)) (gv_nil)) (gk_dat (ge_ix i_ix (ge_var (pv 0)) (ge_int) (fun _ _ => rfl)) (gk_dat (ge_ix i_ix (ge_var (pv 0)) (ge_int) (fun _ _ => rfl)) (gk_nil)))))) (fun a oe cc dd pn hz hv => gs_cons (gs_set (i := 1) sc_l_told.nd rfl (by first | exact .inl rfl | exact .inr rfl) (ge_tup (ga_cons (ge_xf rfl (aa1 ⟨c.xfl 81, c.nof 50⟩ aa0) hz hv (pv 2)) (ga_cons (ge_xf rfl (aa1 ⟨c.xfl 81, c.nof 51⟩ (aa1 ⟨c.xfl 79, c.nof 80⟩ (aa1 ⟨c.xfl 77, c.nof 78⟩ aa0))) hz hv (pv 2)) (ga_nil)))))
    (gs_cons (gs_set (i := 3) sc_l_told.nd rfl (by first | exact .inl rfl | exact .inr rfl) (ge_lst (ga_cons (ge_isXT rfl (c.free 21) (by rfl) (aa1 ⟨c.xc 101, c.kitA 100 (a := .c "InvalidCurve") (ts := [(.c "InvalidCount"), (.c "InvalidLength"), (.c "InvalidPiece"), (.c "InvalidRecord"), (.c "NotGood"), (.c "TooLong")]) (r := false)⟩ (aa1 ⟨c.xc 99, c.kitA 98 (a := .c "InvalidPiece") (ts := [(.c "InvalidCount"), (.c "InvalidLength"), (.c "InvalidPiece"), (.c "InvalidRecord"), (.c "NotGood"), (.c "TooLong")]) (r := true)⟩ (aa1 ⟨c.xc 97, c.kitA 96 (a := .c "InvalidLength") (ts := [(.c "InvalidCount"), (.c "InvalidLength"), (.c "InvalidPiece"), (.c "InvalidRecord"), (.c "NotGood"), (.c "TooLong")]) (r := true)⟩ (aa1 ⟨c.xc 95, c.kitA 94 (a := .c "InvalidCount") (ts := [(.c "InvalidCount"), (.c "InvalidLength"), (.c "InvalidPiece"), (.c "InvalidRecord"), (.c "NotGood"), (.c "TooLong")]) (r := true)⟩ (aa1 ⟨c.xc 93, c.kitA 92 (a := .c "InvalidRecord") (ts := [(.c "InvalidCount"), (.c "InvalidLength"), (.c "InvalidPiece"), (.c "InvalidRecord"), (.c "NotGood"), (.c "TooLong")]) (r := true)⟩ (aa1 ⟨c.xc 91, c.kitA 90 (a := .c "NotGood") (ts := [(.c "InvalidCount"), (.c "InvalidLength"), (.c "InvalidPiece"), (.c "InvalidRecord"), (.c "NotGood"), (.c "TooLong")]) (r := true)⟩ (aa1 ⟨c.xc 89, c.kitA 88 (a := .c "TooLong") (ts := [(.c "InvalidCount"), (.c "InvalidLength"), (.c "InvalidPiece"), (.c "InvalidRecord"), (.c "NotGood"), (.c "TooLong")]) (r := true)⟩ (aa0)))))))) hz hv (pv 2) (pa_cons (pe_glob (v := .ref _) (by rfl) (c.glo 82) rfl) (pa_cons (pe_glob (v := .ref _) (by rfl) (c.glo 83) rfl) (pa_cons (pe_glob (v := .ref _) (by rfl) (c.glo 84) rfl) (pa_cons (pe_glob (v := .ref _) (by rfl) (c.glo 85) rfl) (pa_cons (pe_glob (v := .ref _) (by rfl) (c.glo 86) rfl) (pa_cons (pe_glob (v := .ref _) (by rfl) (c.glo 87) rfl) (pa_nil))))))) (.cons (.own _) (.cons (.own _) (.cons (.own _) (.cons (.own _) (.cons (.own _) (.cons (.own _) (.nil))))))) (Nat.le_of_ble_eq_true rfl)) (ga_nil))))
    (gs_one (gs_if (gt_cmp (o_ne hr.units) (ge_op o_add (ge_var (pv 3)) (ge_lst (ga_cons (ge_isX rfl (c.free 21) (by rfl) (aa1 ⟨c.xc 101, c.kit 116 (a := .c "InvalidCurve") (b := (.c "DueError")) (r := true)⟩ (aa1 ⟨c.xc 99, c.kit 115 (a := .c "InvalidPiece") (b := (.c "DueError")) (r := true)⟩ (aa1 ⟨c.xc 97, c.kit 114 (a := .c "InvalidLength") (b := (.c "DueError")) (r := true)⟩ (aa1 ⟨c.xc 95, c.kit 113 (a := .c "InvalidCount") (b := (.c "DueError")) (r := true)⟩ (aa1 ⟨c.xc 93, c.kit 112 (a := .c "InvalidRecord") (b := (.c "DueError")) (r := true)⟩ (aa1 ⟨c.xc 91, c.kit 111 (a := .c "NotGood") (b := (.c "DueError")) (r := false)⟩ (aa1 ⟨c.xc 89, c.kit 110 (a := .c "TooLong") (b := (.c "DueError")) (r := false)⟩ (aa0)))))))) hz hv (pv 2) (pe_glob (v := .ref _) (by rfl) (c.glo 49) rfl) (.own _)) (ga_cons (ge_isX rfl (c.free 21) (by rfl) (aa1 ⟨c.xc 101, c.kit 109 (a := .c "InvalidCurve") (b := (.b "ValueError")) (r := true)⟩ (aa1 ⟨c.xc 99, c.kit 108 (a := .c "InvalidPiece") (b := (.b "ValueError")) (r := true)⟩ (aa1 ⟨c.xc 97, c.kit 107 (a := .c "InvalidLength") (b := (.b "ValueError")) (r := true)⟩ (aa1 ⟨c.xc 95, c.kit 106 (a := .c "InvalidCount") (b := (.b "ValueError")) (r := true)⟩ (aa1 ⟨c.xc 93, c.kit 105 (a := .c "InvalidRecord") (b := (.b "ValueError")) (r := true)⟩ (aa1 ⟨c.xc 91, c.kit 104 (a := .c "NotGood") (b := (.b "ValueError")) (r := false)⟩ (aa1 ⟨c.xc 89, c.kit 103 (a := .c "TooLong") (b := (.b "ValueError")) (r := false)⟩ (aa0)))))))) hz hv (pv 2) (pe_bltn (v := .ty "ValueError") (by rfl) (c.free 102) (by decide +kernel) rfl) (.ty _)) (ga_nil))))) (ge_lst (ga_cons (ge_bl) (ga_cons (ge_bl) (ga_cons (ge_bl) (ga_nil))))) (nomark _)) (gs_one (gs_set (i := 1) sc_l_told.nd rfl (by first | exact .inl rfl | exact .inr rfl) (ge_str))) (gs_nil))))))
    (gs_one (gs_ret (ge_var (pv 1)))))
theorem sc_l_right : FnScope ["_law_rng_here", "_law_row", "_law_turn", "_law_due_here", "_law_shown", "$h"] ["_law_rng_here"] (defScope s_l_right) := ⟨rfl, rfl, rfl, by decide +kernel, rfl, by decide +kernel, by decide +kernel⟩
def m_l_right : MS :=
    mSeq (mAsg (mCallA (applyT 5 F_l_written) 1 0 (fun as bs => [as.getD 0 (.dat .non)]) (vSlot 0 (vNil)) vNil) (gNm 1))
    (mSeq (mFor (mIts range1 (mCons (m2 ixD (mLst (mCons (mC (.int 0)) (mCons (mC (.int 1)) (mCons (mC (.int 1)) (mCons (mC (.int 1)) (mCons (mC (.int 2)) (mNil))))))) (mCallF F_l_draw 2 0 (fun as bs => [as.getD 0 (.dat .non), as.getD 1 (.dat .non)]) (vSlot 0 (vDat (mC (.int 5)) (vNil))) vNil)) (mNil))) (gNm 2) (mIfS (cTruth (m1S 5 (isiT [("NoneType", false), ("bool", false), ("int", false), ("str", false), ("list", true), ("tuple", false), ("dict", false)] [("Curve", false)]) (mIxL 5 (mVar 1) (mC (.int 0))))) (mDrop (mCallA (applyT 5 F_l_spoilt) 2 0 (fun as bs => [as.getD 0 (.dat .non), as.getD 1 (.dat .non)]) (vSlot 0 (vDat (mVar 1) (vNil))) vNil)) (mNext)))
    (mSeq (mPar 3 4 (mCons (mCallA (applyL 5 F_l_due) 1 0 (fun as bs => [as.getD 0 (.dat .non)]) (vDat (mVar 1) (vNil)) vNil) (mCons (mCallL 5 reprEC (mCons (mVar 1) (mNil))) (mNil))))
    (mRet (mAnd (m2 eqD (mCall reprEC (mCons (mCallA (applyL 5 F_l_told) 1 0 (fun as bs => [as.getD 0 (.dat .non)]) (vDat (mVar 1) (vNil)) vNil) (mNil))) (mCall reprEC (mCons (mVar 3) (mNil)))) (m2 eqD (mCallL 5 reprEC (mCons (mVar 1) (mNil))) (mVar 4))))))
def F_l_right : List FA → Ths → RT := runDefT 1 5 m_l_right
theorem ok_l_right {P : Program} {w : World} {K : PySem.W.Frag} {mg : Str → Option Value} {base : Heap} (c : Kn fa fn K mg) {fd : FuncData} (D : FunM K d_l_right fd) : FnG P w K mg base (L2.CX P w) 7 (d_l_right.ad.a K) fd ["_law_rng_here"] (spT ⟨He.ga K, none, []⟩ K F_l_right) := by
  obtain ⟨fd_l_written, D_l_written⟩ := c.def_ 3 (d := d_l_written)
  have O_l_written := ok_l_written (P := P) (w := w) (base := base) c D_l_written
  have B1_l_written := bs_bd_l_written_1 D_l_written
  obtain ⟨fd_l_draw, D_l_draw⟩ := c.def_ 1 (d := d_l_draw)
  have O_l_draw := ok_l_draw (P := P) (w := w) (base := base) c D_l_draw
  have B2_l_draw := bs_bd_l_draw_2 D_l_draw
  obtain ⟨fd_l_spoilt, D_l_spoilt⟩ := c.def_ 5 (d := d_l_spoilt)
  have O_l_spoilt := ok_l_spoilt (P := P) (w := w) (base := base) c D_l_spoilt
  have B2_l_spoilt := bs_bd_l_spoilt_2 D_l_spoilt
  obtain ⟨fd_l_due, D_l_due⟩ := c.def_ 7 (d := d_l_due)
  have O_l_due := ok_l_due (P := P) (w := w) (base := base) c D_l_due
  have B1_l_due := bs_bd_l_due_1 D_l_due
  obtain ⟨fd_l_told, D_l_told⟩ := c.def_ 17 (d := d_l_told)
  have O_l_told := ok_l_told (P := P) (w := w) (base := base) c D_l_told
  have B1_l_told := bs_bd_l_told_1 D_l_told
  exact fnT_of D sc_l_right rfl rfl (by decide) fun cdv A outer s H E hr hg =>
    gs_cons (gs_set (i := 1) sc_l_right.nd rfl (by first | exact .inl rfl | exact .inr rfl) (ge_callA okT O_l_written (hr.mono (by decide)) hg (takes_of rfl rfl rfl rfl) (by rfl) (c.glo 10) D_l_written.kp (bd_l_written_1 D_l_written) ar_bd_l_written_1 (gv_slot (pv 0) (gv_nil))))
    (gs_cons (gs_for (passes_of rfl) rfl (gi_range1 (by rfl) (c.free 3) (ga_cons (ge_ix i_ix (ge_lst (ga_cons (ge_int) (ga_cons (ge_int) (ga_cons (ge_int) (ga_cons (ge_int) (ga_cons (ge_int) (ga_nil))))))) (ge_callF O_l_draw (hr.mono (by decide)) hg (takes_of rfl rfl rfl rfl) (by rfl) (c.glo 8) D_l_draw.kp (bd_l_draw_2 D_l_draw) ar_bd_l_draw_2 (gv_slot (pv 0) (gv_dat (ge_int) (gv_nil)))) (fun _ _ => rfl)) (ga_nil))) (gg_name (pg_name (i := 2) sc_l_right.nd rfl (by first | exact .inl rfl | exact .inr rfl))) (gs_one (gs_if (gt_val (ge_isiS (c.free 21) (by rfl) (ge_ixL (ge_var (pv 1)) (ge_int) (fun _ _ => rfl)) (pe_bltn (v := .ty "list") (by rfl) (c.free 20) (by decide +kernel) rfl) (.ty _) (aa1 (c.kit 17 (a := .b "NoneType") (b := (.b "list")) (r := false)) (aa1 (c.kit 16 (a := .b "bool") (b := (.b "list")) (r := false)) (aa1 (c.kit 15 (a := .b "int") (b := (.b "list")) (r := false)) (aa1 (c.kit 14 (a := .b "str") (b := (.b "list")) (r := false)) (aa1 (c.kit 13 (a := .b "list") (b := (.b "list")) (r := true)) (aa1 (c.kit 12 (a := .b "tuple") (b := (.b "list")) (r := false)) (aa1 (c.kit 11 (a := .b "dict") (b := (.b "list")) (r := false)) (aa0)))))))) (aa1 ⟨c.cls 18, c.kit 19 (a := .c "Curve") (b := (.b "list")) (r := false)⟩ (aa0)))) (gs_one (gs_expr (ge_callA okT O_l_spoilt (hr.mono (by decide)) hg (takes_of rfl rfl rfl rfl) (by rfl) (c.glo 33) D_l_spoilt.kp (bd_l_spoilt_2 D_l_spoilt) ar_bd_l_spoilt_2 (gv_slot (pv 0) (gv_dat (ge_var (pv 1)) (gv_nil)))))) (gs_nil))))
    (gs_cons (gs_par (i := 3) (j := 4) rfl sc_l_right.nd rfl rfl (by decide) rfl rfl (ga_cons (ge_callA okL O_l_due (hr.mono (by decide)) hg (takes_of rfl rfl rfl rfl) (by rfl) (c.glo 46) D_l_due.kp (bd_l_due_1 D_l_due) ar_bd_l_due_1 (gv_dat (ge_var (pv 1)) (gv_nil))) (ga_cons (ge_callBL (c_reprE hg hr.units) (by rfl) (c.free 34) (by decide +kernel) (ga_cons (ge_var (pv 1)) (ga_nil))) (ga_nil))) rfl)
    (gs_one (gs_ret (ge_and (ge_cmp (o_eq hr.units) (ge_callB (c_reprE hg hr.units) (by rfl) (c.free 34) (by decide +kernel) (ga_cons (ge_callA okL O_l_told (hr.mono (by decide)) hg (takes_of rfl rfl rfl rfl) (by rfl) (c.glo 117) D_l_told.kp (bd_l_told_1 D_l_told) ar_bd_l_told_1 (gv_dat (ge_var (pv 1)) (gv_nil))) (ga_nil))) (ge_callB (c_reprE hg hr.units) (by rfl) (c.free 34) (by decide +kernel) (ga_cons (ge_var (pv 3)) (ga_nil))) (nomark _)) (ge_one (ge_cmp (o_eq hr.units) (ge_callBL (c_reprE hg hr.units) (by rfl) (c.free 34) (by decide +kernel) (ga_cons (ge_var (pv 1)) (ga_nil))) (ge_var (pv 4)) (nomark _))))))))
theorem sc_law : FnScope ["_law_script", "_law_k", "_law_some", "_law_rng_here", "_law_row", "_law_turn", "$h"] ["_law_script"] (defScope s_law) := ⟨rfl, rfl, rfl, by decide +kernel, rfl, by decide +kernel, by decide +kernel⟩
def m_law : MS :=
    mSeq (mFor (mIts range1 (mCons (mCall maxC (mCons (mC (.int 1)) (mCons (mCall minC (mCons (mC (.int 8)) (mCons (mCall lenC (mCons (mVar 0) (mNil))) (mNil)))) (mNil)))) (mNil))) (gNm 1) (mSeq (mSetF 3 (lCall F_l_rng 2 (vDat (mVar 0) (vDat (mVar 1) (vNil)))))
    (mIfS (cNot (cTruth (mCall allC (mCons (mLc (mIts range1 (mCons (mC (.int 6)) (mNil))) (cgN 5) (cYes) (mCallA (applyT 6 F_l_right) 1 0 (fun as bs => [as.getD 0 (.dat .non)]) (vSlot 3 (vNil)) vNil) [5]) (mNil))))) (mRet (mC (.bl false))) (mNext))))
    (mSeq (mAsg (mLst (mCons (mLst (mCons (m2 mulD (mLst (mCons (mC (.int 0)) (mNil))) (mC (.int 24))) (mCons (mC (.int 12)) (mCons (mC (.int 0)) (mNil))))) (mCons (mLst (mCons (m2 mulD (mLst (mCons (mC (.int 2000)) (mNil))) (mC (.int 24))) (mCons (mC (.int 12)) (mCons (mC (.int 2000)) (mNil))))) (mCons (mLst (mCons (mLst (mCons (mC (.int 0)) (mCons (mC (.int 2000)) (mNil)))) (mCons (mC (.int 1)) (mCons (mC (.int 2000)) (mNil))))) (mCons (mLst (mCons (mLst (mCons (mC (.int 5)) (mNil))) (mCons (mC (.int 1)) (mCons (mC (.int 0)) (mNil))))) (mNil)))))) (gNm 2))
    (mSeq (mAsg (m2 addD (mVar 2) (mLst (mCons (mLst (mCons (mLst (mCons (mC (.int 0)) (mCons (mC (.int 1)) (mNil)))) (mCons (mC (.int 2)) (mCons (mC (.int 0)) (mNil))))) (mCons (mLst (mCons (mLst (mCons (mC (.int 1)) (mCons (mC (.int 2)) (mNil)))) (mCons (mC (.int 2)) (mCons (mC (.int 0)) (mNil))))) (mNil))))) (gNm 2))
    (mSeq (mIfS (cTruth (m2 neD (mLc (mItems (mVar 2)) (cgN 4) (cYes) (mCallF F_l_told 1 0 (fun as bs => [as.getD 0 (.dat .non)]) (vDat (mVar 4) (vNil)) vNil) [4]) (mLst (mCons (mC .non) (mCons (mC .non) (mCons (mC .non) (mCons (mC .non) (mCons (mTup (mCons (mC (.str "gain")) (mCons (mC (.int 0)) (mNil)))) (mCons (mTup (mCons (mC (.str "gain")) (mCons (mC (.int 0)) (mNil)))) (mNil)))))))))) (mRet (mC (.bl false))) (mNext))
    (mRet (m2 eqD (mLc (mItems (mLst (mCons (mLst (mCons (mLst (mCons (mC (.int 3)) (mCons (mC (.int 2)) (mCons (mC (.bl true)) (mNil))))) (mCons (mC (.int 5)) (mCons (m1 negD (mC (.int 1))) (mNil))))) (mCons (mLst (mCons (m2 mulD (mLst (mCons (mC (.int 1)) (mNil))) (mC (.int 25))) (mCons (mC (.int 1)) (mCons (mC (.int 0)) (mNil))))) (mCons (mLst (mCons (mLst (mCons (mC (.int 1)) (mNil))) (mCons (mC (.int 2)) (mCons (m1 negD (mC (.int 1))) (mNil))))) (mNil)))))) (cgN 4) (cYes) (mCallF F_l_told 1 0 (fun as bs => [as.getD 0 (.dat .non)]) (vDat (mVar 4) (vNil)) vNil) [4]) (mLst (mCons (mTup (mCons (mC (.str "value")) (mCons (mC (.int 1)) (mNil)))) (mCons (mTup (mCons (mC (.str "count")) (mCons (mC (.int 0)) (mNil)))) (mCons (mTup (mCons (mC (.str "period")) (mCons (mC (.int 0)) (mNil)))) (mNil))))))))))
def F_law : List FA → Ths → RT := runDefT 1 6 m_law
theorem ok_law {P : Program} {w : World} {K : PySem.W.Frag} {mg : Str → Option Value} {base : Heap} (c : Kn fa fn K mg) {fd : FuncData} (D : FunM K d_law fd) : FnG P w K mg base (L2.CX P w) 8 (d_law.ad.a K) fd ["_law_script"] (spT ⟨He.ga K, none, []⟩ K F_law) := by
  obtain ⟨fd_l_rng, D_l_rng⟩ := c.def_ 0 (d := d_l_rng)
  have O_l_rng := ok_l_rng (P := P) (w := w) (base := base) c D_l_rng
  have B2_l_rng := bs_bd_l_rng_2 D_l_rng
  obtain ⟨fd_l_right, D_l_right⟩ := c.def_ 18 (d := d_l_right)
  have O_l_right := ok_l_right (P := P) (w := w) (base := base) c D_l_right
  have B1_l_right := bs_bd_l_right_1 D_l_right
  obtain ⟨fd_l_told, D_l_told⟩ := c.def_ 17 (d := d_l_told)
  have O_l_told := ok_l_told (P := P) (w := w) (base := base) c D_l_told
  have B1_l_told := bs_bd_l_told_1 D_l_told
  exact fnT_of D sc_law rfl rfl (by decide) fun cdv A outer s H E hr hg =>
    gs_cons (gs_for (passes_of rfl) rfl (gi_range1 (by rfl) (c.free 3) (ga_cons (ge_callB (c_max rfl) (by rfl) (c.free 2) (by decide +kernel) (ga_cons (ge_int) (ga_cons (ge_callB (c_min rfl) (by rfl) (c.free 1) (by decide +kernel) (ga_cons (ge_int) (ga_cons (ge_callB c_len (by rfl) (c.free 0) (by decide +kernel) (ga_cons (ge_var (pv 0)) (ga_nil))) (ga_nil)))) (ga_nil)))) (ga_nil))) (gg_name (pg_name (i := 1) sc_law.nd rfl (by first | exact .inl rfl | exact .inr rfl))) (gs_cons (gs_setF (i := 3) sc_law.nd rfl (by first | exact .inl rfl | exact .inr rfl) (gl_call O_l_rng (hr.mono (by decide)) hg (takes_of rfl rfl rfl rfl) (by rfl) (c.glo 6) D_l_rng.kp B2_l_rng (gv_dat (ge_var (pv 0)) (gv_dat (ge_var (pv 1)) (gv_nil)))))
    (gs_one (gs_if (gt_not (gt_val (ge_callB (c_all rfl) (by rfl) (c.free 119) (by decide +kernel) (ga_cons (ge_lc (own := [("_law_turn", 5)]) rfl sc_law.nd (gi_range1 (by rfl) (c.free 3) (ga_cons (ge_int) (ga_nil))) (blkOk_by (by rfl)) (tg_name 5) (fun _ _ _ _ _ => pg_name (i := 5) sc_law.nd rfl (by first | exact .inl rfl | exact .inr rfl)) (fun _ _ _ _ _ => pts_of rfl) (fun _ _ _ _ _ => ge_callA okT O_l_right (hr.mono (by decide)) hg Mir.takes0 (by rfl) (c.glo 118) D_l_right.kp (bd_l_right_1 D_l_right) ar_bd_l_right_1 (gv_slot (pv 3) (gv_nil)))) (ga_nil))))) (gs_one (gs_ret (ge_bl))) (gs_nil)))))
    (gs_cons (gs_set (i := 2) sc_law.nd rfl (by first | exact .inl rfl | exact .inr rfl) (ge_lst (ga_cons (ge_lst (ga_cons (ge_op o_mul (ge_lst (ga_cons (ge_int) (ga_nil))) (ge_int)) (ga_cons (ge_int) (ga_cons (ge_int) (ga_nil))))) (ga_cons (ge_lst (ga_cons (ge_op o_mul (ge_lst (ga_cons (ge_int) (ga_nil))) (ge_int)) (ga_cons (ge_int) (ga_cons (ge_int) (ga_nil))))) (ga_cons (ge_lst (ga_cons (ge_lst (ga_cons (ge_int) (ga_cons (ge_int) (ga_nil)))) (ga_cons (ge_int) (ga_cons (ge_int) (ga_nil))))) (ga_cons (ge_lst (ga_cons (ge_lst (ga_cons (ge_int) (ga_nil))) (ga_cons (ge_int) (ga_cons (ge_int) (ga_nil))))) (ga_nil)))))))
    (gs_cons (gs_set (i := 2) sc_law.nd rfl (by first | exact .inl rfl | exact .inr rfl) (ge_op o_add (ge_var (pv 2)) (ge_lst (ga_cons (ge_lst (ga_cons (ge_lst (ga_cons (ge_int) (ga_cons (ge_int) (ga_nil)))) (ga_cons (ge_int) (ga_cons (ge_int) (ga_nil))))) (ga_cons (ge_lst (ga_cons (ge_lst (ga_cons (ge_int) (ga_cons (ge_int) (ga_nil)))) (ga_cons (ge_int) (ga_cons (ge_int) (ga_nil))))) (ga_nil))))))
    (gs_cons (gs_if (gt_cmp (o_ne hr.units) (ge_lc (own := [("_law_row", 4)]) rfl sc_law.nd (gi_seq (ge_var (pv 2))) (blkOk_by (by rfl)) (tg_name 4) (fun _ _ _ _ _ => pg_name (i := 4) sc_law.nd rfl (by first | exact .inl rfl | exact .inr rfl)) (fun _ _ _ _ _ => pts_of rfl) (fun _ _ _ _ _ => ge_callF O_l_told (hr.mono (by decide)) hg Mir.takes0 (by rfl) (c.glo 117) D_l_told.kp (bd_l_told_1 D_l_told) ar_bd_l_told_1 (gv_dat (ge_var (pv 4)) (gv_nil)))) (ge_lst (ga_cons (ge_non) (ga_cons (ge_non) (ga_cons (ge_non) (ga_cons (ge_non) (ga_cons (ge_tup (ga_cons (ge_str) (ga_cons (ge_int) (ga_nil)))) (ga_cons (ge_tup (ga_cons (ge_str) (ga_cons (ge_int) (ga_nil)))) (ga_nil)))))))) (nomark _)) (gs_one (gs_ret (ge_bl))) (gs_nil))
    (gs_one (gs_ret (ge_cmp (o_eq hr.units) (ge_lc (own := [("_law_row", 4)]) rfl sc_law.nd (gi_seq (ge_lst (ga_cons (ge_lst (ga_cons (ge_lst (ga_cons (ge_int) (ga_cons (ge_int) (ga_cons (ge_bl) (ga_nil))))) (ga_cons (ge_int) (ga_cons (ge_un u_neg (ge_int)) (ga_nil))))) (ga_cons (ge_lst (ga_cons (ge_op o_mul (ge_lst (ga_cons (ge_int) (ga_nil))) (ge_int)) (ga_cons (ge_int) (ga_cons (ge_int) (ga_nil))))) (ga_cons (ge_lst (ga_cons (ge_lst (ga_cons (ge_int) (ga_nil))) (ga_cons (ge_int) (ga_cons (ge_un u_neg (ge_int)) (ga_nil))))) (ga_nil)))))) (blkOk_by (by rfl)) (tg_name 4) (fun _ _ _ _ _ => pg_name (i := 4) sc_law.nd rfl (by first | exact .inl rfl | exact .inr rfl)) (fun _ _ _ _ _ => pts_of rfl) (fun _ _ _ _ _ => ge_callF O_l_told (hr.mono (by decide)) hg Mir.takes0 (by rfl) (c.glo 117) D_l_told.kp (bd_l_told_1 D_l_told) ar_bd_l_told_1 (gv_dat (ge_var (pv 4)) (gv_nil)))) (ge_lst (ga_cons (ge_tup (ga_cons (ge_str) (ga_cons (ge_int) (ga_nil)))) (ga_cons (ge_tup (ga_cons (ge_str) (ga_cons (ge_int) (ga_nil)))) (ga_cons (ge_tup (ga_cons (ge_str) (ga_cons (ge_int) (ga_nil)))) (ga_nil))))) (nomark _)))))))
end
end K12
-- level 8, facts 121
namespace K12
open PySem PySem.Spec PyProof.Rows L2 Mir
def nm0 : List PySem.Str := ["_wall", "__name__", "DueError", "InvalidCurve", "InvalidPiece", "InvalidLength", "InvalidCount", "InvalidRecord", "NotGood", "TooLong", "MAX_VALUES", "PERIODS", "COMMON", "MAX_VALUE", "is_integer", "is_count", "divisor", "value_at", "grows_by", "form_of", "check_values", "check_growth", "Curve", "MadeCurve", "_law_rng", "_law_draw", "_law_choice", "_law_written", "_law_odd_value", "_law_spoilt"]
def nm1 : List PySem.Str := ["_law_is_count", "_law_due", "_law_told", "_law_right"]
def nms : List PySem.Str := nm0 ++ nm1
abbrev R : PySem.W.OpenRow := PySem.W.OpenLaw.row PySem.Challenge.rw_dueways_k12_invalid_curves_in_sequence
def adr : List Nat := [2, 3, 6, 4, 21, 31, 51, 70, 89, 108, 127, 146, 166, 170, 177, 185, 192, 199, 206, 211, 218, 225, 359, 380, 389, 396, 403, 410, 417, 422, 429, 434, 441, 448, 453, 0, 20, 30, 50, 69, 88, 107, 126, 145, 165, 176, 184, 178, 191, 198, 205, 210, 217, 224, 358, 379, 388, 395, 402, 409, 416, 421, 428, 433, 440, 447, 452, 15, 16, 17, 18, 19, 29, 32, 48, 49, 67, 68, 86, 87, 105, 106, 124, 125, 143, 144, 147, 163, 164, 167, 171, 172, 173, 174, 175, 179, 180, 181, 182, 183, 186, 187, 188, 189, 190, 193, 194, 195, 196, 197, 200, 201, 202, 203, 204, 207, 208, 209, 212, 213, 214, 215, 216, 219, 220, 221, 222, 223, 240, 249, 258, 266, 274, 281, 288, 295, 302, 309, 316, 323, 330, 337, 344, 351, 356, 357, 360, 361, 377, 378, 383, 384, 385, 386, 387, 390, 391, 392, 393, 394, 397, 398, 399, 400, 401, 404, 405, 406, 407, 408, 411, 412, 413, 414, 415, 418, 419, 420, 423, 424, 425, 426, 427, 430, 431, 432, 435, 436, 437, 438, 439, 442, 443, 444, 445, 446, 449, 450, 451, 47, 66, 85, 104, 123, 142, 162, 239, 233, 247, 248, 257, 265, 273, 280, 287, 294, 301, 308, 315, 322, 329, 336, 343, 350, 355, 376, 42, 43, 44, 45, 46, 61, 62, 63, 64, 65, 80, 81, 82, 83, 84, 99, 100, 101, 102, 103, 118, 119, 120, 121, 122, 137, 138, 139, 140, 141, 157, 158, 159, 160, 161, 234, 235, 236, 237, 238, 246, 250, 256, 264, 272, 275, 276, 277, 278, 279, 282, 283, 284, 285, 286, 289, 290, 291, 292, 293, 296, 297, 298, 299, 300, 303, 304, 305, 306, 307, 310, 311, 312, 313, 314, 317, 318, 319, 320, 321, 324, 325, 326, 327, 328, 331, 332, 333, 334, 335, 338, 339, 340, 341, 342, 345, 346, 347, 348, 349, 352, 353, 354, 371, 372, 373, 374, 375, 241, 242, 243, 244, 245, 251, 252, 253, 254, 255, 259, 260, 261, 262, 263, 267, 268, 269, 270, 271]
def hookA (as : List Addr) (fa : List Fc) (fn : List DefM) : PySem.W.Hook where
  α := He.AlD
  obs := fun s => obsM fa fn (He.frG s.heap.get? as)
  val := fun _ => (true, fn.map DefM.val)
  says := fun _ h => ∃ K : PySem.W.Frag, K.In h ∧ SaysM fa fn K
  of := fun _ _ e => ⟨_, He.frG_in, e⟩
  keeps := fun _ _ _ ⟨K, a, c⟩ k => ⟨K, PySem.W.Frag.In.keeps a k, c⟩
abbrev hk : PySem.W.Hook := hookA adr fa fn
def ob (s : PySem.W.SharedT) : He.AlD := obsM fa fn (He.frG (HandSHeadRun.getT s) adr)
theorem ob_eq (s : PySem.W.SharedT) : ob s = hk.obs s.abs := by
  have e : HandSHeadRun.getT s = s.abs.heap.get? := funext (HandSHeadRun.getT_eq s)
  show obsM fa fn (He.frG (HandSHeadRun.getT s) adr) = obsM fa fn (He.frG s.abs.heap.get? adr)
  rw [e]
section
open PySem.Calls PySem.W
theorem run_a (w : World) (os : OsState) : (HandSHeadRun.endF (HandSHeadRun.stepQ (HandSHeadRun.denQ HandSHeadRun.tabQ) R.prog w) 20000 R.prog w os).map (fun s => HandSHeadRun.looksF R.prog (boot_heap w.params) s.abs) = some (true) := by
  kernel_rfl
theorem run_b (w : World) (os : OsState) : (HandSHeadRun.endF (HandSHeadRun.stepQ (HandSHeadRun.denQ HandSHeadRun.tabQ) R.prog w) 20000 R.prog w os).map (fun s => HandSHeadRun.seenQ (PySem.W.view R.prog [36]) nms (importedModules R.prog.main.body) (fun s => PySem.W.xlAt (PySem.W.view R.prog [36]) [] s && PySem.W.recOk R.toRowW.records s) s.abs) = some (PySem.W.openGood (PySem.W.view R.prog [36]) nms) := by
  kernel_rfl
theorem run_c (w : World) (os : OsState) : (HandSHeadRun.endF (HandSHeadRun.stepQ (HandSHeadRun.denQ HandSHeadRun.tabQ) R.prog w) 20000 R.prog w os).map (fun s => ob s) = some (hk.val w) := by
  kernel_rfl
theorem run3 {α β γ δ : Type} {o : Option α} {f : α → β} {g : α → γ} {h : α → δ} {x : β} {y : γ} {z : δ} (a : o.map f = some x) (b : o.map g = some y) (c : o.map h = some z) : o.map (fun s => (f s, g s, h s)) = some (x, y, z) := by
  cases o with
  | none => cases a
  | some s =>
    cases a; cases b; cases c; rfl
theorem run (w : World) : HandSHeadRun.RunEq R (PySem.W.view R.prog [36]) hk ob 20000 nms w := fun os => run3 (run_a w os) (run_b w os) (run_c w os)
end
theorem facts {P : Program} {w : World} {K : PySem.W.Frag} {h : Heap} {mg : Str → Option Value} {f : Addr} (X : K.In h) (G : h.Ns mainGlobals mg) (hf : mg ("law" : Str) = some (.ref f)) (z : SaysM fa fn K) :
    ∃ (fd : FuncData), (∀ (s : Shared) (v : Value), BindsTo s fd ⟨[v], []⟩ [("_law_script", v)]) ∧ ∀ base : Heap, K.In base → base.Ns mainGlobals mg → FnG P w K mg base (L2.CX P w) 8 f fd ["_law_script"] (spT ⟨He.ga K, none, []⟩ K F_law) := by
  have c : Kn fa fn K mg := ⟨⟨h, X, G⟩, z⟩
  obtain ⟨fd, D⟩ := c.def_ 19 (d := d_law)
  cases hf.symm.trans (c.glo 120)
  have b := FunD.bindsA (ps := ["_law_script"]) D fun _ _ _ _ _ _ us hl => match us, hl with | [_], _ => rfl
  exact ⟨fd, fun s v => b s [v] rfl, fun base _ _ => ok_law c D⟩
end K12
open PySem PySem.W PySem.Calls PyProof.Rows in
theorem K12.closed (good : ∀ ns : List Int, ns.length ≤ 63 → ∃ T, K12.F_law [.dat (.ro (ns.map .int))] [] = .ok (.bl true) [] T) : PySem.Challenge.rw_dueways_k12_invalid_curves_in_sequence.Holds := by
  w_on; o_law
  refine HandSHeadRun.head_any (r := OpenLaw.row PySem.Challenge.rw_dueways_k12_invalid_curves_in_sequence) (q := view (OpenLaw.row PySem.Challenge.rw_dueways_k12_invalid_curves_in_sequence).prog [36]) (H := K12.hk) (ob := K12.ob) (M := 20000) (loose := K12.nms) (d := HandSHeadRun.topDef (OpenLaw.row PySem.Challenge.rw_dueways_k12_invalid_curves_in_sequence).prog 36) (kwd := []) K12.ob_eq
    (by kernel_rfl) (fun s => by kernel_rfl) K12.run (by kernel_rfl) (by kernel_rfl) (by kernel_rfl) (by rfl) (by first | assumption | decide +kernel) (by decide +kernel) ⟨rfl, rfl, rfl, rfl, rfl, by decide +kernel⟩ ?hw ?hc
  case hw => w_witness2
  case hc =>
    refine Mir.end_ofMT (l := PySem.Challenge.rw_dueways_k12_invalid_curves_in_sequence) (n := 63) (k := 8) (x := "_law_script") (Fn := K12.F_law) rfl (by decide) (by kernel_rfl) ⟨rfl, by decide, by decide⟩ ?F good
    intro w mg fa h Y G hm
    obtain ⟨K, KX, z⟩ := Y
    have hm2 : mg ("law" : PySem.Str) = some (.ref fa) := by
      have e : (HandSHeadRun.topDef (OpenLaw.row PySem.Challenge.rw_dueways_k12_invalid_curves_in_sequence).prog 36).name = ("law" : PySem.Str) := by kernel_rfl
      rw [← e]
      exact hm
    obtain ⟨fd, hb, hF⟩ := K12.facts (P := (PySem.Challenge.rw_dueways_k12_invalid_curves_in_sequence).prog) (w := w) KX G hm2 z
    exact ⟨K, fd, ⟨He.ga K, none, []⟩, KX, hb, hF⟩
-- level 8, facts 121

/-! CrvM: curves, the plain side: a form's values; two forms with one function -/
namespace Crv
/-- the value of the form (vs, p, g) at a length -/
def vat (vs : List Int) (p : Nat) (g : Int) (l : Nat) : Int :=
  if l = 0 then 0 else if l ≤ vs.length then vs.getD (l - 1) 0
  else vs.getD (l - (l - vs.length + p - 1) / p * p - 1) 0 + ((l - vs.length + p - 1) / p : Nat) * g
theorem vat_zero (vs : List Int) (p : Nat) (g : Int) : vat vs p g 0 = 0 := rfl
theorem vat_in {vs : List Int} {p : Nat} {g : Int} {l : Nat} (h0 : l ≠ 0) (h : l ≤ vs.length) : vat vs p g l = vs.getD (l - 1) 0 := by
  unfold vat
  rw [if_neg h0, if_pos h]
theorem vat_out {vs : List Int} {p : Nat} {g : Int} {l : Nat} (h : vs.length < l) : vat vs p g l = vs.getD (l - (l - vs.length + p - 1) / p * p - 1) 0 + ((l - vs.length + p - 1) / p : Nat) * g := by
  unfold vat
  rw [if_neg (by omega), if_neg (by omega)]
/-- behind the values: the value one period earlier, and the gain -/
theorem vat_step {vs : List Int} {p : Nat} {g : Int} {l : Nat} (hp : 0 < p) (hn : p ≤ vs.length) (h : vs.length < l) : vat vs p g l = vat vs p g (l - p) + g := by
  rw [vat_out h]
  by_cases hz : vs.length < l - p
  · rw [vat_out hz]
    have e : l - vs.length + p - 1 = (l - p - vs.length + p - 1) + p := by omega
    have d : (l - vs.length + p - 1) / p = (l - p - vs.length + p - 1) / p + 1 := by rw [e, Nat.add_div_right _ hp]
    rw [d]
    have m : ((l - p - vs.length + p - 1) / p + 1) * p = (l - p - vs.length + p - 1) / p * p + p := Nat.succ_mul _ _
    rw [m, show l - ((l - p - vs.length + p - 1) / p * p + p) - 1 = l - p - (l - p - vs.length + p - 1) / p * p - 1 by omega]
    rw [Int.natCast_add, Int.add_mul]
    simp only [Int.natCast_one, Int.one_mul]
    omega
  · have d : (l - vs.length + p - 1) / p = 1 := by
      have h1 : p ≤ l - vs.length + p - 1 := by omega
      have h2 : l - vs.length + p - 1 < 2 * p := by omega
      exact Nat.div_eq_of_lt_le (by omega) (by omega)
    rw [d, vat_in (l := l - p) (by omega) (by omega)]
    simp only [Nat.one_mul, Int.natCast_one, Int.one_mul]
/-- what tells a form's function -/
structure Fits (f : Nat → Int) (vs : List Int) (p : Nat) (g : Int) : Prop where
  p0 : 0 < p
  pn : p ≤ vs.length
  z : f 0 = 0
  i : ∀ l, l ≠ 0 → l ≤ vs.length → f l = vs.getD (l - 1) 0
  o : ∀ l, vs.length < l → f l = f (l - p) + g
theorem fits_vat {vs : List Int} {p : Nat} {g : Int} (hp : 0 < p) (hn : p ≤ vs.length) : Fits (vat vs p g) vs p g :=
  ⟨hp, hn, rfl, fun l h0 h => vat_in h0 h, fun l h => vat_step hp hn h⟩
theorem Fits.eq {f : Nat → Int} {vs : List Int} {p : Nat} {g : Int} (F : Fits f vs p g) : ∀ l, f l = vat vs p g l := by
  intro l
  induction l using Nat.strongRecOn with
  | _ l ih =>
    by_cases h0 : l = 0
    · rw [h0, F.z, vat_zero]
    · by_cases h : l ≤ vs.length
      · rw [F.i l h0 h, vat_in h0 h]
      · have hp := F.p0
        rw [F.o l (by omega), vat_step F.p0 F.pn (by omega), ih (l - p) (by omega)]
/-- growth by a period, told at twelve lengths, holds for ever -/
theorem grows_all {f : Nat → Int} {vs : List Int} {p : Nat} {g : Int} (F : Fits f vs p g) (hd : p ∣ 12) {q : Nat} {w : Int} (h : ∀ k, k < 12 → f (vs.length + 1 + k + q) - f (vs.length + 1 + k) = w) : ∀ l, vs.length < l → f (l + q) = f l + w := by
  have up : ∀ m l, vs.length < l → f (l + m * p) = f l + m * g := by
    intro m
    induction m with
    | zero => intro l _; simp
    | succ m ih =>
      intro l hl
      have hp := F.p0
      have e : l + (m + 1) * p = (l + m * p) + p := by rw [Nat.succ_mul]; omega
      rw [e, F.o (l + m * p + p) (by omega), Nat.add_sub_cancel, ih l hl]
      rw [Int.natCast_add, Int.add_mul]
      simp only [Int.natCast_one, Int.one_mul]
      omega
  obtain ⟨c, hc⟩ := hd
  have up12 : ∀ l, vs.length < l → f (l + 12) = f l + c * g := fun l hl => by
    have := up c l hl
    rw [Nat.mul_comm, ← hc] at this
    exact this
  intro l
  induction l using Nat.strongRecOn with
  | _ l ih =>
    intro hl
    by_cases hz : l < vs.length + 13
    · have := h (l - vs.length - 1) (by omega)
      rw [show vs.length + 1 + (l - vs.length - 1) = l by omega] at this
      omega
    · have i1 := ih (l - 12) (by omega) (by omega)
      have i2 := up12 (l - 12) (by omega)
      have i3 := up12 (l - 12 + q) (by omega)
      rw [show l - 12 + 12 = l by omega] at i2
      rw [show l - 12 + q + 12 = l + q by omega] at i3
      omega
/-- the first m values of a function -/
def firsts (f : Nat → Int) (m : Nat) : List Int := (List.range m).map fun k => f (k + 1)
theorem firsts_len (f : Nat → Int) (m : Nat) : (firsts f m).length = m := by unfold firsts; simp
theorem firsts_at (f : Nat → Int) {m l : Nat} (h0 : l ≠ 0) (h : l ≤ m) : (firsts f m).getD (l - 1) 0 = f l := by
  unfold firsts
  rw [List.getD_eq_getElem?_getD, List.getElem?_map, List.getElem?_range (by omega)]
  simp only [Option.map_some, Option.getD_some]
  congr 1
  omega
theorem firsts_fit {f : Nat → Int} {m q : Nat} {w : Int} (z : f 0 = 0) (q0 : 0 < q) (qm : q ≤ m) (h : ∀ l, m < l → f l = f (l - q) + w) : Fits f (firsts f m) q w :=
  ⟨q0, by rw [firsts_len]; exact qm, z, fun l h0 hl => by rw [firsts_len] at hl; exact (firsts_at f h0 hl).symm, fun l hl => by rw [firsts_len] at hl; exact h l hl⟩
end Crv
namespace K12
open PySem Mir
noncomputable section
def cCurveF (a : (List Int) × Int × Int) : List (Str × Dat) := [("value_list", (eL eI) a.1), ("own_period", eI a.2.1), ("own_gain", eI a.2.2)]
theorem pt_Curve_0 {d : Dat} : putD ("value_list" : Str) d [] = ([("value_list", d)] : List (Str × Dat)) := by simp [putD]
theorem pt_Curve_1 {d x0 : Dat} : putD ("own_period" : Str) d [("value_list", x0)] = ([("value_list", x0), ("own_period", d)] : List (Str × Dat)) := by simp [putD, show (("value_list" : Str) == "own_period") = false by decide, show ¬ (("value_list" : Str) = "own_period") by decide, show (("own_period" : Str) == "value_list") = false by decide, show ¬ (("own_period" : Str) = "value_list") by decide]
theorem pt_Curve_2 {d x0 x1 : Dat} : putD ("own_gain" : Str) d [("value_list", x0), ("own_period", x1)] = ([("value_list", x0), ("own_period", x1), ("own_gain", d)] : List (Str × Dat)) := by simp [putD, show (("value_list" : Str) == "own_period") = false by decide, show ¬ (("value_list" : Str) = "own_period") by decide, show (("value_list" : Str) == "own_gain") = false by decide, show ¬ (("value_list" : Str) = "own_gain") by decide, show (("own_period" : Str) == "value_list") = false by decide, show ¬ (("own_period" : Str) = "value_list") by decide, show (("own_period" : Str) == "own_gain") = false by decide, show ¬ (("own_period" : Str) = "own_gain") by decide, show (("own_gain" : Str) == "value_list") = false by decide, show ¬ (("own_gain" : Str) = "value_list") by decide, show (("own_gain" : Str) == "own_period") = false by decide, show ¬ (("own_gain" : Str) = "own_period") by decide]
def N_xi_InvalidCurve (p_problem p_position : Dat) : Option (List (Str × Dat)) :=
  (reprS (eD p_problem)).bind fun x1 => (reprS (eD p_position)).bind fun x2 => (fcat Str.empty [("invalid curve: " : Str), x1, (", " : Str), x2]).bind fun x3 => some [("position", p_position), ("problem", p_problem)]
theorem n_xi_InvalidCurve {p_problem p_position : Dat} {fs : List (Str × Dat)} (hN : N_xi_InvalidCurve p_problem p_position = some fs) : X_InvalidCurve_init0 [p_problem, p_position] = some fs := by
  unfold N_xi_InvalidCurve at hN
  obtain ⟨x1, hx1, hN⟩ := bind_some hN
  obtain ⟨x2, hx2, hN⟩ := bind_some hN
  obtain ⟨x3, hx3, hN⟩ := bind_some hN
  obtain rfl := Option.some.inj hN
  exact fx_of rfl (x_fstr (j_consN x_C hx3 (fun h => j_consN (x_1 (x_var rfl) (q_fmtR hx1)) h (fun h => j_consN x_C h (fun h => j_consN (x_1 (x_var rfl) (q_fmtR hx2)) h (fun h => j_nilN h)))))) rfl
theorem draw_run (s : Rg) {n : Int} (h : 0 < n) (h2 : n < 1073741824) : F_l_draw [.own s.own, .dat (.int n)] = .ok (.int (s.val n)) [(s.next n).own] := by
  have nb := nb_small s
  have sm := small_of s.b0 s.b1
  by_cases hz : 0 < s.a
  · simp [F_l_draw, m_l_draw, Rg.own, Rg.ds, r_seq, r_next, r_retN, r_break, r_cont, r_never, r_ret, r_drop, r_ifS, r_asg, r_nm, r_setF', r_lLst, r_lList, r_par, r_app, r_for, r_its, r_items, r_gIx, r_tpN, r_gcs, r_gnl, r_stF, r_C, r_2, r_1, r_nil, r_cons, r_call, r_lst, r_tup, r_if, r_and, r_or, r_not, r_truth, r_cand, r_cor, r_cnot, r_chain, r_ixS, r_opP, r_jn, r_callF, r_apply, r_vnil, r_vdat, r_vslot, r_make, r_prop, seqK_nx, seqK_rt, seqK_bk, seqK_ct, seqK_exc, seqK_bad, seqK_ite, retK_ok, retK_ite, dropK_ok, ifSK_ok, ifSK_ite, asgK_ok, asgK_ite, stK_ok, setFK_ok, lLstK_ok, lListK_lst, lListK_tup, lListK_ro, parK_ok, appK_ok, forK_ok, ofK_ok, itemsK_ok, gIxK_ok, gCsK_ok, stFK_ok, k2_ok, k2b_ok, k2_ite, k2b_ite, k1_ok, kc_ok, kc2_ok, kc_ite, kc2_ite, kf_ok, kf_ite, kIf_ok, kIf_ite, kAnd_bl, kOr_bl, kAnd_ite, kOr_ite, kNot_bl, kNot_ite, kTr_bl, kTr_ite, cAndK_ok, cOrK_ok, cNotK_ok, cAndK_ite, cOrK_ite, cNotK_ite, kCh_ok, kCh2_ok, kCh3_bl, ixSK_ok, opPK_ok, jnK_ok, fFK_ok, apK_some, cfK_ok, cfK2_ok, vd_ok, vd2_ok, vd_ite, vs2_ok, mkK_ok, mkK2_ok, propK_ok, Rs.of_some, Rs.of_none, Rs.bind_ok, Rs.bind_bad, Rs.bind_exc, Rs.calm_ok, mVar, isMut, listAt, isLent, fetch, wb, putS, nodupB, setAt, appAt, mkSlots, nOwn, runDef, endF, outsFrom, findOwn, L2.ixN, L2.atI, intD, ixD, List.getElem?_cons_zero, List.getElem?_cons_succ, List.set_cons_zero, List.set_cons_succ, List.length_cons, List.length_nil, List.replicate, List.cons_append, List.nil_append, List.append_nil, List.getD_cons_zero, List.getD_cons_succ, List.contains_cons, List.contains_nil, hz, h, h2, divmodC, Rg.val, Rg.next]
  · have nb2 : small64 ((s.b * 48311 + 20011) % 2147483563) = true := nb
    simp [F_l_draw, m_l_draw, Rg.own, Rg.ds, r_seq, r_next, r_retN, r_break, r_cont, r_never, r_ret, r_drop, r_ifS, r_asg, r_nm, r_setF', r_lLst, r_lList, r_par, r_app, r_for, r_its, r_items, r_gIx, r_tpN, r_gcs, r_gnl, r_stF, r_C, r_2, r_1, r_nil, r_cons, r_call, r_lst, r_tup, r_if, r_and, r_or, r_not, r_truth, r_cand, r_cor, r_cnot, r_chain, r_ixS, r_opP, r_jn, r_callF, r_apply, r_vnil, r_vdat, r_vslot, r_make, r_prop, seqK_nx, seqK_rt, seqK_bk, seqK_ct, seqK_exc, seqK_bad, seqK_ite, retK_ok, retK_ite, dropK_ok, ifSK_ok, ifSK_ite, asgK_ok, asgK_ite, stK_ok, setFK_ok, lLstK_ok, lListK_lst, lListK_tup, lListK_ro, parK_ok, appK_ok, forK_ok, ofK_ok, itemsK_ok, gIxK_ok, gCsK_ok, stFK_ok, k2_ok, k2b_ok, k2_ite, k2b_ite, k1_ok, kc_ok, kc2_ok, kc_ite, kc2_ite, kf_ok, kf_ite, kIf_ok, kIf_ite, kAnd_bl, kOr_bl, kAnd_ite, kOr_ite, kNot_bl, kNot_ite, kTr_bl, kTr_ite, cAndK_ok, cOrK_ok, cNotK_ok, cAndK_ite, cOrK_ite, cNotK_ite, kCh_ok, kCh2_ok, kCh3_bl, ixSK_ok, opPK_ok, jnK_ok, fFK_ok, apK_some, cfK_ok, cfK2_ok, vd_ok, vd2_ok, vd_ite, vs2_ok, mkK_ok, mkK2_ok, propK_ok, Rs.of_some, Rs.of_none, Rs.bind_ok, Rs.bind_bad, Rs.bind_exc, Rs.calm_ok, mVar, isMut, listAt, isLent, fetch, wb, putS, nodupB, setAt, appAt, mkSlots, nOwn, runDef, endF, outsFrom, findOwn, L2.ixN, L2.atI, intD, ixD, List.getElem?_cons_zero, List.getElem?_cons_succ, List.set_cons_zero, List.set_cons_succ, List.length_cons, List.length_nil, List.replicate, List.cons_append, List.nil_append, List.append_nil, List.getD_cons_zero, List.getD_cons_succ, List.contains_cons, List.contains_nil, hz, h, h2, Rg.val, Rg.next, Rg.nb, addD, mulD, mulI, intC, sm, nb2]
theorem n_draw {s : Rg} {n : Int} {r : Int × Rg} (h : drawN s n = some r) : F_l_draw [.own s.own, .dat (.int n)] = .ok (.int r.1) [r.2.own] := by
  unfold drawN at h
  split at h
  · rename_i z; cases h; exact draw_run s z.1 z.2
  · cases h
theorem absI_run (c : Int) : absC [.int c] = some (.int (c.natAbs : Int)) := by
  show some (Dat.int (if c < 0 then -c else c)) = _
  congr 2
  split <;> omega
theorem rng_run (ns : List Int) (k : Nat) (hk : k ≤ 60) : F_l_rng [.ro (ns.map .int), .int (k : Int)] = some (rngN ns k).ds := by
  have s7 : small64 7 = true := by decide
  have s2 : small64 2 = true := by decide
  have na : (2 * (k : Int) + 5).natAbs < 18446744073709551616 := by omega
  have st : (mIfS (cTruth (m2 ltD (mVar 1) (mCall lenC (mCons (mVar 0) (mNil))))) (mAsg (m2 ixD (mVar 0) (mVar 1)) (gNm 2)) (mNext)) [.dat (.ro (ns.map .int)), .dat (.int k), .dat (.int (7 * k + 3))] = .ok .nx [.dat (.ro (ns.map .int)), .dat (.int k), .dat (.int (ns.getD k (7 * (k : Int) + 3)))] := by
    by_cases hz : k < ns.length
    · have ix : ixD (.ro (ns.map .int)) (.int k) = some (.int (ns.getD k (7 * (k : Int) + 3))) := L2.atI_nat (j := k) (by rw [List.getElem?_map, List.getElem?_eq_getElem hz, List.getD_eq_getElem?_getD, List.getElem?_eq_getElem hz]; rfl)
      have hz2 : (k : Int) < (ns.length : Int) := by omega
      simp [r_seq, r_next, r_retN, r_break, r_cont, r_never, r_ret, r_drop, r_ifS, r_asg, r_nm, r_setF', r_lLst, r_lList, r_par, r_app, r_for, r_its, r_items, r_gIx, r_tpN, r_gcs, r_gnl, r_stF, r_C, r_2, r_1, r_nil, r_cons, r_call, r_lst, r_tup, r_if, r_and, r_or, r_not, r_truth, r_cand, r_cor, r_cnot, r_chain, r_ixS, r_opP, r_jn, r_callF, r_apply, r_vnil, r_vdat, r_vslot, r_make, r_prop, seqK_nx, seqK_rt, seqK_bk, seqK_ct, seqK_exc, seqK_bad, seqK_ite, retK_ok, retK_ite, dropK_ok, ifSK_ok, ifSK_ite, asgK_ok, asgK_ite, stK_ok, setFK_ok, lLstK_ok, lListK_lst, lListK_tup, lListK_ro, parK_ok, appK_ok, forK_ok, ofK_ok, itemsK_ok, gIxK_ok, gCsK_ok, stFK_ok, k2_ok, k2b_ok, k2_ite, k2b_ite, k1_ok, kc_ok, kc2_ok, kc_ite, kc2_ite, kf_ok, kf_ite, kIf_ok, kIf_ite, kAnd_bl, kOr_bl, kAnd_ite, kOr_ite, kNot_bl, kNot_ite, kTr_bl, kTr_ite, cAndK_ok, cOrK_ok, cNotK_ok, cAndK_ite, cOrK_ite, cNotK_ite, kCh_ok, kCh2_ok, kCh3_bl, ixSK_ok, opPK_ok, jnK_ok, fFK_ok, apK_some, cfK_ok, cfK2_ok, vd_ok, vd2_ok, vd_ite, vs2_ok, mkK_ok, mkK2_ok, propK_ok, Rs.of_some, Rs.of_none, Rs.bind_ok, Rs.bind_bad, Rs.bind_exc, Rs.calm_ok, mVar, isMut, listAt, isLent, fetch, wb, putS, nodupB, setAt, appAt, mkSlots, nOwn, runDef, endF, outsFrom, findOwn, intD, List.getElem?_cons_zero, List.getElem?_cons_succ, List.set_cons_zero, List.set_cons_succ, List.length_cons, List.length_nil, List.replicate, List.cons_append, List.nil_append, List.append_nil, List.getD_cons_zero, List.getD_cons_succ, List.contains_cons, List.contains_nil, lenC, ix, hz, hz2]
    · have hz2 : ¬ (k : Int) < (ns.length : Int) := by omega
      have e : ns.getD k (7 * (k : Int) + 3) = 7 * (k : Int) + 3 := by rw [List.getD_eq_getElem?_getD, List.getElem?_eq_none (by omega)]; rfl
      rw [e]
      simp [r_seq, r_next, r_retN, r_break, r_cont, r_never, r_ret, r_drop, r_ifS, r_asg, r_nm, r_setF', r_lLst, r_lList, r_par, r_app, r_for, r_its, r_items, r_gIx, r_tpN, r_gcs, r_gnl, r_stF, r_C, r_2, r_1, r_nil, r_cons, r_call, r_lst, r_tup, r_if, r_and, r_or, r_not, r_truth, r_cand, r_cor, r_cnot, r_chain, r_ixS, r_opP, r_jn, r_callF, r_apply, r_vnil, r_vdat, r_vslot, r_make, r_prop, seqK_nx, seqK_rt, seqK_bk, seqK_ct, seqK_exc, seqK_bad, seqK_ite, retK_ok, retK_ite, dropK_ok, ifSK_ok, ifSK_ite, asgK_ok, asgK_ite, stK_ok, setFK_ok, lLstK_ok, lListK_lst, lListK_tup, lListK_ro, parK_ok, appK_ok, forK_ok, ofK_ok, itemsK_ok, gIxK_ok, gCsK_ok, stFK_ok, k2_ok, k2b_ok, k2_ite, k2b_ite, k1_ok, kc_ok, kc2_ok, kc_ite, kc2_ite, kf_ok, kf_ite, kIf_ok, kIf_ite, kAnd_bl, kOr_bl, kAnd_ite, kOr_ite, kNot_bl, kNot_ite, kTr_bl, kTr_ite, cAndK_ok, cOrK_ok, cNotK_ok, cAndK_ite, cOrK_ite, cNotK_ite, kCh_ok, kCh2_ok, kCh3_bl, ixSK_ok, opPK_ok, jnK_ok, fFK_ok, apK_some, cfK_ok, cfK2_ok, vd_ok, vd2_ok, vd_ite, vs2_ok, mkK_ok, mkK2_ok, propK_ok, Rs.of_some, Rs.of_none, Rs.bind_ok, Rs.bind_bad, Rs.bind_exc, Rs.calm_ok, mVar, isMut, listAt, isLent, fetch, wb, putS, nodupB, setAt, appAt, mkSlots, nOwn, runDef, endF, outsFrom, findOwn, intD, List.getElem?_cons_zero, List.getElem?_cons_succ, List.set_cons_zero, List.set_cons_succ, List.length_cons, List.length_nil, List.replicate, List.cons_append, List.nil_append, List.append_nil, List.getD_cons_zero, List.getD_cons_succ, List.contains_cons, List.contains_nil, lenC, hz, hz2]
  have f1 : (mAsg (m2 addD (m2 mulD (mC (.int 7)) (mVar 1)) (mC (.int 3))) (gNm 2)) [.dat (.ro (ns.map .int)), .dat (.int k), .no] = .ok .nx [.dat (.ro (ns.map .int)), .dat (.int k), .dat (.int (7 * k + 3))] := by
    simp [r_seq, r_next, r_retN, r_break, r_cont, r_never, r_ret, r_drop, r_ifS, r_asg, r_nm, r_setF', r_lLst, r_lList, r_par, r_app, r_for, r_its, r_items, r_gIx, r_tpN, r_gcs, r_gnl, r_stF, r_C, r_2, r_1, r_nil, r_cons, r_call, r_lst, r_tup, r_if, r_and, r_or, r_not, r_truth, r_cand, r_cor, r_cnot, r_chain, r_ixS, r_opP, r_jn, r_callF, r_apply, r_vnil, r_vdat, r_vslot, r_make, r_prop, seqK_nx, seqK_rt, seqK_bk, seqK_ct, seqK_exc, seqK_bad, seqK_ite, retK_ok, retK_ite, dropK_ok, ifSK_ok, ifSK_ite, asgK_ok, asgK_ite, stK_ok, setFK_ok, lLstK_ok, lListK_lst, lListK_tup, lListK_ro, parK_ok, appK_ok, forK_ok, ofK_ok, itemsK_ok, gIxK_ok, gCsK_ok, stFK_ok, k2_ok, k2b_ok, k2_ite, k2b_ite, k1_ok, kc_ok, kc2_ok, kc_ite, kc2_ite, kf_ok, kf_ite, kIf_ok, kIf_ite, kAnd_bl, kOr_bl, kAnd_ite, kOr_ite, kNot_bl, kNot_ite, kTr_bl, kTr_ite, cAndK_ok, cOrK_ok, cNotK_ok, cAndK_ite, cOrK_ite, cNotK_ite, kCh_ok, kCh2_ok, kCh3_bl, ixSK_ok, opPK_ok, jnK_ok, fFK_ok, apK_some, cfK_ok, cfK2_ok, vd_ok, vd2_ok, vd_ite, vs2_ok, mkK_ok, mkK2_ok, propK_ok, Rs.of_some, Rs.of_none, Rs.bind_ok, Rs.bind_bad, Rs.bind_exc, Rs.calm_ok, mVar, isMut, listAt, isLent, fetch, wb, putS, nodupB, setAt, appAt, mkSlots, nOwn, runDef, endF, outsFrom, findOwn, intD, List.getElem?_cons_zero, List.getElem?_cons_succ, List.set_cons_zero, List.set_cons_succ, List.length_cons, List.length_nil, List.replicate, List.cons_append, List.nil_append, List.append_nil, List.getD_cons_zero, List.getD_cons_succ, List.contains_cons, List.contains_nil, mulD, mulI, s7, addD]
  have seqL : ∀ (m : MS) (r : Sg → Rs (List Dat)) (S S1 : Sg), m S = .ok .nx S1 → mSeqL m r S = r S1 := fun m r S S1 h => by unfold mSeqL; rw [h]
  unfold F_l_rng runL m_l_rng
  rw [if_pos (show [Dat.ro (ns.map .int), Dat.int (k : Int)].length = 2 from rfl)]
  rw [show ([Dat.ro (ns.map .int), Dat.int (k : Int)].map Slot.dat ++ List.replicate (3 - 2) Slot.no) = [.dat (.ro (ns.map .int)), .dat (.int k), .no] from rfl]
  rw [seqL _ _ _ _ f1, seqL _ _ _ _ st]
  show _ = some [Dat.int (max 0 (((ns.getD k (7 * (k : Int) + 3)).natAbs : Int) - 1000000000000000000)), Dat.int ((((ns.getD k (7 * (k : Int) + 3)).natAbs : Int) % 2147483549 + 1) * (2 * (k : Int) + 5) ^ 3 % 2147483543 + 1)]
  obtain ⟨w, hw⟩ : ∃ w : Int, ((ns.getD k (7 * (k : Int) + 3)).natAbs : Int) = w := ⟨_, rfl⟩
  have ab : absC [.int (ns.getD k (7 * (k : Int) + 3))] = some (.int w) := by rw [absI_run, hw]
  rw [hw]
  generalize ns.getD k (7 * (k : Int) + 3) = c at ab ⊢
  have m0 : 0 ≤ w % 2147483549 := Int.emod_nonneg _ (by decide)
  have m1 : w % 2147483549 < 2147483549 := Int.emod_lt_of_pos _ (by decide)
  have sm := small_of (i := w % 2147483549 + 1) (by omega) (by omega)
  have mx : ∀ x : Int, maxC [.int 0, .int x] = some (.int (max 0 x)) := fun x => q_max2
  simp [r_seq, r_next, r_retN, r_break, r_cont, r_never, r_ret, r_drop, r_ifS, r_asg, r_nm, r_setF', r_lLst, r_lList, r_par, r_app, r_for, r_its, r_items, r_gIx, r_tpN, r_gcs, r_gnl, r_stF, r_C, r_2, r_1, r_nil, r_cons, r_call, r_lst, r_tup, r_if, r_and, r_or, r_not, r_truth, r_cand, r_cor, r_cnot, r_chain, r_ixS, r_opP, r_jn, r_callF, r_apply, r_vnil, r_vdat, r_vslot, r_make, r_prop, seqK_nx, seqK_rt, seqK_bk, seqK_ct, seqK_exc, seqK_bad, seqK_ite, retK_ok, retK_ite, dropK_ok, ifSK_ok, ifSK_ite, asgK_ok, asgK_ite, stK_ok, setFK_ok, lLstK_ok, lListK_lst, lListK_tup, lListK_ro, parK_ok, appK_ok, forK_ok, ofK_ok, itemsK_ok, gIxK_ok, gCsK_ok, stFK_ok, k2_ok, k2b_ok, k2_ite, k2b_ite, k1_ok, kc_ok, kc2_ok, kc_ite, kc2_ite, kf_ok, kf_ite, kIf_ok, kIf_ite, kAnd_bl, kOr_bl, kAnd_ite, kOr_ite, kNot_bl, kNot_ite, kTr_bl, kTr_ite, cAndK_ok, cOrK_ok, cNotK_ok, cAndK_ite, cOrK_ite, cNotK_ite, kCh_ok, kCh2_ok, kCh3_bl, ixSK_ok, opPK_ok, jnK_ok, fFK_ok, apK_some, cfK_ok, cfK2_ok, vd_ok, vd2_ok, vd_ite, vs2_ok, mkK_ok, mkK2_ok, propK_ok, Rs.of_some, Rs.of_none, Rs.bind_ok, Rs.bind_bad, Rs.bind_exc, Rs.calm_ok, mVar, isMut, listAt, isLent, fetch, wb, putS, nodupB, setAt, appAt, mkSlots, nOwn, runDef, endF, outsFrom, findOwn, intD, List.getElem?_cons_zero, List.getElem?_cons_succ, List.set_cons_zero, List.set_cons_succ, List.length_cons, List.length_nil, List.replicate, List.cons_append, List.nil_append, List.append_nil, List.getD_cons_zero, List.getD_cons_succ, List.contains_cons, List.contains_nil, ab, mx, intC, mulD, mulI, addD, sm, s2, na, lim]
def rngO (ns : List Int) (k : Int) : Option Rg := if 0 ≤ k ∧ k ≤ 60 then some (rngN ns k.toNat) else none
theorem n_rng {ns : List Int} {k : Int} {s : Rg} (h : rngO ns k = some s) : F_l_rng [.ro (ns.map .int), .int k] = some s.ds := by
  unfold rngO at h
  split at h
  · rename_i z
    cases h
    have := rng_run ns k.toNat (by omega)
    rw [Int.toNat_of_nonneg z.1] at this
    exact this
  · cases h
def res_l_choice (a : Int × Rg) : RF := .ok (eI a.1) [a.2.own]
def N_l_choice (p_rng : Rg) (p_some : (List Int)) : Option (Int × Rg) :=
  (drawN p_rng ((p_some.length : Int))).bind fun d1 => (ixN? p_some d1.1).bind fun x2 => some ((x2, d1.2))
theorem n_l_choice {p_rng : Rg} {p_some : (List Int)} {a : Int × Rg} (hN : N_l_choice p_rng p_some = some a) : F_l_choice [.own p_rng.own, .dat ((eL eI) p_some)] = res_l_choice a := by
  unfold N_l_choice at hN
  refine f_run (k := 1) (S := [.own 0 p_rng.own, .dat ((eL eI) p_some)]) rfl rfl rfl ?_
  unfold m_l_choice
  refine s_last ?_
  obtain ⟨d1, hd1, hN⟩ := bind_some hN
  obtain ⟨x2, hx2, hN⟩ := bind_some hN
  refine s_ret (x_2 (x_var rfl) (x_callF (fs := [.own p_rng.own, .dat (.int ((p_some.length : Int)))]) (is := [0]) (outs := [d1.2.own]) (S3 := [.own 0 d1.2.own, .dat ((eL eI) p_some)]) (v_slot rfl (v_dat (x_call (x_cons (x_var rfl) x_nil) (q_len (f := eI))) v_nil)) v_nil ⟨rfl, rfl⟩ rfl rfl (n_draw hd1) rfl) (q_ix (f := eI) hx2)) ?_
  obtain rfl := Option.some.inj hN
  exact rfl
def res_l_written (a : Nat × Rg × Ths) : RT := .ok (eP a.1) [a.2.1.own] a.2.2
def N_l_written_b1 (i10 : Int) (c11 : Rg) (c12 : Nat) (c13 : Ths) : Option (Rg × Nat × Ths) :=
  (lsN eI c13 c12).bind fun l14 => (catN ([0]) l14).bind fun x15 => (ixN? x15 (-1)).bind fun x16 => (drawN c11 90).bind fun d17 => (drawN d17.2 4).bind fun d18 => (ixN? ([0, 1, d17.1, 2]) d18.1).bind fun x19 => (appTN (eI (min 2000 (x16 + x19))) c13 c12).bind fun T20 => some ((d18.2, c12, T20))
theorem n_l_written_b1 (w7 : Int) (i10 : Int) (c11 : Rg) (c12 : Nat) (c13 : Ths) {a : Rg × Nat × Ths} (hN : N_l_written_b1 i10 c11 c12 c13 = some a) (j : Nat → Slot) : ∃ S1, (gNm 3) (eI i10) [.own 0 c11.own, .dat (eI w7), .dat (eP c12), (j 3), .no, .no, .heap c13] = .ok () S1 ∧ LN (fun (s : Rg × Nat × Ths) (jt : Nat → Slot) => [.own 0 s.1.own, .dat (eI w7), .dat (eP s.2.1), (jt 3), .no, .no, .heap s.2.2]) a ((mAppT 6 (mVar 2) (mCall minC (mCons (mC (.int 2000)) (mCons (m2 addD (m2 ixD (mCatRT 6 (mLst (mCons (mC (.int 0)) (mNil))) (mVar 2)) (m1 negD (mC (.int 1)))) (m2 ixD (mLst (mCons (mC (.int 0)) (mCons (mC (.int 1)) (mCons (mCallF F_l_draw 2 0 (fun as bs => [as.getD 0 (.dat .non), as.getD 1 (.dat .non)]) (vSlot 0 (vDat (mC (.int 90)) (vNil))) vNil) (mCons (mC (.int 2)) (mNil)))))) (mCallF F_l_draw 2 0 (fun as bs => [as.getD 0 (.dat .non), as.getD 1 (.dat .non)]) (vSlot 0 (vDat (mC (.int 4)) (vNil))) vNil))) (mNil))))) S1) := by
  unfold N_l_written_b1 at hN
  refine ⟨[.own 0 c11.own, .dat (eI w7), .dat (eP c12), .dat (eI i10), .no, .no, .heap c13], rfl, ?_⟩
  refine s_last ?_
  obtain ⟨l14, hl14, hN⟩ := bind_some hN
  obtain ⟨x15, hx15, hN⟩ := bind_some hN
  obtain ⟨x16, hx16, hN⟩ := bind_some hN
  obtain ⟨d17, hd17, hN⟩ := bind_some hN
  obtain ⟨d18, hd18, hN⟩ := bind_some hN
  obtain ⟨x19, hx19, hN⟩ := bind_some hN
  obtain ⟨T20, hT20, hN⟩ := bind_some hN
  refine s_appT (S3 := [.own 0 d18.2.own, .dat (eI w7), .dat (eP c12), .dat (eI i10), .no, .no, .heap T20]) (x_var rfl) rfl (x_call (x_cons x_C (x_cons (x_2 (x_2 (x_catRT (x_eq (x_lst (x_cons x_C x_nil) (Nat.le_of_ble_eq_true rfl)) (by rfl)) (x_var rfl) rfl hl14 hx15) (x_1 x_C rfl) (q_ix (f := eI) hx16)) (x_2 (x_eq (x_lst (x_cons x_C (x_cons x_C (x_cons (x_callF (fs := [.own c11.own, .dat (.int 90)]) (is := [0]) (outs := [d17.2.own]) (S3 := [.own 0 d17.2.own, .dat (eI w7), .dat (eP c12), .dat (eI i10), .no, .no, .heap c13]) (v_slot rfl (v_dat x_C v_nil)) v_nil ⟨rfl, rfl⟩ rfl rfl (n_draw hd17) rfl) (x_cons x_C x_nil)))) (Nat.le_of_ble_eq_true rfl)) (by rfl)) (x_callF (fs := [.own d17.2.own, .dat (.int 4)]) (is := [0]) (outs := [d18.2.own]) (S3 := [.own 0 d18.2.own, .dat (eI w7), .dat (eP c12), .dat (eI i10), .no, .no, .heap c13]) (v_slot rfl (v_dat x_C v_nil)) v_nil ⟨rfl, rfl⟩ rfl rfl (n_draw hd18) rfl) (q_ix (f := eI) hx19)) rfl) x_nil)) q_min2) rfl hT20 rfl ?_
  obtain rfl := Option.some.inj hN
  exact ln_nx rfl
def N_l_written_k2 (s23 : (Rg × Nat × Ths)) (x25 : Int × Rg) (w27 : Int) : Option (Nat × Rg × Ths) :=
  (drawN x25.2 3).bind fun d28 => (pushT (.lst (([eP s23.2.1, eI x25.1, eI (min 2000 (w27 + d28.1))]).map eD)) s23.2.2).bind fun q29 => some ((q29.1, d28.2, q29.2))
theorem n_l_written_k2 (s23 : (Rg × Nat × Ths)) (x25 : Int × Rg) (w7 : Int) (u26 : Slot) (w27 : Int) {a : Nat × Rg × Ths} (hN : N_l_written_k2 s23 x25 w27 = some a) : EndsT 1 6 (res_l_written a) ((mSeq (mRet (mNewL 6 (lLst (mCons (mVar 2) (mCons (mVar 4) (mCons (mCall minC (mCons (mC (.int 2000)) (mCons (m2 addD (mVar 5) (mCallF F_l_draw 2 0 (fun as bs => [as.getD 0 (.dat .non), as.getD 1 (.dat .non)]) (vSlot 0 (vDat (mC (.int 3)) (vNil))) vNil)) (mNil)))) (mNil))))))) (mNext)) [.own 0 x25.2.own, .dat (eI w7), .dat (eP s23.2.1), u26, .dat (eI x25.1), .dat (eI w27), .heap s23.2.2]) := by
  unfold N_l_written_k2 at hN
  obtain ⟨d28, hd28, hN⟩ := bind_some hN
  obtain ⟨q29, hq29, hN⟩ := bind_some hN
  refine s_ret (x_newL (S2 := [.own 0 d28.2.own, .dat (eI w7), .dat (eP s23.2.1), u26, .dat (eI x25.1), .dat (eI w27), .heap q29.2]) (l_lst (x_cons (x_var rfl) (x_cons (x_var rfl) (x_cons (x_call (x_cons x_C (x_cons (x_2 (x_var rfl) (x_callF (fs := [.own x25.2.own, .dat (.int 3)]) (is := [0]) (outs := [d28.2.own]) (S3 := [.own 0 d28.2.own, .dat (eI w7), .dat (eP s23.2.1), u26, .dat (eI x25.1), .dat (eI w27), .heap s23.2.2]) (v_slot rfl (v_dat x_C v_nil)) v_nil ⟨rfl, rfl⟩ rfl rfl (n_draw hd28) rfl) rfl) x_nil)) q_min2) x_nil))) (Nat.le_of_ble_eq_true rfl)) rfl hq29 rfl) ?_
  obtain rfl := Option.some.inj hN
  exact rfl
def N_l_written_k1 (p_h : Ths) (x6 : (Bool × Rg)) (w7 : Int) : Option (Nat × Rg × Ths) :=
  (pushT (.lst (([]).map eI)) p_h).bind fun q8 => (range1N w7).bind fun x9 => (foldO (fun (x21 : Int) (s22 : Rg × Nat × Ths) => N_l_written_b1 x21 s22.1 s22.2.1 s22.2.2) x9 (x6.2, q8.1, q8.2)).bind fun s23 => (N_l_choice s23.1 ([1, 1, 2, 3, 4, 6, 12])).bind fun x25 => if (decide (0 < x25.1) && decide (x25.1 ≤ w7)) = true then (rdS (eL eI) s23.2.2 s23.2.1).bind fun x30 => (ixN? x30 (-1)).bind fun x31 => (lsN eI s23.2.2 s23.2.1).bind fun l32 => (catN ([0]) l32).bind fun x33 => (ixN? x33 ((w7 + 1) - x25.1)).bind fun x34 => (some (x31 - x34)).bind fun v35 => N_l_written_k2 s23 x25 v35 else N_l_written_k2 s23 x25 0
theorem n_l_written_k1 (p_h : Ths) (x6 : (Bool × Rg)) (w7 : Int) {a : Nat × Rg × Ths} (hN : N_l_written_k1 p_h x6 w7 = some a) : EndsT 1 6 (res_l_written a) ((mSeq (mSeq (mAsg (mNewL 6 (lLst (mNil))) (gNm 2))
    (mSeq (mFor (mIts range1 (mCons (mVar 1) (mNil))) (gNm 3) (mAppT 6 (mVar 2) (mCall minC (mCons (mC (.int 2000)) (mCons (m2 addD (m2 ixD (mCatRT 6 (mLst (mCons (mC (.int 0)) (mNil))) (mVar 2)) (m1 negD (mC (.int 1)))) (m2 ixD (mLst (mCons (mC (.int 0)) (mCons (mC (.int 1)) (mCons (mCallF F_l_draw 2 0 (fun as bs => [as.getD 0 (.dat .non), as.getD 1 (.dat .non)]) (vSlot 0 (vDat (mC (.int 90)) (vNil))) vNil) (mCons (mC (.int 2)) (mNil)))))) (mCallF F_l_draw 2 0 (fun as bs => [as.getD 0 (.dat .non), as.getD 1 (.dat .non)]) (vSlot 0 (vDat (mC (.int 4)) (vNil))) vNil))) (mNil))))))
    (mSeq (mAsg (mCallF F_l_choice 2 0 (fun as bs => [as.getD 0 (.dat .non), as.getD 1 (.dat .non)]) (vSlot 0 (vDat (mLst (mCons (mC (.int 1)) (mCons (mC (.int 1)) (mCons (mC (.int 2)) (mCons (mC (.int 3)) (mCons (mC (.int 4)) (mCons (mC (.int 6)) (mCons (mC (.int 12)) (mNil))))))))) (vNil))) vNil) (gNm 4))
    (mSeq (mAsg (mC (.int 0)) (gNm 5))
    (mSeq (mIfS (cTruth (mChain ltD leD (mC (.int 0)) (mVar 4) (mVar 1))) (mAsg (m2 subD (m2T 6 ixD (mVar 2) (m1 negD (mC (.int 1)))) (m2 ixD (mCatRT 6 (mLst (mCons (mC (.int 0)) (mNil))) (mVar 2)) (m2 subD (m2 addD (mVar 1) (mC (.int 1))) (mVar 4)))) (gNm 5)) (mNext))
    (mRet (mNewL 6 (lLst (mCons (mVar 2) (mCons (mVar 4) (mCons (mCall minC (mCons (mC (.int 2000)) (mCons (m2 addD (mVar 5) (mCallF F_l_draw 2 0 (fun as bs => [as.getD 0 (.dat .non), as.getD 1 (.dat .non)]) (vSlot 0 (vDat (mC (.int 3)) (vNil))) vNil)) (mNil)))) (mNil)))))))))))) (mNext)) [.own 0 x6.2.own, .dat (eI w7), .no, .no, .no, .no, .heap p_h]) := by
  unfold N_l_written_k1 at hN
  refine s_assoc ?_
  obtain ⟨q8, hq8, hN⟩ := bind_some hN
  refine s_asg (S2 := [.own 0 x6.2.own, .dat (eI w7), .dat (eP q8.1), .no, .no, .no, .heap q8.2]) (x_newL (S2 := [.own 0 x6.2.own, .dat (eI w7), .no, .no, .no, .no, .heap q8.2]) (l_lst x_nil (Nat.le_of_ble_eq_true rfl)) rfl hq8 rfl) rfl ?_
  refine s_assoc ?_
  obtain ⟨x9, hx9, hN⟩ := bind_some hN
  obtain ⟨s23, hs23, hN⟩ := bind_some hN
  obtain ⟨j24, es23⟩ : ∃ jx, loopS (gNm 3) (mAppT 6 (mVar 2) (mCall minC (mCons (mC (.int 2000)) (mCons (m2 addD (m2 ixD (mCatRT 6 (mLst (mCons (mC (.int 0)) (mNil))) (mVar 2)) (m1 negD (mC (.int 1)))) (m2 ixD (mLst (mCons (mC (.int 0)) (mCons (mC (.int 1)) (mCons (mCallF F_l_draw 2 0 (fun as bs => [as.getD 0 (.dat .non), as.getD 1 (.dat .non)]) (vSlot 0 (vDat (mC (.int 90)) (vNil))) vNil) (mCons (mC (.int 2)) (mNil)))))) (mCallF F_l_draw 2 0 (fun as bs => [as.getD 0 (.dat .non), as.getD 1 (.dat .non)]) (vSlot 0 (vDat (mC (.int 4)) (vNil))) vNil))) (mNil))))) (x9.map eI) [.own 0 x6.2.own, .dat (eI w7), .dat (eP q8.1), .no, .no, .no, .heap q8.2] = .ok .nx (((fun (s : Rg × Nat × Ths) (jt : Nat → Slot) => [.own 0 s.1.own, .dat (eI w7), .dat (eP s.2.1), (jt 3), .no, .no, .heap s.2.2])) s23 jx) := foldO_ok (T := (fun (s : Rg × Nat × Ths) (jt : Nat → Slot) => [.own 0 s.1.own, .dat (eI w7), .dat (eP s.2.1), (jt 3), .no, .no, .heap s.2.2])) (f := eI) (fun x21 s22 jw z h => n_l_written_b1 w7 x21 s22.1 s22.2.1 s22.2.2 h jw) x9 (x6.2, q8.1, q8.2) (fun i => List.getD [.own 0 x6.2.own, .dat (eI w7), .dat (eP q8.1), .no, .no, .no, .heap q8.2] i .no) _ hs23
  refine s_for (ds := x9.map eI) (i_its (x_cons (x_var rfl) x_nil) (q_range1 hx9)) (s_run (S1 := [.own 0 s23.1.own, .dat (eI w7), .dat (eP s23.2.1), (j24 3), .no, .no, .heap s23.2.2]) es23 ?_)
  refine s_assoc ?_
  obtain ⟨x25, hx25, hN⟩ := bind_some hN
  refine s_asg (S2 := [.own 0 x25.2.own, .dat (eI w7), .dat (eP s23.2.1), (j24 3), .dat (eI x25.1), .no, .heap s23.2.2]) (x_callF (fs := [.own s23.1.own, .dat ((eL eI) ([1, 1, 2, 3, 4, 6, 12]))]) (is := [0]) (outs := [x25.2.own]) (S3 := [.own 0 x25.2.own, .dat (eI w7), .dat (eP s23.2.1), (j24 3), .no, .no, .heap s23.2.2]) (v_slot rfl (v_dat (x_eq (x_lst (x_cons x_C (x_cons x_C (x_cons x_C (x_cons x_C (x_cons x_C (x_cons x_C (x_cons x_C x_nil))))))) (Nat.le_of_ble_eq_true rfl)) (by rfl)) v_nil)) v_nil ⟨rfl, rfl⟩ rfl rfl (n_l_choice hx25) rfl) rfl ?_
  refine s_assoc ?_
  refine s_asg (S2 := [.own 0 x25.2.own, .dat (eI w7), .dat (eP s23.2.1), (j24 3), .dat (eI x25.1), .dat (eI 0), .heap s23.2.2]) x_C rfl ?_
  refine s_assoc ?_
  rcases ite_some hN with ⟨c36, hN⟩ | ⟨c36, hN⟩
  · refine s_ifT (t_truth (x_chain x_C (x_var rfl) (x_var rfl) rfl rfl)) c36 ?_
    obtain ⟨x30, hx30, hN⟩ := bind_some hN
    obtain ⟨x31, hx31, hN⟩ := bind_some hN
    obtain ⟨l32, hl32, hN⟩ := bind_some hN
    obtain ⟨x33, hx33, hN⟩ := bind_some hN
    obtain ⟨x34, hx34, hN⟩ := bind_some hN
    obtain ⟨v35, hv35, hN⟩ := bind_some hN
    refine s_asg (S2 := [.own 0 x25.2.own, .dat (eI w7), .dat (eP s23.2.1), (j24 3), .dat (eI x25.1), .dat (eI v35), .heap s23.2.2]) (x_eq (x_2 (x_2T (x_var rfl) (x_1 x_C rfl) rfl (rdS_some hx30) rfl (q_ix (f := eI) hx31) (ft_I _)) (x_2 (x_catRT (x_eq (x_lst (x_cons x_C x_nil) (Nat.le_of_ble_eq_true rfl)) (by rfl)) (x_var rfl) rfl hl32 hx33) (x_2 (x_2 (x_var rfl) x_C rfl) (x_var rfl) rfl) (q_ix (f := eI) hx34)) rfl) (congrArg eI (Option.some.inj hv35))) rfl ?_
    exact n_l_written_k2 s23 x25 w7 ((j24 3)) v35 hN
  · refine s_ifF (t_truth (x_chain x_C (x_var rfl) (x_var rfl) rfl rfl)) c36 ?_
    refine s_next ?_
    exact n_l_written_k2 s23 x25 w7 ((j24 3)) 0 hN
def N_l_written (p_rng : Rg) (p_h : Ths) : Option (Nat × Rg × Ths) :=
  (drawN p_rng 5).bind fun d1 => (drawN d1.2 24).bind fun d2 => (drawN d2.2 20).bind fun d3 => (ixN? ([1 + d1.1, 24, 25, 1 + d2.1, 0]) (d3.1 / 4)).bind fun x4 => (if (decide (x4 = 0)) = true then (drawN d3.2 3).bind fun d5 => some (decide (0 < d5.1), d5.2) else some (false, d3.2)).bind fun x6 => if x6.1 = true then N_l_written_k1 p_h x6 3 else N_l_written_k1 p_h x6 x4
theorem n_l_written {p_rng : Rg} {p_h : Ths} {a : Nat × Rg × Ths} (hN : N_l_written p_rng p_h = some a) : F_l_written [.own p_rng.own] p_h = res_l_written a := by
  unfold N_l_written at hN
  refine f_runT (k := 1) (S := [.own 0 p_rng.own, .no, .no, .no, .no, .no, .heap p_h]) rfl rfl rfl ?_
  unfold m_l_written
  refine s_last ?_
  refine s_assoc ?_
  obtain ⟨d1, hd1, hN⟩ := bind_some hN
  obtain ⟨d2, hd2, hN⟩ := bind_some hN
  obtain ⟨d3, hd3, hN⟩ := bind_some hN
  obtain ⟨x4, hx4, hN⟩ := bind_some hN
  refine s_asg (S2 := [.own 0 d3.2.own, .dat (eI x4), .no, .no, .no, .no, .heap p_h]) (x_2 (x_eq (x_lst (x_cons (x_2 x_C (x_callF (fs := [.own p_rng.own, .dat (.int 5)]) (is := [0]) (outs := [d1.2.own]) (S3 := [.own 0 d1.2.own, .no, .no, .no, .no, .no, .heap p_h]) (v_slot rfl (v_dat x_C v_nil)) v_nil ⟨rfl, rfl⟩ rfl rfl (n_draw hd1) rfl) rfl) (x_cons x_C (x_cons x_C (x_cons (x_2 x_C (x_callF (fs := [.own d1.2.own, .dat (.int 24)]) (is := [0]) (outs := [d2.2.own]) (S3 := [.own 0 d2.2.own, .no, .no, .no, .no, .no, .heap p_h]) (v_slot rfl (v_dat x_C v_nil)) v_nil ⟨rfl, rfl⟩ rfl rfl (n_draw hd2) rfl) rfl) (x_cons x_C x_nil))))) (Nat.le_of_ble_eq_true rfl)) (by rfl)) (x_2 (x_callF (fs := [.own d2.2.own, .dat (.int 20)]) (is := [0]) (outs := [d3.2.own]) (S3 := [.own 0 d3.2.own, .no, .no, .no, .no, .no, .heap p_h]) (v_slot rfl (v_dat x_C v_nil)) v_nil ⟨rfl, rfl⟩ rfl rfl (n_draw hd3) rfl) x_C (q_div (div_of (by decide) (by decide)))) (q_ix (f := eI) hx4)) rfl ?_
  refine s_assoc ?_
  obtain ⟨x6, hx6, hN⟩ := bind_some hN
  rcases ite_some hN with ⟨c37, hN⟩ | ⟨c37, hN⟩
  · refine s_ifT (t_andQ (val := fun (v : (Bool × Rg)) => v.1) (st := fun (v : (Bool × Rg)) => [.own 0 v.2.own, .dat (eI x4), .no, .no, .no, .no, .heap p_h]) (v := x6) (v0 := (false, d3.2)) (t_truth (x_2 (x_var rfl) x_C rfl)) (fun v hv => by (obtain ⟨d5, hd5, hv⟩ := bind_some hv; obtain rfl := Option.some.inj hv; exact (t_truth (x_2 (x_callF (fs := [.own d3.2.own, .dat (.int 3)]) (is := [0]) (outs := [d5.2.own]) (S3 := [.own 0 d5.2.own, .dat (eI x4), .no, .no, .no, .no, .heap p_h]) (v_slot rfl (v_dat x_C v_nil)) v_nil ⟨rfl, rfl⟩ rfl rfl (n_draw hd5) rfl) x_C rfl)))) rfl rfl hx6) c37 ?_
    refine s_asg (S2 := [.own 0 x6.2.own, .dat (eI 3), .no, .no, .no, .no, .heap p_h]) x_C rfl ?_
    exact n_l_written_k1 p_h x6 3 hN
  · refine s_ifF (t_andQ (val := fun (v : (Bool × Rg)) => v.1) (st := fun (v : (Bool × Rg)) => [.own 0 v.2.own, .dat (eI x4), .no, .no, .no, .no, .heap p_h]) (v := x6) (v0 := (false, d3.2)) (t_truth (x_2 (x_var rfl) x_C rfl)) (fun v hv => by (obtain ⟨d5, hd5, hv⟩ := bind_some hv; obtain rfl := Option.some.inj hv; exact (t_truth (x_2 (x_callF (fs := [.own d3.2.own, .dat (.int 3)]) (is := [0]) (outs := [d5.2.own]) (S3 := [.own 0 d5.2.own, .dat (eI x4), .no, .no, .no, .no, .heap p_h]) (v_slot rfl (v_dat x_C v_nil)) v_nil ⟨rfl, rfl⟩ rfl rfl (n_draw hd5) rfl) x_C rfl)))) rfl rfl hx6) c37 ?_
    refine s_next ?_
    exact n_l_written_k1 p_h x6 x4 hN
def res_l_choice_2 (a : Dat × Rg) : RF := .ok (eD a.1) [a.2.own]
def N_l_choice_2 (p_rng : Rg) (p_some : (List Dat)) : Option (Dat × Rg) :=
  (drawN p_rng ((p_some.length : Int))).bind fun d1 => (ixN? p_some d1.1).bind fun x2 => some ((x2, d1.2))
theorem n_l_choice_2 {p_rng : Rg} {p_some : (List Dat)} {a : Dat × Rg} (hN : N_l_choice_2 p_rng p_some = some a) : F_l_choice [.own p_rng.own, .dat ((eL eD) p_some)] = res_l_choice_2 a := by
  unfold N_l_choice_2 at hN
  refine f_run (k := 1) (S := [.own 0 p_rng.own, .dat ((eL eD) p_some)]) rfl rfl rfl ?_
  unfold m_l_choice
  refine s_last ?_
  obtain ⟨d1, hd1, hN⟩ := bind_some hN
  obtain ⟨x2, hx2, hN⟩ := bind_some hN
  refine s_ret (x_2 (x_var rfl) (x_callF (fs := [.own p_rng.own, .dat (.int ((p_some.length : Int)))]) (is := [0]) (outs := [d1.2.own]) (S3 := [.own 0 d1.2.own, .dat ((eL eD) p_some)]) (v_slot rfl (v_dat (x_call (x_cons (x_var rfl) x_nil) (q_len (f := eD))) v_nil)) v_nil ⟨rfl, rfl⟩ rfl rfl (n_draw hd1) rfl) (q_ix (f := eD) hx2)) ?_
  obtain rfl := Option.some.inj hN
  exact rfl
def res_l_odd_value (a : Dat × Rg) : RF := .ok (eD a.1) [a.2.own]
def N_l_odd_value (p_rng : Rg) (p_before : Dat) : Option (Dat × Rg) :=
  (isiB [("NoneType", false), ("bool", true), ("int", true), ("str", false), ("list", false), ("tuple", false), ("dict", false)] [("Curve", false)] p_before).bind fun x1 => (some (if x1 = true then p_before else eI 0)).bind fun v2 => (subBN v2 1).bind fun x3 => (negBN v2).bind fun x4 => (some ([eI (-1), eI 2001, eB true, eB false, eU (), eS (("1" : Str)), (e1 eI) (1), (eL eI) ([1]), Dat.dic [], eI 1000000000000000000, eI x3, eI x4])).bind fun v5 => (N_l_choice_2 p_rng v5).bind fun x6 => some ((x6.1, x6.2))
theorem n_l_odd_value {p_rng : Rg} {p_before : Dat} {a : Dat × Rg} (hN : N_l_odd_value p_rng p_before = some a) : F_l_odd_value [.own p_rng.own, .dat (eD p_before)] = res_l_odd_value a := by
  unfold N_l_odd_value at hN
  refine f_run (k := 1) (S := [.own 0 p_rng.own, .dat (eD p_before), .no, .no]) rfl rfl rfl ?_
  unfold m_l_odd_value
  refine s_last ?_
  refine s_assoc ?_
  obtain ⟨x1, hx1, hN⟩ := bind_some hN
  obtain ⟨v2, hv2, hN⟩ := bind_some hN
  refine s_asg (S2 := [.own 0 p_rng.own, .dat (eD p_before), .dat (eD v2), .no]) (x_eq (x_ifP (f := eD) (x := p_before) (y := eI 0) (t_truth (x_1 (x_var rfl) (q_isiB hx1))) (x_var rfl) x_C) (congrArg eD (Option.some.inj hv2))) rfl ?_
  refine s_assoc ?_
  obtain ⟨x3, hx3, hN⟩ := bind_some hN
  obtain ⟨x4, hx4, hN⟩ := bind_some hN
  obtain ⟨v5, hv5, hN⟩ := bind_some hN
  refine s_asg (S2 := [.own 0 p_rng.own, .dat (eD p_before), .dat (eD v2), .dat ((eL eD) v5)]) (x_eq (x_eq (x_lst (x_cons (x_1 x_C rfl) (x_cons x_C (x_cons x_C (x_cons x_C (x_cons x_C (x_cons x_C (x_cons (x_tup (x_cons x_C x_nil) (Nat.le_of_ble_eq_true rfl)) (x_cons (x_eq (x_lst (x_cons x_C x_nil) (Nat.le_of_ble_eq_true rfl)) (by rfl)) (x_cons x_C (x_cons (x_2 x_C x_C (q_powL (n := 18) (r := 1000000000000000000) rfl (by decide) (by decide) (by decide))) (x_cons (x_2 (x_var rfl) x_C (q_subB hx3)) (x_cons (x_1 (x_var rfl) (q_negB hx4)) x_nil)))))))))))) (Nat.le_of_ble_eq_true rfl)) (by rfl)) (congrArg (eL eD) (Option.some.inj hv5))) rfl ?_
  obtain ⟨x6, hx6, hN⟩ := bind_some hN
  refine s_ret (x_callF (fs := [.own p_rng.own, .dat ((eL eD) v5)]) (is := [0]) (outs := [x6.2.own]) (S3 := [.own 0 x6.2.own, .dat (eD p_before), .dat (eD v2), .dat ((eL eD) v5)]) (v_slot rfl (v_dat (x_var rfl) v_nil)) v_nil ⟨rfl, rfl⟩ rfl rfl (n_l_choice_2 hx6) rfl) ?_
  obtain rfl := Option.some.inj hN
  exact rfl
def res_l_spoilt (a : Unit × Rg × Ths) : RT := .ok (eU a.1) [a.2.1.own] a.2.2
def N_l_spoilt (p_rng : Rg) (p_row : Nat) (p_h : Ths) : Option (Unit × Rg × Ths) :=
  (drawN p_rng 7).bind fun d1 => (lsN eD p_h p_row).bind fun l2 => (ixN? l2 0).bind fun x3 => (asP x3).bind fun k4 => if (decide (d1.1 = 0)) = true then (lsN eD p_h k4).bind fun l5 => (range1N 3).bind fun x6 => (capL (x6.map fun y7 => (y7, y7))).bind fun x8 => (dictC [(eL (e2 eI eI)) x8]).bind fun x9 => (N_l_choice_2 d1.2 ([(eT eD) l5, eU (), eS (("1,2" : Str)), eI 5, x9, eB true])).bind fun x10 => (setTN 0 (eD x10.1) p_h p_row).bind fun T11 => some (((), x10.2, T11)) else (if (decide (d1.1 < 3)) = true then (lsN eD p_h k4).bind fun l12 => some (!decide (l12.length = 0)) else some false).bind fun x13 => if x13 = true then (lsN eD p_h k4).bind fun x14 => (drawN d1.2 ((x14.length : Int))).bind fun d15 => (lsN eD p_h k4).bind fun l16 => (catN (([0]).map eI) l16).bind fun x17 => (ixN? x17 d15.1).bind fun x18 => (N_l_odd_value d15.2 x18).bind fun x19 => (setTN d15.1 (eD x19.1) p_h k4).bind fun T20 => some (((), x19.2, T20)) else if (decide (d1.1 = 3)) = true then (N_l_choice_2 d1.2 ([eI 0, eI 5, eI 7, eI 8, eI 24, eI (-1), eB true, eB false, eU (), eS (("1" : Str)), (e1 eI) (1), eI 12, eI 6, eI 4, (eL eI) ([1])])).bind fun x21 => (setTN 1 (eD x21.1) p_h p_row).bind fun T22 => some (((), x21.2, T22)) else if (decide (d1.1 = 4)) = true then (N_l_choice_2 d1.2 ([eI (-1), eI 2001, eB true, eB false, eU (), eS (("0" : Str)), eI 1000000000000000000, (e1 eI) (0), (eL eI) (([] : List Int)), eI 0, eI 2000])).bind fun x23 => (setTN 2 (eD x23.1) p_h p_row).bind fun T24 => some (((), x23.2, T24)) else (if (decide (d1.1 = 5)) = true then (lsN eD p_h p_row).bind fun l25 => (ixN? l25 2).bind fun x26 => (isiB [("NoneType", false), ("bool", true), ("int", true), ("str", false), ("list", false), ("tuple", false), ("dict", false)] [("Curve", false)] x26).bind fun x27 => some x27 else some false).bind fun x28 => if x28 = true then (lsN eD p_h p_row).bind fun l29 => (ixN? l29 2).bind fun x30 => (subBN x30 1).bind fun x31 => (setTN 2 (eI x31) p_h p_row).bind fun T32 => some (((), d1.2, T32)) else some (((), d1.2, p_h))
theorem n_l_spoilt {p_rng : Rg} {p_row : Nat} {p_h : Ths} {a : Unit × Rg × Ths} (hN : N_l_spoilt p_rng p_row p_h = some a) : F_l_spoilt [.own p_rng.own, .dat (eP p_row)] p_h = res_l_spoilt a := by
  unfold N_l_spoilt at hN
  refine f_runT (k := 1) (S := [.own 0 p_rng.own, .dat (eP p_row), .no, .no, .no, .no, .heap p_h]) rfl rfl rfl ?_
  unfold m_l_spoilt
  refine s_last ?_
  refine s_assoc ?_
  obtain ⟨d1, hd1, hN⟩ := bind_some hN
  refine s_asg (S2 := [.own 0 d1.2.own, .dat (eP p_row), .dat (eI d1.1), .no, .no, .no, .heap p_h]) (x_callF (fs := [.own p_rng.own, .dat (.int 7)]) (is := [0]) (outs := [d1.2.own]) (S3 := [.own 0 d1.2.own, .dat (eP p_row), .no, .no, .no, .no, .heap p_h]) (v_slot rfl (v_dat x_C v_nil)) v_nil ⟨rfl, rfl⟩ rfl rfl (n_draw hd1) rfl) rfl ?_
  refine s_assoc ?_
  obtain ⟨l2, hl2, hN⟩ := bind_some hN
  obtain ⟨x3, hx3, hN⟩ := bind_some hN
  obtain ⟨k4, hk4, hN⟩ := bind_some hN
  refine s_asg (S2 := [.own 0 d1.2.own, .dat (eP p_row), .dat (eI d1.1), .dat (eP k4), .no, .no, .heap p_h]) (x_eq (x_ixL (x_var rfl) x_C rfl hl2 hx3) (asP_eq hk4)) rfl ?_
  rcases ite_some hN with ⟨c37, hN⟩ | ⟨c37, hN⟩
  · refine s_ifT (t_truth (x_2 (x_var rfl) x_C rfl)) c37 ?_
    obtain ⟨l5, hl5, hN⟩ := bind_some hN
    obtain ⟨x6, hx6, hN⟩ := bind_some hN
    obtain ⟨x8, hx8, hN⟩ := bind_some hN
    obtain ⟨x9, hx9, hN⟩ := bind_some hN
    obtain ⟨x10, hx10, hN⟩ := bind_some hN
    obtain ⟨T11, hT11, hN⟩ := bind_some hN
    refine s_asgG (S2 := [.own 0 x10.2.own, .dat (eP p_row), .dat (eI d1.1), .dat (eP k4), .no, .no, .heap T11]) (x_callF (fs := [.own d1.2.own, .dat ((eL eD) ([(eT eD) l5, eU (), eS (("1,2" : Str)), eI 5, x9, eB true]))]) (is := [0]) (outs := [x10.2.own]) (S3 := [.own 0 x10.2.own, .dat (eP p_row), .dat (eI d1.1), .dat (eP k4), .no, .no, .heap p_h]) (v_slot rfl (v_dat (x_eq (x_lst (x_cons (x_tupT (x_cons (x_var rfl) x_nil) rfl hl5) (x_cons x_C (x_cons x_C (x_cons x_C (x_cons (x_call (x_cons (x_lc (lc_map (f := eI) (fo := (e2 eI eI)) (F := fun y7 => (y7, y7)) (S0 := [.own 0 d1.2.own, .dat (eP p_row), .dat (eI d1.1), .dat (eP k4), .no, .no, .heap p_h]) (i_its (x_cons x_C x_nil) (q_range1 hx6)) rfl (fun y7 => ⟨[.own 0 d1.2.own, .dat (eP p_row), .dat (eI d1.1), .dat (eP k4), .no, .dat (eI y7), .heap p_h], _, rfl, (x_tup (x_cons (x_var rfl) (x_cons (x_var rfl) x_nil)) (Nat.le_of_ble_eq_true rfl)), rfl⟩) hx8)) x_nil) hx9) (x_cons x_C x_nil)))))) (Nat.le_of_ble_eq_true rfl)) (by rfl)) v_nil)) v_nil ⟨rfl, rfl⟩ rfl rfl (n_l_choice_2 hx10) rfl) (g_ixT (x_var rfl) x_C rfl hT11 rfl) ?_
    obtain rfl := Option.some.inj hN
    exact rfl
  · refine s_ifF (t_truth (x_2 (x_var rfl) x_C rfl)) c37 ?_
    obtain ⟨x13, hx13, hN⟩ := bind_some hN
    rcases ite_some hN with ⟨c36, hN⟩ | ⟨c36, hN⟩
    · refine s_ifT (t_andQ (val := fun (v : Bool) => v) (st := fun (v : Bool) => [.own 0 d1.2.own, .dat (eP p_row), .dat (eI d1.1), .dat (eP k4), .no, .no, .heap p_h]) (v := x13) (v0 := false) (t_truth (x_2 (x_var rfl) x_C rfl)) (fun v hv => by (obtain ⟨l12, hl12, hv⟩ := bind_some hv; obtain rfl := Option.some.inj hv; exact (t_truth (x_2T (x_var rfl) (x_eq (x_lst x_nil (Nat.le_of_ble_eq_true rfl)) (by rfl)) rfl (sD_ls hl12) rfl (q_neN _) (ft_B _))))) rfl rfl hx13) c36 ?_
      refine s_assoc ?_
      obtain ⟨x14, hx14, hN⟩ := bind_some hN
      obtain ⟨d15, hd15, hN⟩ := bind_some hN
      refine s_asg (S2 := [.own 0 d15.2.own, .dat (eP p_row), .dat (eI d1.1), .dat (eP k4), .dat (eI d15.1), .no, .heap p_h]) (x_callF (fs := [.own d1.2.own, .dat (.int ((x14.length : Int)))]) (is := [0]) (outs := [d15.2.own]) (S3 := [.own 0 d15.2.own, .dat (eP p_row), .dat (eI d1.1), .dat (eP k4), .no, .no, .heap p_h]) (v_slot rfl (v_dat (x_callT1 (x_cons (x_var rfl) x_nil) rfl (look_ls hx14) (q_len (f := eD)) (ft_I _)) v_nil)) v_nil ⟨rfl, rfl⟩ rfl rfl (n_draw hd15) rfl) rfl ?_
      obtain ⟨l16, hl16, hN⟩ := bind_some hN
      obtain ⟨x17, hx17, hN⟩ := bind_some hN
      obtain ⟨x18, hx18, hN⟩ := bind_some hN
      obtain ⟨x19, hx19, hN⟩ := bind_some hN
      obtain ⟨T20, hT20, hN⟩ := bind_some hN
      refine s_asgG (S2 := [.own 0 x19.2.own, .dat (eP p_row), .dat (eI d1.1), .dat (eP k4), .dat (eI d15.1), .no, .heap T20]) (x_callF (fs := [.own d15.2.own, .dat (eD x18)]) (is := [0]) (outs := [x19.2.own]) (S3 := [.own 0 x19.2.own, .dat (eP p_row), .dat (eI d1.1), .dat (eP k4), .dat (eI d15.1), .no, .heap p_h]) (v_slot rfl (v_dat (x_2 (x_catRT (x_eq (x_eq (x_lst (x_cons x_C x_nil) (Nat.le_of_ble_eq_true rfl)) (by rfl)) eL_any) (x_var rfl) rfl hl16 hx17) (x_var rfl) (q_ix (f := eD) hx18)) v_nil)) v_nil ⟨rfl, rfl⟩ rfl rfl (n_l_odd_value hx19) rfl) (g_ixT (x_var rfl) (x_var rfl) rfl hT20 rfl) ?_
      obtain rfl := Option.some.inj hN
      exact rfl
    · refine s_ifF (t_andQ (val := fun (v : Bool) => v) (st := fun (v : Bool) => [.own 0 d1.2.own, .dat (eP p_row), .dat (eI d1.1), .dat (eP k4), .no, .no, .heap p_h]) (v := x13) (v0 := false) (t_truth (x_2 (x_var rfl) x_C rfl)) (fun v hv => by (obtain ⟨l12, hl12, hv⟩ := bind_some hv; obtain rfl := Option.some.inj hv; exact (t_truth (x_2T (x_var rfl) (x_eq (x_lst x_nil (Nat.le_of_ble_eq_true rfl)) (by rfl)) rfl (sD_ls hl12) rfl (q_neN _) (ft_B _))))) rfl rfl hx13) c36 ?_
      rcases ite_some hN with ⟨c35, hN⟩ | ⟨c35, hN⟩
      · refine s_ifT (t_truth (x_2 (x_var rfl) x_C rfl)) c35 ?_
        obtain ⟨x21, hx21, hN⟩ := bind_some hN
        obtain ⟨T22, hT22, hN⟩ := bind_some hN
        refine s_asgG (S2 := [.own 0 x21.2.own, .dat (eP p_row), .dat (eI d1.1), .dat (eP k4), .no, .no, .heap T22]) (x_callF (fs := [.own d1.2.own, .dat ((eL eD) ([eI 0, eI 5, eI 7, eI 8, eI 24, eI (-1), eB true, eB false, eU (), eS (("1" : Str)), (e1 eI) (1), eI 12, eI 6, eI 4, (eL eI) ([1])]))]) (is := [0]) (outs := [x21.2.own]) (S3 := [.own 0 x21.2.own, .dat (eP p_row), .dat (eI d1.1), .dat (eP k4), .no, .no, .heap p_h]) (v_slot rfl (v_dat (x_eq (x_lst (x_cons x_C (x_cons x_C (x_cons x_C (x_cons x_C (x_cons x_C (x_cons (x_1 x_C rfl) (x_cons x_C (x_cons x_C (x_cons x_C (x_cons x_C (x_cons (x_tup (x_cons x_C x_nil) (Nat.le_of_ble_eq_true rfl)) (x_cons x_C (x_cons x_C (x_cons x_C (x_cons (x_eq (x_lst (x_cons x_C x_nil) (Nat.le_of_ble_eq_true rfl)) (by rfl)) x_nil))))))))))))))) (Nat.le_of_ble_eq_true rfl)) (by rfl)) v_nil)) v_nil ⟨rfl, rfl⟩ rfl rfl (n_l_choice_2 hx21) rfl) (g_ixT (x_var rfl) x_C rfl hT22 rfl) ?_
        obtain rfl := Option.some.inj hN
        exact rfl
      · refine s_ifF (t_truth (x_2 (x_var rfl) x_C rfl)) c35 ?_
        rcases ite_some hN with ⟨c34, hN⟩ | ⟨c34, hN⟩
        · refine s_ifT (t_truth (x_2 (x_var rfl) x_C rfl)) c34 ?_
          obtain ⟨x23, hx23, hN⟩ := bind_some hN
          obtain ⟨T24, hT24, hN⟩ := bind_some hN
          refine s_asgG (S2 := [.own 0 x23.2.own, .dat (eP p_row), .dat (eI d1.1), .dat (eP k4), .no, .no, .heap T24]) (x_callF (fs := [.own d1.2.own, .dat ((eL eD) ([eI (-1), eI 2001, eB true, eB false, eU (), eS (("0" : Str)), eI 1000000000000000000, (e1 eI) (0), (eL eI) (([] : List Int)), eI 0, eI 2000]))]) (is := [0]) (outs := [x23.2.own]) (S3 := [.own 0 x23.2.own, .dat (eP p_row), .dat (eI d1.1), .dat (eP k4), .no, .no, .heap p_h]) (v_slot rfl (v_dat (x_eq (x_lst (x_cons (x_1 x_C rfl) (x_cons x_C (x_cons x_C (x_cons x_C (x_cons x_C (x_cons x_C (x_cons (x_2 x_C x_C (q_powL (n := 18) (r := 1000000000000000000) rfl (by decide) (by decide) (by decide))) (x_cons (x_tup (x_cons x_C x_nil) (Nat.le_of_ble_eq_true rfl)) (x_cons (x_eq (x_lst x_nil (Nat.le_of_ble_eq_true rfl)) (by rfl)) (x_cons x_C (x_cons x_C x_nil))))))))))) (Nat.le_of_ble_eq_true rfl)) (by rfl)) v_nil)) v_nil ⟨rfl, rfl⟩ rfl rfl (n_l_choice_2 hx23) rfl) (g_ixT (x_var rfl) x_C rfl hT24 rfl) ?_
          obtain rfl := Option.some.inj hN
          exact rfl
        · refine s_ifF (t_truth (x_2 (x_var rfl) x_C rfl)) c34 ?_
          obtain ⟨x28, hx28, hN⟩ := bind_some hN
          rcases ite_some hN with ⟨c33, hN⟩ | ⟨c33, hN⟩
          · refine s_ifT (t_andQ (val := fun (v : Bool) => v) (st := fun (v : Bool) => [.own 0 d1.2.own, .dat (eP p_row), .dat (eI d1.1), .dat (eP k4), .no, .no, .heap p_h]) (v := x28) (v0 := false) (t_truth (x_2 (x_var rfl) x_C rfl)) (fun v hv => by (obtain ⟨l25, hl25, hv⟩ := bind_some hv; obtain ⟨x26, hx26, hv⟩ := bind_some hv; obtain ⟨x27, hx27, hv⟩ := bind_some hv; obtain rfl := Option.some.inj hv; exact (t_truth (x_1 (x_ixL (x_var rfl) x_C rfl hl25 hx26) (q_isiB hx27))))) rfl rfl hx28) c33 ?_
            obtain ⟨l29, hl29, hN⟩ := bind_some hN
            obtain ⟨x30, hx30, hN⟩ := bind_some hN
            obtain ⟨x31, hx31, hN⟩ := bind_some hN
            obtain ⟨T32, hT32, hN⟩ := bind_some hN
            refine s_asgG (S2 := [.own 0 d1.2.own, .dat (eP p_row), .dat (eI d1.1), .dat (eP k4), .no, .no, .heap T32]) (x_2 (x_ixL (x_var rfl) x_C rfl hl29 hx30) x_C (q_subB hx31)) (g_ixT (x_var rfl) x_C rfl hT32 rfl) ?_
            obtain rfl := Option.some.inj hN
            exact rfl
          · refine s_ifF (t_andQ (val := fun (v : Bool) => v) (st := fun (v : Bool) => [.own 0 d1.2.own, .dat (eP p_row), .dat (eI d1.1), .dat (eP k4), .no, .no, .heap p_h]) (v := x28) (v0 := false) (t_truth (x_2 (x_var rfl) x_C rfl)) (fun v hv => by (obtain ⟨l25, hl25, hv⟩ := bind_some hv; obtain ⟨x26, hx26, hv⟩ := bind_some hv; obtain ⟨x27, hx27, hv⟩ := bind_some hv; obtain rfl := Option.some.inj hv; exact (t_truth (x_1 (x_ixL (x_var rfl) x_C rfl hl25 hx26) (q_isiB hx27))))) rfl rfl hx28) c33 ?_
            refine s_next ?_
            obtain rfl := Option.some.inj hN
            exact rfl
def res_l_is_count (a : Bool) : RF := .ok (eB a) []
def N_l_is_count (p_thing : Dat) : Option (Bool) :=
  (isiB [("NoneType", false), ("bool", true), ("int", true), ("str", false), ("list", false), ("tuple", false), ("dict", false)] [("Curve", false)] p_thing).bind fun x1 => (if x1 = true then (isiB [("NoneType", false), ("bool", true), ("int", false), ("str", false), ("list", false), ("tuple", false), ("dict", false)] [("Curve", false)] p_thing).bind fun x2 => (if (!x2) = true then (asI p_thing).bind fun k3 => some (decide (0 ≤ k3) && decide (k3 ≤ 2000)) else some false).bind fun x4 => some x4 else some false).bind fun x5 => some x5
theorem n_l_is_count {p_thing : Dat} {a : Bool} (hN : N_l_is_count p_thing = some a) : F_l_is_count [.dat (eD p_thing)] = res_l_is_count a := by
  unfold N_l_is_count at hN
  refine f_run (k := 0) (S := [.dat (eD p_thing)]) rfl rfl rfl ?_
  unfold m_l_is_count
  refine s_last ?_
  obtain ⟨x1, hx1, hN⟩ := bind_some hN
  obtain ⟨x5, hx5, hN⟩ := bind_some hN
  refine s_ret (x_andQ (val := fun (v : Bool) => v) (st := fun (v : Bool) => [.dat (eD p_thing)]) (v := x5) (v0 := false) (x_1 (x_var rfl) (q_isiB hx1)) (fun v hv => by (obtain ⟨x2, hx2, hv⟩ := bind_some hv; obtain ⟨x4, hx4, hv⟩ := bind_some hv; obtain rfl := Option.some.inj hv; exact (x_andQ (val := fun (v : Bool) => v) (st := fun (v : Bool) => [.dat (eD p_thing)]) (v := x4) (v0 := false) (x_not (x_1 (x_var rfl) (q_isiB hx2))) (fun v hv => by (obtain ⟨k3, hk3, hv⟩ := bind_some hv; obtain rfl := Option.some.inj hv; exact (x_chain x_C (x_eq (x_var rfl) (asI_eq hk3)) x_C rfl rfl))) rfl rfl hx4))) rfl rfl hx5) ?_
  obtain rfl := Option.some.inj hN
  exact rfl
def res_l_due (a : (Option (Str × Int))) : RF := .ok ((eO (e2 eS eI)) a) []
def N_l_due_b1 (i7 : Int) (i8 : Dat) (c9 : Dat) : Option (Stp ((Option (Str × Int))) (Dat)) :=
  (N_l_is_count i8).bind fun x10 => (if (!x10) = true then some true else (cmpB ltD (eD i8) (eD c9)).bind fun x11 => some x11).bind fun x12 => if x12 = true then some (.rt (some ((("value" : Str), i7)))) else some (.nx i8)
theorem n_l_due_b1 (p_row : (List Dat)) (z1 : (Dat × Dat × Dat)) (i7 : Int) (i8 : Dat) (c9 : Dat) {a : Stp ((Option (Str × Int))) (Dat)} (hN : N_l_due_b1 i7 i8 c9 = some a) (j : Nat → Slot) : ∃ S1, (gTpN 2 (gCs (gNm 5) (gCs (gNm 6) (gNl)))) ((e2 eI eD) (i7, i8)) [.dat ((eL eD) p_row), .dat (eD c9), .dat (eD z1.1), .dat (eD z1.2.1), .dat (eD z1.2.2), (j 5), (j 6), .no] = .ok () S1 ∧ LB (fun (s : Dat) (jt : Nat → Slot) => [.dat ((eL eD) p_row), .dat (eD s), .dat (eD z1.1), .dat (eD z1.2.1), .dat (eD z1.2.2), (jt 5), (jt 6), .no]) (RTo 0 (res_l_due)) a ((mSeq (mIfS (cOr (cNot (cTruth (mCallF F_l_is_count 1 0 (fun as bs => [as.getD 0 (.dat .non)]) (vDat (mVar 6) (vNil)) vNil))) (cTruth (m2 ltD (mVar 6) (mVar 1)))) (mRet (mTup (mCons (mC (.str "value")) (mCons (mVar 5) (mNil))))) (mNext))
    (mAsg (mVar 6) (gNm 1))) S1) := by
  unfold N_l_due_b1 at hN
  refine ⟨[.dat ((eL eD) p_row), .dat (eD c9), .dat (eD z1.1), .dat (eD z1.2.1), .dat (eD z1.2.2), .dat (eI i7), .dat (eD i8), .no], rfl, ?_⟩
  refine s_last ?_
  refine s_assoc ?_
  obtain ⟨x10, hx10, hN⟩ := bind_some hN
  obtain ⟨x12, hx12, hN⟩ := bind_some hN
  rcases ite_some hN with ⟨c13, hN⟩ | ⟨c13, hN⟩
  · refine s_ifT (t_orQ (val := fun (v : Bool) => v) (st := fun (v : Bool) => [.dat ((eL eD) p_row), .dat (eD c9), .dat (eD z1.1), .dat (eD z1.2.1), .dat (eD z1.2.2), .dat (eI i7), .dat (eD i8), .no]) (v := x12) (v0 := true) (t_not (t_truth (x_callF (fs := [.dat (eD i8)]) (is := []) (outs := []) (S3 := [.dat ((eL eD) p_row), .dat (eD c9), .dat (eD z1.1), .dat (eD z1.2.1), .dat (eD z1.2.2), .dat (eI i7), .dat (eD i8), .no]) (v_dat (x_var rfl) v_nil) v_nil ⟨rfl, rfl⟩ rfl rfl (n_l_is_count hx10) rfl))) (fun v hv => by (obtain ⟨x11, hx11, hv⟩ := bind_some hv; obtain rfl := Option.some.inj hv; exact (t_truth (x_2 (x_var rfl) (x_var rfl) (q_cmpB hx11))))) rfl rfl hx12) c13 ?_
    refine s_ret (x_tup (x_cons x_C (x_cons (x_var rfl) x_nil)) (Nat.le_of_ble_eq_true rfl)) ?_
    obtain rfl := Option.some.inj hN
    exact rto_of rfl
  · refine s_ifF (t_orQ (val := fun (v : Bool) => v) (st := fun (v : Bool) => [.dat ((eL eD) p_row), .dat (eD c9), .dat (eD z1.1), .dat (eD z1.2.1), .dat (eD z1.2.2), .dat (eI i7), .dat (eD i8), .no]) (v := x12) (v0 := true) (t_not (t_truth (x_callF (fs := [.dat (eD i8)]) (is := []) (outs := []) (S3 := [.dat ((eL eD) p_row), .dat (eD c9), .dat (eD z1.1), .dat (eD z1.2.1), .dat (eD z1.2.2), .dat (eI i7), .dat (eD i8), .no]) (v_dat (x_var rfl) v_nil) v_nil ⟨rfl, rfl⟩ rfl rfl (n_l_is_count hx10) rfl))) (fun v hv => by (obtain ⟨x11, hx11, hv⟩ := bind_some hv; obtain rfl := Option.some.inj hv; exact (t_truth (x_2 (x_var rfl) (x_var rfl) (q_cmpB hx11))))) rfl rfl hx12) c13 ?_
    refine s_next ?_
    refine s_asg (S2 := [.dat ((eL eD) p_row), .dat (eD i8), .dat (eD z1.1), .dat (eD z1.2.1), .dat (eD z1.2.2), .dat (eI i7), .dat (eD i8), .no]) (x_var rfl) rfl ?_
    obtain rfl := Option.some.inj hN
    exact lb_nx rfl
def N_l_due (p_row : (List Dat)) : Option ((Option (Str × Int))) :=
  (un3N p_row).bind fun z1 => (isiB [("NoneType", false), ("bool", false), ("int", false), ("str", false), ("list", true), ("tuple", false), ("dict", false)] [("Curve", false)] z1.1).bind fun x2 => if (!x2) = true then some (some ((("list" : Str), 0))) else (lenB z1.1).bind fun x3 => (if (decide (x3 < 1)) = true then some true else (lenB z1.1).bind fun x4 => some (decide (24 < x4))).bind fun x5 => if x5 = true then some (some ((("count" : Str), 0))) else (decOf (eL eD) z1.1).bind fun k6 => thenL (ρ := (Option (Str × Int))) id (forL (fun (x14 : (Int × Dat)) (s15 : Dat) => N_l_due_b1 x14.1 x14.2 s15) (enumN 0 k6) (eI 0)) fun s16 => (isiB [("NoneType", false), ("bool", true), ("int", true), ("str", false), ("list", false), ("tuple", false), ("dict", false)] [("Curve", false)] z1.2.1).bind fun x18 => (if (!x18) = true then some true else (isiB [("NoneType", false), ("bool", true), ("int", false), ("str", false), ("list", false), ("tuple", false), ("dict", false)] [("Curve", false)] z1.2.1).bind fun x19 => (if x19 = true then some true else (capO (lcO (fun y20 => (eqB (eI y20) (eD z1.2.1)).bind fun x21 => if x21 = true then some (some y20) else some none) ([1, 2, 3, 4, 6, 12]))).bind fun x22 => (eqB ((eL eI) x22) ((eL eI) (([] : List Int)))).bind fun x23 => some x23).bind fun x24 => some x24).bind fun x25 => if x25 = true then some (some ((("period" : Str), 0))) else (lenB z1.1).bind fun x26 => (cmpB gtD (eD z1.2.1) (eI x26)).bind fun x27 => if x27 = true then some (some ((("period" : Str), 0))) else (N_l_is_count z1.2.2).bind fun x28 => (if (!x28) = true then some true else (asL z1.1).bind fun k29 => (catN (([0]).map eI) k29).bind fun x30 => (lenB z1.1).bind fun x31 => (asI z1.2.1).bind fun k32 => (ixN? x30 ((x31 + 1) - k32)).bind fun x33 => (asI x33).bind fun k34 => (asI z1.2.2).bind fun k35 => (ixD z1.1 (eI (-1))).bind fun x36 => (cmpB ltD (eI (k34 + k35)) (eD x36)).bind fun x37 => some x37).bind fun x38 => if x38 = true then some (some ((("gain" : Str), 0))) else some none
theorem n_l_due {p_row : (List Dat)} {a : (Option (Str × Int))} (hN : N_l_due p_row = some a) : F_l_due [.dat ((eL eD) p_row)] = res_l_due a := by
  unfold N_l_due at hN
  refine f_run (k := 0) (S := [.dat ((eL eD) p_row), .no, .no, .no, .no, .no, .no, .no]) rfl rfl rfl ?_
  unfold m_l_due
  refine s_last ?_
  refine s_assoc ?_
  obtain ⟨z1, hz1, hN⟩ := bind_some hN
  refine s_asgG (S2 := [.dat ((eL eD) p_row), .no, .dat (eD z1.1), .dat (eD z1.2.1), .dat (eD z1.2.2), .no, .no, .no]) (x_var rfl) (g_un3 hz1 rfl) ?_
  refine s_assoc ?_
  obtain ⟨x2, hx2, hN⟩ := bind_some hN
  rcases ite_some hN with ⟨c44, hN⟩ | ⟨c44, hN⟩
  · refine s_ifT (t_not (t_truth (x_1 (x_var rfl) (q_isiB hx2)))) c44 ?_
    refine s_ret (x_tup (x_cons x_C (x_cons x_C x_nil)) (Nat.le_of_ble_eq_true rfl)) ?_
    obtain rfl := Option.some.inj hN
    exact rfl
  · refine s_ifF (t_not (t_truth (x_1 (x_var rfl) (q_isiB hx2)))) c44 ?_
    refine s_next ?_
    refine s_assoc ?_
    obtain ⟨x3, hx3, hN⟩ := bind_some hN
    obtain ⟨x5, hx5, hN⟩ := bind_some hN
    rcases ite_some hN with ⟨c43, hN⟩ | ⟨c43, hN⟩
    · refine s_ifT (t_orQ (val := fun (v : Bool) => v) (st := fun (v : Bool) => [.dat ((eL eD) p_row), .no, .dat (eD z1.1), .dat (eD z1.2.1), .dat (eD z1.2.2), .no, .no, .no]) (v := x5) (v0 := true) (t_truth (x_2 (x_call (x_cons (x_var rfl) x_nil) (q_lenB hx3)) x_C rfl)) (fun v hv => by (obtain ⟨x4, hx4, hv⟩ := bind_some hv; obtain rfl := Option.some.inj hv; exact (t_truth (x_2 (x_call (x_cons (x_var rfl) x_nil) (q_lenB hx4)) x_C rfl)))) rfl rfl hx5) c43 ?_
      refine s_ret (x_tup (x_cons x_C (x_cons x_C x_nil)) (Nat.le_of_ble_eq_true rfl)) ?_
      obtain rfl := Option.some.inj hN
      exact rfl
    · refine s_ifF (t_orQ (val := fun (v : Bool) => v) (st := fun (v : Bool) => [.dat ((eL eD) p_row), .no, .dat (eD z1.1), .dat (eD z1.2.1), .dat (eD z1.2.2), .no, .no, .no]) (v := x5) (v0 := true) (t_truth (x_2 (x_call (x_cons (x_var rfl) x_nil) (q_lenB hx3)) x_C rfl)) (fun v hv => by (obtain ⟨x4, hx4, hv⟩ := bind_some hv; obtain rfl := Option.some.inj hv; exact (t_truth (x_2 (x_call (x_cons (x_var rfl) x_nil) (q_lenB hx4)) x_C rfl)))) rfl rfl hx5) c43 ?_
      refine s_next ?_
      refine s_assoc ?_
      refine s_asg (S2 := [.dat ((eL eD) p_row), .dat (eI 0), .dat (eD z1.1), .dat (eD z1.2.1), .dat (eD z1.2.2), .no, .no, .no]) x_C rfl ?_
      refine s_assoc ?_
      obtain ⟨k6, hk6, hN⟩ := bind_some hN
      rcases thenL_some hN with ⟨s16, hs16, hN⟩ | ⟨v42, hs16, hN⟩
      · obtain ⟨j17, es16⟩ : ∃ jx, loopS (gTpN 2 (gCs (gNm 5) (gCs (gNm 6) (gNl)))) (mSeq (mIfS (cOr (cNot (cTruth (mCallF F_l_is_count 1 0 (fun as bs => [as.getD 0 (.dat .non)]) (vDat (mVar 6) (vNil)) vNil))) (cTruth (m2 ltD (mVar 6) (mVar 1)))) (mRet (mTup (mCons (mC (.str "value")) (mCons (mVar 5) (mNil))))) (mNext))
    (mAsg (mVar 6) (gNm 1))) ((enumN 0 k6).map (e2 eI eD)) [.dat ((eL eD) p_row), .dat (eI 0), .dat (eD z1.1), .dat (eD z1.2.1), .dat (eD z1.2.2), .no, .no, .no] = .ok .nx (((fun (s : Dat) (jt : Nat → Slot) => [.dat ((eL eD) p_row), .dat (eD s), .dat (eD z1.1), .dat (eD z1.2.1), .dat (eD z1.2.2), (jt 5), (jt 6), .no])) s16 jx) := le_nx (forL_ok (T := (fun (s : Dat) (jt : Nat → Slot) => [.dat ((eL eD) p_row), .dat (eD s), .dat (eD z1.1), .dat (eD z1.2.1), .dat (eD z1.2.2), (jt 5), (jt 6), .no])) (RT := (RTo 0 (res_l_due))) (f := (e2 eI eD)) rto (fun x14 s15 jw z h => n_l_due_b1 p_row z1 x14.1 x14.2 s15 h jw) (enumN 0 k6) (eI 0) (fun i => List.getD [.dat ((eL eD) p_row), .dat (eI 0), .dat (eD z1.1), .dat (eD z1.2.1), .dat (eD z1.2.2), .no, .no, .no] i .no) _ hs16)
        refine s_for (ds := (enumN 0 k6).map (e2 eI eD)) (i_its (x_cons (x_eq (x_var rfl) (cast_eq hk6)) x_nil) (q_enum (f := eD))) (s_run (S1 := [.dat ((eL eD) p_row), .dat (eD s16), .dat (eD z1.1), .dat (eD z1.2.1), .dat (eD z1.2.2), (j17 5), (j17 6), .no]) es16 ?_)
        refine s_assoc ?_
        obtain ⟨x18, hx18, hN⟩ := bind_some hN
        obtain ⟨x25, hx25, hN⟩ := bind_some hN
        rcases ite_some hN with ⟨c41, hN⟩ | ⟨c41, hN⟩
        · refine s_ifT (t_orQ (val := fun (v : Bool) => v) (st := fun (v : Bool) => [.dat ((eL eD) p_row), .dat (eD s16), .dat (eD z1.1), .dat (eD z1.2.1), .dat (eD z1.2.2), (j17 5), (j17 6), .no]) (v := x25) (v0 := true) (t_not (t_truth (x_1 (x_var rfl) (q_isiB hx18)))) (fun v hv => by (obtain ⟨x19, hx19, hv⟩ := bind_some hv; obtain ⟨x24, hx24, hv⟩ := bind_some hv; obtain rfl := Option.some.inj hv; exact (t_orQ (val := fun (v : Bool) => v) (st := fun (v : Bool) => [.dat ((eL eD) p_row), .dat (eD s16), .dat (eD z1.1), .dat (eD z1.2.1), .dat (eD z1.2.2), (j17 5), (j17 6), .no]) (v := x24) (v0 := true) (t_truth (x_1 (x_var rfl) (q_isiB hx19))) (fun v hv => by (obtain ⟨x22, hx22, hv⟩ := bind_some hv; obtain ⟨x23, hx23, hv⟩ := bind_some hv; obtain rfl := Option.some.inj hv; exact (t_truth (x_2 (x_lc (lc_O (f := eI) (fo := eI) (nb := fun y20 => (eqB (eI y20) (eD z1.2.1)).bind fun x21 => if x21 = true then some (some y20) else some none) (S0 := [.dat ((eL eD) p_row), .dat (eD s16), .dat (eD z1.1), .dat (eD z1.2.1), .dat (eD z1.2.2), (j17 5), (j17 6), .no]) (i_items (x_eq (x_lst (x_cons x_C (x_cons x_C (x_cons x_C (x_cons x_C (x_cons x_C (x_cons x_C x_nil)))))) (Nat.le_of_ble_eq_true rfl)) (by rfl)) rfl) rfl (fun y20 p hp => by (obtain ⟨x21, hx21, hp⟩ := bind_some hp; rcases ite_some hp with ⟨hc, hp⟩ | ⟨hc, hp⟩; (obtain rfl := Option.some.inj hp; exact ⟨[.dat ((eL eD) p_row), .dat (eD s16), .dat (eD z1.1), .dat (eD z1.2.1), .dat (eD z1.2.2), (j17 5), (j17 6), .dat (eI y20)], rfl, _, _, ((t_truth (x_2 (x_var rfl) (x_var rfl) (q_eq hx21)))).trans (by rw [hc]), (x_var rfl), rfl⟩); (obtain rfl := Option.some.inj hp; exact ⟨[.dat ((eL eD) p_row), .dat (eD s16), .dat (eD z1.1), .dat (eD z1.2.1), .dat (eD z1.2.2), (j17 5), (j17 6), .dat (eI y20)], rfl, _, ((t_truth (x_2 (x_var rfl) (x_var rfl) (q_eq hx21)))).trans (by rw [hc]), rfl⟩))) hx22)) (x_eq (x_lst x_nil (Nat.le_of_ble_eq_true rfl)) (by rfl)) (q_eq hx23))))) rfl rfl hx24))) rfl rfl hx25) c41 ?_
          refine s_ret (x_tup (x_cons x_C (x_cons x_C x_nil)) (Nat.le_of_ble_eq_true rfl)) ?_
          obtain rfl := Option.some.inj hN
          exact rfl
        · refine s_ifF (t_orQ (val := fun (v : Bool) => v) (st := fun (v : Bool) => [.dat ((eL eD) p_row), .dat (eD s16), .dat (eD z1.1), .dat (eD z1.2.1), .dat (eD z1.2.2), (j17 5), (j17 6), .no]) (v := x25) (v0 := true) (t_not (t_truth (x_1 (x_var rfl) (q_isiB hx18)))) (fun v hv => by (obtain ⟨x19, hx19, hv⟩ := bind_some hv; obtain ⟨x24, hx24, hv⟩ := bind_some hv; obtain rfl := Option.some.inj hv; exact (t_orQ (val := fun (v : Bool) => v) (st := fun (v : Bool) => [.dat ((eL eD) p_row), .dat (eD s16), .dat (eD z1.1), .dat (eD z1.2.1), .dat (eD z1.2.2), (j17 5), (j17 6), .no]) (v := x24) (v0 := true) (t_truth (x_1 (x_var rfl) (q_isiB hx19))) (fun v hv => by (obtain ⟨x22, hx22, hv⟩ := bind_some hv; obtain ⟨x23, hx23, hv⟩ := bind_some hv; obtain rfl := Option.some.inj hv; exact (t_truth (x_2 (x_lc (lc_O (f := eI) (fo := eI) (nb := fun y20 => (eqB (eI y20) (eD z1.2.1)).bind fun x21 => if x21 = true then some (some y20) else some none) (S0 := [.dat ((eL eD) p_row), .dat (eD s16), .dat (eD z1.1), .dat (eD z1.2.1), .dat (eD z1.2.2), (j17 5), (j17 6), .no]) (i_items (x_eq (x_lst (x_cons x_C (x_cons x_C (x_cons x_C (x_cons x_C (x_cons x_C (x_cons x_C x_nil)))))) (Nat.le_of_ble_eq_true rfl)) (by rfl)) rfl) rfl (fun y20 p hp => by (obtain ⟨x21, hx21, hp⟩ := bind_some hp; rcases ite_some hp with ⟨hc, hp⟩ | ⟨hc, hp⟩; (obtain rfl := Option.some.inj hp; exact ⟨[.dat ((eL eD) p_row), .dat (eD s16), .dat (eD z1.1), .dat (eD z1.2.1), .dat (eD z1.2.2), (j17 5), (j17 6), .dat (eI y20)], rfl, _, _, ((t_truth (x_2 (x_var rfl) (x_var rfl) (q_eq hx21)))).trans (by rw [hc]), (x_var rfl), rfl⟩); (obtain rfl := Option.some.inj hp; exact ⟨[.dat ((eL eD) p_row), .dat (eD s16), .dat (eD z1.1), .dat (eD z1.2.1), .dat (eD z1.2.2), (j17 5), (j17 6), .dat (eI y20)], rfl, _, ((t_truth (x_2 (x_var rfl) (x_var rfl) (q_eq hx21)))).trans (by rw [hc]), rfl⟩))) hx22)) (x_eq (x_lst x_nil (Nat.le_of_ble_eq_true rfl)) (by rfl)) (q_eq hx23))))) rfl rfl hx24))) rfl rfl hx25) c41 ?_
          refine s_next ?_
          refine s_assoc ?_
          obtain ⟨x26, hx26, hN⟩ := bind_some hN
          obtain ⟨x27, hx27, hN⟩ := bind_some hN
          rcases ite_some hN with ⟨c40, hN⟩ | ⟨c40, hN⟩
          · refine s_ifT (t_truth (x_2 (x_var rfl) (x_call (x_cons (x_var rfl) x_nil) (q_lenB hx26)) (q_cmpB hx27))) c40 ?_
            refine s_ret (x_tup (x_cons x_C (x_cons x_C x_nil)) (Nat.le_of_ble_eq_true rfl)) ?_
            obtain rfl := Option.some.inj hN
            exact rfl
          · refine s_ifF (t_truth (x_2 (x_var rfl) (x_call (x_cons (x_var rfl) x_nil) (q_lenB hx26)) (q_cmpB hx27))) c40 ?_
            refine s_next ?_
            refine s_assoc ?_
            obtain ⟨x28, hx28, hN⟩ := bind_some hN
            obtain ⟨x38, hx38, hN⟩ := bind_some hN
            rcases ite_some hN with ⟨c39, hN⟩ | ⟨c39, hN⟩
            · refine s_ifT (t_orQ (val := fun (v : Bool) => v) (st := fun (v : Bool) => [.dat ((eL eD) p_row), .dat (eD s16), .dat (eD z1.1), .dat (eD z1.2.1), .dat (eD z1.2.2), (j17 5), (j17 6), .no]) (v := x38) (v0 := true) (t_not (t_truth (x_callF (fs := [.dat (eD z1.2.2)]) (is := []) (outs := []) (S3 := [.dat ((eL eD) p_row), .dat (eD s16), .dat (eD z1.1), .dat (eD z1.2.1), .dat (eD z1.2.2), (j17 5), (j17 6), .no]) (v_dat (x_var rfl) v_nil) v_nil ⟨rfl, rfl⟩ rfl rfl (n_l_is_count hx28) rfl))) (fun v hv => by (obtain ⟨k29, hk29, hv⟩ := bind_some hv; obtain ⟨x30, hx30, hv⟩ := bind_some hv; obtain ⟨x31, hx31, hv⟩ := bind_some hv; obtain ⟨k32, hk32, hv⟩ := bind_some hv; obtain ⟨x33, hx33, hv⟩ := bind_some hv; obtain ⟨k34, hk34, hv⟩ := bind_some hv; obtain ⟨k35, hk35, hv⟩ := bind_some hv; obtain ⟨x36, hx36, hv⟩ := bind_some hv; obtain ⟨x37, hx37, hv⟩ := bind_some hv; obtain rfl := Option.some.inj hv; exact (t_truth (x_2 (x_2 (x_eq (x_2 (x_2 (x_eq (x_eq (x_lst (x_cons x_C x_nil) (Nat.le_of_ble_eq_true rfl)) (by rfl)) eL_any) (x_eq (x_var rfl) (asL_eq hk29)) (q_cat (f := eD) hx30)) (x_2 (x_2 (x_call (x_cons (x_var rfl) x_nil) (q_lenB hx31)) x_C rfl) (x_eq (x_var rfl) (asI_eq hk32)) rfl) (q_ix (f := eD) hx33)) (asI_eq hk34)) (x_eq (x_var rfl) (asI_eq hk35)) rfl) (x_2 (x_var rfl) (x_1 x_C rfl) hx36) (q_cmpB hx37))))) rfl rfl hx38) c39 ?_
              refine s_ret (x_tup (x_cons x_C (x_cons x_C x_nil)) (Nat.le_of_ble_eq_true rfl)) ?_
              obtain rfl := Option.some.inj hN
              exact rfl
            · refine s_ifF (t_orQ (val := fun (v : Bool) => v) (st := fun (v : Bool) => [.dat ((eL eD) p_row), .dat (eD s16), .dat (eD z1.1), .dat (eD z1.2.1), .dat (eD z1.2.2), (j17 5), (j17 6), .no]) (v := x38) (v0 := true) (t_not (t_truth (x_callF (fs := [.dat (eD z1.2.2)]) (is := []) (outs := []) (S3 := [.dat ((eL eD) p_row), .dat (eD s16), .dat (eD z1.1), .dat (eD z1.2.1), .dat (eD z1.2.2), (j17 5), (j17 6), .no]) (v_dat (x_var rfl) v_nil) v_nil ⟨rfl, rfl⟩ rfl rfl (n_l_is_count hx28) rfl))) (fun v hv => by (obtain ⟨k29, hk29, hv⟩ := bind_some hv; obtain ⟨x30, hx30, hv⟩ := bind_some hv; obtain ⟨x31, hx31, hv⟩ := bind_some hv; obtain ⟨k32, hk32, hv⟩ := bind_some hv; obtain ⟨x33, hx33, hv⟩ := bind_some hv; obtain ⟨k34, hk34, hv⟩ := bind_some hv; obtain ⟨k35, hk35, hv⟩ := bind_some hv; obtain ⟨x36, hx36, hv⟩ := bind_some hv; obtain ⟨x37, hx37, hv⟩ := bind_some hv; obtain rfl := Option.some.inj hv; exact (t_truth (x_2 (x_2 (x_eq (x_2 (x_2 (x_eq (x_eq (x_lst (x_cons x_C x_nil) (Nat.le_of_ble_eq_true rfl)) (by rfl)) eL_any) (x_eq (x_var rfl) (asL_eq hk29)) (q_cat (f := eD) hx30)) (x_2 (x_2 (x_call (x_cons (x_var rfl) x_nil) (q_lenB hx31)) x_C rfl) (x_eq (x_var rfl) (asI_eq hk32)) rfl) (q_ix (f := eD) hx33)) (asI_eq hk34)) (x_eq (x_var rfl) (asI_eq hk35)) rfl) (x_2 (x_var rfl) (x_1 x_C rfl) hx36) (q_cmpB hx37))))) rfl rfl hx38) c39 ?_
              refine s_next ?_
              refine s_ret x_C ?_
              obtain rfl := Option.some.inj hN
              exact rfl
      · have es16 : RTo 0 (res_l_due) v42 (loopS (gTpN 2 (gCs (gNm 5) (gCs (gNm 6) (gNl)))) (mSeq (mIfS (cOr (cNot (cTruth (mCallF F_l_is_count 1 0 (fun as bs => [as.getD 0 (.dat .non)]) (vDat (mVar 6) (vNil)) vNil))) (cTruth (m2 ltD (mVar 6) (mVar 1)))) (mRet (mTup (mCons (mC (.str "value")) (mCons (mVar 5) (mNil))))) (mNext))
    (mAsg (mVar 6) (gNm 1))) ((enumN 0 k6).map (e2 eI eD)) [.dat ((eL eD) p_row), .dat (eI 0), .dat (eD z1.1), .dat (eD z1.2.1), .dat (eD z1.2.2), .no, .no, .no]) := le_rt (forL_ok (T := (fun (s : Dat) (jt : Nat → Slot) => [.dat ((eL eD) p_row), .dat (eD s), .dat (eD z1.1), .dat (eD z1.2.1), .dat (eD z1.2.2), (jt 5), (jt 6), .no])) (RT := (RTo 0 (res_l_due))) (f := (e2 eI eD)) rto (fun x14 s15 jw z h => n_l_due_b1 p_row z1 x14.1 x14.2 s15 h jw) (enumN 0 k6) (eI 0) (fun i => List.getD [.dat ((eL eD) p_row), .dat (eI 0), .dat (eD z1.1), .dat (eD z1.2.1), .dat (eD z1.2.2), .no, .no, .no] i .no) _ hs16)
        subst hN
        exact s_for (ds := (enumN 0 k6).map (e2 eI eD)) (i_its (x_cons (x_eq (x_var rfl) (cast_eq hk6)) x_nil) (q_enum (f := eD))) (s_rto es16 es16.2)
def res_is_integer_d (a : Bool) : RF := .ok (eB a) []
def N_is_integer_d (p_value : Dat) : Option (Bool) :=
  (isiB [("NoneType", false), ("bool", true), ("int", true), ("str", false), ("list", false), ("tuple", false), ("dict", false)] [("Curve", false)] p_value).bind fun x1 => (if x1 = true then (isiB [("NoneType", false), ("bool", true), ("int", false), ("str", false), ("list", false), ("tuple", false), ("dict", false)] [("Curve", false)] p_value).bind fun x2 => some (!x2) else some false).bind fun x3 => some x3
theorem n_is_integer_d {p_value : Dat} {a : Bool} (hN : N_is_integer_d p_value = some a) : F_is_integer [.dat (eD p_value)] = res_is_integer_d a := by
  unfold N_is_integer_d at hN
  refine f_run (k := 0) (S := [.dat (eD p_value)]) rfl rfl rfl ?_
  unfold m_is_integer
  refine s_last ?_
  obtain ⟨x1, hx1, hN⟩ := bind_some hN
  obtain ⟨x3, hx3, hN⟩ := bind_some hN
  refine s_ret (x_andQ (val := fun (v : Bool) => v) (st := fun (v : Bool) => [.dat (eD p_value)]) (v := x3) (v0 := false) (x_1 (x_var rfl) (q_isiB hx1)) (fun v hv => by (obtain ⟨x2, hx2, hv⟩ := bind_some hv; obtain rfl := Option.some.inj hv; exact (x_not (x_1 (x_var rfl) (q_isiB hx2))))) rfl rfl hx3) ?_
  obtain rfl := Option.some.inj hN
  exact rfl
def res_is_count_di (a : Bool) : RF := .ok (eB a) []
def N_is_count_di (p_value : Dat) (p_most : Int) : Option (Bool) :=
  (N_is_integer_d p_value).bind fun x1 => (if x1 = true then (cmpB geD (eD p_value) (eI 0)).bind fun x2 => (if x2 = true then (cmpB leD (eD p_value) (eI p_most)).bind fun x3 => some x3 else some false).bind fun x4 => some x4 else some false).bind fun x5 => some x5
theorem n_is_count_di {p_value : Dat} {p_most : Int} {a : Bool} (hN : N_is_count_di p_value p_most = some a) : F_is_count [.dat (eD p_value), .dat (eI p_most)] = res_is_count_di a := by
  unfold N_is_count_di at hN
  refine f_run (k := 0) (S := [.dat (eD p_value), .dat (eI p_most)]) rfl rfl rfl ?_
  unfold m_is_count
  refine s_last ?_
  obtain ⟨x1, hx1, hN⟩ := bind_some hN
  obtain ⟨x5, hx5, hN⟩ := bind_some hN
  refine s_ret (x_andQ (val := fun (v : Bool) => v) (st := fun (v : Bool) => [.dat (eD p_value), .dat (eI p_most)]) (v := x5) (v0 := false) (x_callF (fs := [.dat (eD p_value)]) (is := []) (outs := []) (S3 := [.dat (eD p_value), .dat (eI p_most)]) (v_dat (x_var rfl) v_nil) v_nil ⟨rfl, rfl⟩ rfl rfl (n_is_integer_d hx1) rfl) (fun v hv => by (obtain ⟨x2, hx2, hv⟩ := bind_some hv; obtain ⟨x4, hx4, hv⟩ := bind_some hv; obtain rfl := Option.some.inj hv; exact (x_andQ (val := fun (v : Bool) => v) (st := fun (v : Bool) => [.dat (eD p_value), .dat (eI p_most)]) (v := x4) (v0 := false) (x_2 (x_var rfl) x_C (q_cmpB hx2)) (fun v hv => by (obtain ⟨x3, hx3, hv⟩ := bind_some hv; obtain rfl := Option.some.inj hv; exact (x_orF (x_2 (x_var rfl) x_C rfl) (x_2 (x_var rfl) (x_var rfl) (q_cmpB hx3))))) rfl rfl hx4))) rfl rfl hx5) ?_
  obtain rfl := Option.some.inj hN
  exact rfl
def res_check_values_d (a : Unit) : RF := .ok (eU a) []
def N_check_values_d_b1 (p_values : Dat) (i4 : Int) (i5 : Dat) : Option (Unit) :=
  (N_is_count_di i5 2000).bind fun x6 => (if (!x6) = true then some true else (if (decide (0 < i4)) = true then (ixD p_values (eI (i4 - 1))).bind fun x7 => (cmpB ltD (eD i5) (eD x7)).bind fun x8 => some x8 else some false).bind fun x9 => some x9).bind fun x10 => if x10 = true then none else some ()
theorem n_check_values_d_b1 (p_values : Dat) (i4 : Int) (i5 : Dat) {a : Unit} (hN : N_check_values_d_b1 p_values i4 i5 = some a) (j : Nat → Slot) : ∃ S1, (gTpN 2 (gCs (gNm 1) (gCs (gNm 2) (gNl)))) ((e2 eI eD) (i4, i5)) [.dat (eD p_values), (j 1), (j 2)] = .ok () S1 ∧ LN (fun (s : Unit) (jt : Nat → Slot) => [.dat (eD p_values), (jt 1), (jt 2)]) a ((mIfS (cOr (cNot (cTruth (mCallF F_is_count 2 0 (fun as bs => [as.getD 0 (.dat .non), as.getD 1 (.dat .non)]) (vDat (mVar 2) (vDat (mC (.int 2000)) (vNil))) vNil))) (cAnd (cTruth (m2 gtD (mVar 1) (mC (.int 0)))) (cTruth (m2 ltD (mVar 2) (m2 ixD (mVar 0) (m2 subD (mVar 1) (mC (.int 1)))))))) (mRaise "InvalidCurve" X_InvalidCurve_init0 2 (vDat (mC (.str "value")) (vDat (mVar 1) (vNil)))) (mNext)) S1) := by
  unfold N_check_values_d_b1 at hN
  refine ⟨[.dat (eD p_values), .dat (eI i4), .dat (eD i5)], rfl, ?_⟩
  refine s_last ?_
  obtain ⟨x6, hx6, hN⟩ := bind_some hN
  obtain ⟨x10, hx10, hN⟩ := bind_some hN
  rcases ite_some hN with ⟨c11, hN⟩ | ⟨c11, hN⟩
  · refine s_ifT (t_orQ (val := fun (v : Bool) => v) (st := fun (v : Bool) => [.dat (eD p_values), .dat (eI i4), .dat (eD i5)]) (v := x10) (v0 := true) (t_not (t_truth (x_callF (fs := [.dat (eD i5), .dat (eI 2000)]) (is := []) (outs := []) (S3 := [.dat (eD p_values), .dat (eI i4), .dat (eD i5)]) (v_dat (x_var rfl) (v_dat x_C v_nil)) v_nil ⟨rfl, rfl⟩ rfl rfl (n_is_count_di hx6) rfl))) (fun v hv => by (obtain ⟨x9, hx9, hv⟩ := bind_some hv; obtain rfl := Option.some.inj hv; exact (t_andQ (val := fun (v : Bool) => v) (st := fun (v : Bool) => [.dat (eD p_values), .dat (eI i4), .dat (eD i5)]) (v := x9) (v0 := false) (t_truth (x_2 (x_var rfl) x_C rfl)) (fun v hv => by (obtain ⟨x7, hx7, hv⟩ := bind_some hv; obtain ⟨x8, hx8, hv⟩ := bind_some hv; obtain rfl := Option.some.inj hv; exact (t_truth (x_2 (x_var rfl) (x_2 (x_var rfl) (x_2 (x_var rfl) x_C rfl) hx7) (q_cmpB hx8))))) rfl rfl hx9))) rfl rfl hx10) c11 ?_
    cases hN
  · refine s_ifF (t_orQ (val := fun (v : Bool) => v) (st := fun (v : Bool) => [.dat (eD p_values), .dat (eI i4), .dat (eD i5)]) (v := x10) (v0 := true) (t_not (t_truth (x_callF (fs := [.dat (eD i5), .dat (eI 2000)]) (is := []) (outs := []) (S3 := [.dat (eD p_values), .dat (eI i4), .dat (eD i5)]) (v_dat (x_var rfl) (v_dat x_C v_nil)) v_nil ⟨rfl, rfl⟩ rfl rfl (n_is_count_di hx6) rfl))) (fun v hv => by (obtain ⟨x9, hx9, hv⟩ := bind_some hv; obtain rfl := Option.some.inj hv; exact (t_andQ (val := fun (v : Bool) => v) (st := fun (v : Bool) => [.dat (eD p_values), .dat (eI i4), .dat (eD i5)]) (v := x9) (v0 := false) (t_truth (x_2 (x_var rfl) x_C rfl)) (fun v hv => by (obtain ⟨x7, hx7, hv⟩ := bind_some hv; obtain ⟨x8, hx8, hv⟩ := bind_some hv; obtain rfl := Option.some.inj hv; exact (t_truth (x_2 (x_var rfl) (x_2 (x_var rfl) (x_2 (x_var rfl) x_C rfl) hx7) (q_cmpB hx8))))) rfl rfl hx9))) rfl rfl hx10) c11 ?_
    refine s_next ?_
    obtain rfl := Option.some.inj hN
    exact ln_nx rfl
def N_check_values_d (p_values : Dat) : Option (Unit) :=
  (isiB [("NoneType", false), ("bool", false), ("int", false), ("str", false), ("list", true), ("tuple", false), ("dict", false)] [("Curve", false)] p_values).bind fun x1 => if (!x1) = true then none else (lenB p_values).bind fun x2 => if (!(decide (1 ≤ x2) && decide (x2 ≤ 24))) = true then none else (decOf (eL eD) p_values).bind fun k3 => (foldO (fun (x12 : (Int × Dat)) (s13 : Unit) => N_check_values_d_b1 p_values x12.1 x12.2) (enumN 0 k3) ()).bind fun s14 => some ()
theorem n_check_values_d {p_values : Dat} {a : Unit} (hN : N_check_values_d p_values = some a) : F_check_values [.dat (eD p_values)] = res_check_values_d a := by
  unfold N_check_values_d at hN
  refine f_run (k := 0) (S := [.dat (eD p_values), .no, .no]) rfl rfl rfl ?_
  unfold m_check_values
  refine s_last ?_
  refine s_assoc ?_
  obtain ⟨x1, hx1, hN⟩ := bind_some hN
  rcases ite_some hN with ⟨c17, hN⟩ | ⟨c17, hN⟩
  · refine s_ifT (t_not (t_truth (x_1 (x_var rfl) (q_isiB hx1)))) c17 ?_
    cases hN
  · refine s_ifF (t_not (t_truth (x_1 (x_var rfl) (q_isiB hx1)))) c17 ?_
    refine s_next ?_
    refine s_assoc ?_
    obtain ⟨x2, hx2, hN⟩ := bind_some hN
    rcases ite_some hN with ⟨c16, hN⟩ | ⟨c16, hN⟩
    · refine s_ifT (t_not (t_truth (x_chain x_C (x_call (x_cons (x_var rfl) x_nil) (q_lenB hx2)) x_C rfl rfl))) c16 ?_
      cases hN
    · refine s_ifF (t_not (t_truth (x_chain x_C (x_call (x_cons (x_var rfl) x_nil) (q_lenB hx2)) x_C rfl rfl))) c16 ?_
      refine s_next ?_
      obtain ⟨k3, hk3, hN⟩ := bind_some hN
      obtain ⟨s14, hs14, hN⟩ := bind_some hN
      obtain ⟨j15, es14⟩ : ∃ jx, loopS (gTpN 2 (gCs (gNm 1) (gCs (gNm 2) (gNl)))) (mIfS (cOr (cNot (cTruth (mCallF F_is_count 2 0 (fun as bs => [as.getD 0 (.dat .non), as.getD 1 (.dat .non)]) (vDat (mVar 2) (vDat (mC (.int 2000)) (vNil))) vNil))) (cAnd (cTruth (m2 gtD (mVar 1) (mC (.int 0)))) (cTruth (m2 ltD (mVar 2) (m2 ixD (mVar 0) (m2 subD (mVar 1) (mC (.int 1)))))))) (mRaise "InvalidCurve" X_InvalidCurve_init0 2 (vDat (mC (.str "value")) (vDat (mVar 1) (vNil)))) (mNext)) ((enumN 0 k3).map (e2 eI eD)) [.dat (eD p_values), .no, .no] = .ok .nx (((fun (s : Unit) (jt : Nat → Slot) => [.dat (eD p_values), (jt 1), (jt 2)])) s14 jx) := foldO_ok (T := (fun (s : Unit) (jt : Nat → Slot) => [.dat (eD p_values), (jt 1), (jt 2)])) (f := (e2 eI eD)) (fun x12 s13 jw z h => n_check_values_d_b1 p_values x12.1 x12.2 h jw) (enumN 0 k3) () (fun i => List.getD [.dat (eD p_values), .no, .no] i .no) _ hs14
      refine s_for (ds := (enumN 0 k3).map (e2 eI eD)) (i_its (x_cons (x_eq (x_var rfl) (cast_eq hk3)) x_nil) (q_enum (f := eD))) (s_run (S1 := [.dat (eD p_values), (j15 1), (j15 2)]) es14 ?_)
      obtain rfl := Option.some.inj hN
      exact rfl
def res_value_at_liiii (a : Int) : RF := .ok (eI a) []
def N_value_at_liiii (p_values : (List Int)) (p_period : Int) (p_gain : Int) (p_length : Int) : Option (Int) :=
  if (decide (p_length = 0)) = true then some 0 else if (decide (p_length ≤ ((p_values.length : Int)))) = true then (ixN? p_values (p_length - 1)).bind fun x1 => some x1 else (divN (((p_length - ((p_values.length : Int))) + p_period) - 1) p_period).bind fun x2 => (mulN x2 p_period).bind fun x3 => (ixN? p_values ((p_length - x3) - 1)).bind fun x4 => (mulN x2 p_gain).bind fun x5 => some (x4 + x5)
theorem n_value_at_liiii {p_values : (List Int)} {p_period : Int} {p_gain : Int} {p_length : Int} {a : Int} (hN : N_value_at_liiii p_values p_period p_gain p_length = some a) : F_value_at [.dat ((eL eI) p_values), .dat (eI p_period), .dat (eI p_gain), .dat (eI p_length)] = res_value_at_liiii a := by
  unfold N_value_at_liiii at hN
  refine f_run (k := 0) (S := [.dat ((eL eI) p_values), .dat (eI p_period), .dat (eI p_gain), .dat (eI p_length), .no]) rfl rfl rfl ?_
  unfold m_value_at
  refine s_last ?_
  refine s_assoc ?_
  rcases ite_some hN with ⟨c7, hN⟩ | ⟨c7, hN⟩
  · refine s_ifT (t_truth (x_2 (x_var rfl) x_C rfl)) c7 ?_
    refine s_ret x_C ?_
    obtain rfl := Option.some.inj hN
    exact rfl
  · refine s_ifF (t_truth (x_2 (x_var rfl) x_C rfl)) c7 ?_
    refine s_next ?_
    refine s_assoc ?_
    rcases ite_some hN with ⟨c6, hN⟩ | ⟨c6, hN⟩
    · refine s_ifT (t_truth (x_2 (x_var rfl) (x_call (x_cons (x_var rfl) x_nil) (q_len (f := eI))) rfl)) c6 ?_
      obtain ⟨x1, hx1, hN⟩ := bind_some hN
      refine s_ret (x_2 (x_var rfl) (x_2 (x_var rfl) x_C rfl) (q_ix (f := eI) hx1)) ?_
      obtain rfl := Option.some.inj hN
      exact rfl
    · refine s_ifF (t_truth (x_2 (x_var rfl) (x_call (x_cons (x_var rfl) x_nil) (q_len (f := eI))) rfl)) c6 ?_
      refine s_next ?_
      refine s_assoc ?_
      obtain ⟨x2, hx2, hN⟩ := bind_some hN
      refine s_asg (S2 := [.dat ((eL eI) p_values), .dat (eI p_period), .dat (eI p_gain), .dat (eI p_length), .dat (eI x2)]) (x_2 (x_2 (x_2 (x_2 (x_var rfl) (x_call (x_cons (x_var rfl) x_nil) (q_len (f := eI))) rfl) (x_var rfl) rfl) x_C rfl) (x_var rfl) (q_div hx2)) rfl ?_
      obtain ⟨x3, hx3, hN⟩ := bind_some hN
      obtain ⟨x4, hx4, hN⟩ := bind_some hN
      obtain ⟨x5, hx5, hN⟩ := bind_some hN
      refine s_ret (x_2 (x_2 (x_var rfl) (x_2 (x_2 (x_var rfl) (x_2 (x_var rfl) (x_var rfl) (q_mul hx3)) rfl) x_C rfl) (q_ix (f := eI) hx4)) (x_2 (x_var rfl) (x_var rfl) (q_mul hx5)) rfl) ?_
      obtain rfl := Option.some.inj hN
      exact rfl
def res_check_growth_ddd (a : Unit) : RF := .ok (eU a) []
def N_check_growth_ddd (p_values : Dat) (p_period : Dat) (p_gain : Dat) : Option (Unit) :=
  (N_is_integer_d p_period).bind fun x1 => (if (!x1) = true then some true else (inB (eD p_period) ((eT eI) ([1, 2, 3, 4, 6, 12]))).bind fun x2 => (if (!x2) = true then some true else (lenB p_values).bind fun x3 => (cmpB gtD (eD p_period) (eI x3)).bind fun x4 => some x4).bind fun x5 => some x5).bind fun x6 => if x6 = true then none else (N_is_count_di p_gain 2000).bind fun x7 => (if (!x7) = true then some true else (decOf (eL eI) p_values).bind fun k8 => (decOf eI p_period).bind fun k9 => (decOf eI p_gain).bind fun k10 => (lenB p_values).bind fun x11 => (N_value_at_liiii k8 k9 k10 (x11 + 1)).bind fun x12 => (ixD p_values (eI (-1))).bind fun x13 => (cmpB ltD (eI x12) (eD x13)).bind fun x14 => some x14).bind fun x15 => if x15 = true then none else some ()
theorem n_check_growth_ddd {p_values : Dat} {p_period : Dat} {p_gain : Dat} {a : Unit} (hN : N_check_growth_ddd p_values p_period p_gain = some a) : F_check_growth [.dat (eD p_values), .dat (eD p_period), .dat (eD p_gain)] = res_check_growth_ddd a := by
  unfold N_check_growth_ddd at hN
  refine f_run (k := 0) (S := [.dat (eD p_values), .dat (eD p_period), .dat (eD p_gain)]) rfl rfl rfl ?_
  unfold m_check_growth
  refine s_last ?_
  refine s_assoc ?_
  obtain ⟨x1, hx1, hN⟩ := bind_some hN
  obtain ⟨x6, hx6, hN⟩ := bind_some hN
  rcases ite_some hN with ⟨c17, hN⟩ | ⟨c17, hN⟩
  · refine s_ifT (t_orQ (val := fun (v : Bool) => v) (st := fun (v : Bool) => [.dat (eD p_values), .dat (eD p_period), .dat (eD p_gain)]) (v := x6) (v0 := true) (t_not (t_truth (x_callF (fs := [.dat (eD p_period)]) (is := []) (outs := []) (S3 := [.dat (eD p_values), .dat (eD p_period), .dat (eD p_gain)]) (v_dat (x_var rfl) v_nil) v_nil ⟨rfl, rfl⟩ rfl rfl (n_is_integer_d hx1) rfl))) (fun v hv => by (obtain ⟨x2, hx2, hv⟩ := bind_some hv; obtain ⟨x5, hx5, hv⟩ := bind_some hv; obtain rfl := Option.some.inj hv; exact (t_orQ (val := fun (v : Bool) => v) (st := fun (v : Bool) => [.dat (eD p_values), .dat (eD p_period), .dat (eD p_gain)]) (v := x5) (v0 := true) (t_truth (x_2 (x_var rfl) x_C (q_notInXF hx2))) (fun v hv => by (obtain ⟨x3, hx3, hv⟩ := bind_some hv; obtain ⟨x4, hx4, hv⟩ := bind_some hv; obtain rfl := Option.some.inj hv; exact (t_truth (x_2 (x_var rfl) (x_call (x_cons (x_var rfl) x_nil) (q_lenB hx3)) (q_cmpB hx4))))) rfl rfl hx5))) rfl rfl hx6) c17 ?_
    cases hN
  · refine s_ifF (t_orQ (val := fun (v : Bool) => v) (st := fun (v : Bool) => [.dat (eD p_values), .dat (eD p_period), .dat (eD p_gain)]) (v := x6) (v0 := true) (t_not (t_truth (x_callF (fs := [.dat (eD p_period)]) (is := []) (outs := []) (S3 := [.dat (eD p_values), .dat (eD p_period), .dat (eD p_gain)]) (v_dat (x_var rfl) v_nil) v_nil ⟨rfl, rfl⟩ rfl rfl (n_is_integer_d hx1) rfl))) (fun v hv => by (obtain ⟨x2, hx2, hv⟩ := bind_some hv; obtain ⟨x5, hx5, hv⟩ := bind_some hv; obtain rfl := Option.some.inj hv; exact (t_orQ (val := fun (v : Bool) => v) (st := fun (v : Bool) => [.dat (eD p_values), .dat (eD p_period), .dat (eD p_gain)]) (v := x5) (v0 := true) (t_truth (x_2 (x_var rfl) x_C (q_notInXF hx2))) (fun v hv => by (obtain ⟨x3, hx3, hv⟩ := bind_some hv; obtain ⟨x4, hx4, hv⟩ := bind_some hv; obtain rfl := Option.some.inj hv; exact (t_truth (x_2 (x_var rfl) (x_call (x_cons (x_var rfl) x_nil) (q_lenB hx3)) (q_cmpB hx4))))) rfl rfl hx5))) rfl rfl hx6) c17 ?_
    refine s_next ?_
    obtain ⟨x7, hx7, hN⟩ := bind_some hN
    obtain ⟨x15, hx15, hN⟩ := bind_some hN
    rcases ite_some hN with ⟨c16, hN⟩ | ⟨c16, hN⟩
    · refine s_ifT (t_orQ (val := fun (v : Bool) => v) (st := fun (v : Bool) => [.dat (eD p_values), .dat (eD p_period), .dat (eD p_gain)]) (v := x15) (v0 := true) (t_not (t_truth (x_callF (fs := [.dat (eD p_gain), .dat (eI 2000)]) (is := []) (outs := []) (S3 := [.dat (eD p_values), .dat (eD p_period), .dat (eD p_gain)]) (v_dat (x_var rfl) (v_dat x_C v_nil)) v_nil ⟨rfl, rfl⟩ rfl rfl (n_is_count_di hx7) rfl))) (fun v hv => by (obtain ⟨k8, hk8, hv⟩ := bind_some hv; obtain ⟨k9, hk9, hv⟩ := bind_some hv; obtain ⟨k10, hk10, hv⟩ := bind_some hv; obtain ⟨x11, hx11, hv⟩ := bind_some hv; obtain ⟨x12, hx12, hv⟩ := bind_some hv; obtain ⟨x13, hx13, hv⟩ := bind_some hv; obtain ⟨x14, hx14, hv⟩ := bind_some hv; obtain rfl := Option.some.inj hv; exact (t_truth (x_2 (x_callF (fs := [.dat ((eL eI) k8), .dat (eI k9), .dat (eI k10), .dat (eI (x11 + 1))]) (is := []) (outs := []) (S3 := [.dat (eD p_values), .dat (eD p_period), .dat (eD p_gain)]) (v_dat (x_eq (x_var rfl) (cast_eq hk8)) (v_dat (x_eq (x_var rfl) (cast_eq hk9)) (v_dat (x_eq (x_var rfl) (cast_eq hk10)) (v_dat (x_2 (x_call (x_cons (x_var rfl) x_nil) (q_lenB hx11)) x_C rfl) v_nil)))) v_nil ⟨rfl, rfl⟩ rfl rfl (n_value_at_liiii hx12) rfl) (x_2 (x_var rfl) (x_1 x_C rfl) hx13) (q_cmpB hx14))))) rfl rfl hx15) c16 ?_
      cases hN
    · refine s_ifF (t_orQ (val := fun (v : Bool) => v) (st := fun (v : Bool) => [.dat (eD p_values), .dat (eD p_period), .dat (eD p_gain)]) (v := x15) (v0 := true) (t_not (t_truth (x_callF (fs := [.dat (eD p_gain), .dat (eI 2000)]) (is := []) (outs := []) (S3 := [.dat (eD p_values), .dat (eD p_period), .dat (eD p_gain)]) (v_dat (x_var rfl) (v_dat x_C v_nil)) v_nil ⟨rfl, rfl⟩ rfl rfl (n_is_count_di hx7) rfl))) (fun v hv => by (obtain ⟨k8, hk8, hv⟩ := bind_some hv; obtain ⟨k9, hk9, hv⟩ := bind_some hv; obtain ⟨k10, hk10, hv⟩ := bind_some hv; obtain ⟨x11, hx11, hv⟩ := bind_some hv; obtain ⟨x12, hx12, hv⟩ := bind_some hv; obtain ⟨x13, hx13, hv⟩ := bind_some hv; obtain ⟨x14, hx14, hv⟩ := bind_some hv; obtain rfl := Option.some.inj hv; exact (t_truth (x_2 (x_callF (fs := [.dat ((eL eI) k8), .dat (eI k9), .dat (eI k10), .dat (eI (x11 + 1))]) (is := []) (outs := []) (S3 := [.dat (eD p_values), .dat (eD p_period), .dat (eD p_gain)]) (v_dat (x_eq (x_var rfl) (cast_eq hk8)) (v_dat (x_eq (x_var rfl) (cast_eq hk9)) (v_dat (x_eq (x_var rfl) (cast_eq hk10)) (v_dat (x_2 (x_call (x_cons (x_var rfl) x_nil) (q_lenB hx11)) x_C rfl) v_nil)))) v_nil ⟨rfl, rfl⟩ rfl rfl (n_value_at_liiii hx12) rfl) (x_2 (x_var rfl) (x_1 x_C rfl) hx13) (q_cmpB hx14))))) rfl rfl hx15) c16 ?_
      refine s_next ?_
      obtain rfl := Option.some.inj hN
      exact rfl
def res_grows_by_liiii (a : (Option Int)) : RF := .ok ((eO eI) a) []
def N_grows_by_liiii_b1 (p_values : (List Int)) (p_period : Int) (p_gain : Int) (p_other : Int) (v4 : Int) (i6 : Int) : Option (Stp ((Option Int)) (Unit)) :=
  (N_value_at_liiii p_values p_period p_gain i6).bind fun x7 => (N_value_at_liiii p_values p_period p_gain (i6 + p_other)).bind fun x8 => if (!decide (x8 - x7 = v4)) = true then some (.rt none) else some (.nx ())
theorem n_grows_by_liiii_b1 (p_values : (List Int)) (p_period : Int) (p_gain : Int) (p_other : Int) (v4 : Int) (v1 : Int) (i6 : Int) {a : Stp ((Option Int)) (Unit)} (hN : N_grows_by_liiii_b1 p_values p_period p_gain p_other v4 i6 = some a) (j : Nat → Slot) : ∃ S1, (gNm 6) (eI i6) [.dat ((eL eI) p_values), .dat (eI p_period), .dat (eI p_gain), .dat (eI p_other), .dat (eI v1), .dat (eI v4), (j 6), (j 7), (j 8)] = .ok () S1 ∧ LB (fun (s : Unit) (jt : Nat → Slot) => [.dat ((eL eI) p_values), .dat (eI p_period), .dat (eI p_gain), .dat (eI p_other), .dat (eI v1), .dat (eI v4), (jt 6), (jt 7), (jt 8)]) (RTo 0 (res_grows_by_liiii)) a ((mSeq (mPar 7 8 (mCons (mCallF F_value_at 4 0 (fun as bs => [as.getD 0 (.dat .non), as.getD 1 (.dat .non), as.getD 2 (.dat .non), as.getD 3 (.dat .non)]) (vDat (mVar 0) (vDat (mVar 1) (vDat (mVar 2) (vDat (mVar 6) (vNil))))) vNil) (mCons (mCallF F_value_at 4 0 (fun as bs => [as.getD 0 (.dat .non), as.getD 1 (.dat .non), as.getD 2 (.dat .non), as.getD 3 (.dat .non)]) (vDat (mVar 0) (vDat (mVar 1) (vDat (mVar 2) (vDat (m2 addD (mVar 6) (mVar 3)) (vNil))))) vNil) (mNil))))
    (mIfS (cTruth (m2 neD (m2 subD (mVar 8) (mVar 7)) (mVar 5))) (mRet (mC .non)) (mNext))) S1) := by
  unfold N_grows_by_liiii_b1 at hN
  refine ⟨[.dat ((eL eI) p_values), .dat (eI p_period), .dat (eI p_gain), .dat (eI p_other), .dat (eI v1), .dat (eI v4), .dat (eI i6), (j 7), (j 8)], rfl, ?_⟩
  refine s_last ?_
  refine s_assoc ?_
  obtain ⟨x7, hx7, hN⟩ := bind_some hN
  obtain ⟨x8, hx8, hN⟩ := bind_some hN
  refine s_par (S2 := [.dat ((eL eI) p_values), .dat (eI p_period), .dat (eI p_gain), .dat (eI p_other), .dat (eI v1), .dat (eI v4), .dat (eI i6), .dat (eI x7), .dat (eI x8)]) (ma_eq2 (x_cons (x_callF (fs := [.dat ((eL eI) p_values), .dat (eI p_period), .dat (eI p_gain), .dat (eI i6)]) (is := []) (outs := []) (S3 := [.dat ((eL eI) p_values), .dat (eI p_period), .dat (eI p_gain), .dat (eI p_other), .dat (eI v1), .dat (eI v4), .dat (eI i6), (j 7), (j 8)]) (v_dat (x_var rfl) (v_dat (x_var rfl) (v_dat (x_var rfl) (v_dat (x_var rfl) v_nil)))) v_nil ⟨rfl, rfl⟩ rfl rfl (n_value_at_liiii hx7) rfl) (x_cons (x_callF (fs := [.dat ((eL eI) p_values), .dat (eI p_period), .dat (eI p_gain), .dat (eI (i6 + p_other))]) (is := []) (outs := []) (S3 := [.dat ((eL eI) p_values), .dat (eI p_period), .dat (eI p_gain), .dat (eI p_other), .dat (eI v1), .dat (eI v4), .dat (eI i6), (j 7), (j 8)]) (v_dat (x_var rfl) (v_dat (x_var rfl) (v_dat (x_var rfl) (v_dat (x_2 (x_var rfl) (x_var rfl) rfl) v_nil)))) v_nil ⟨rfl, rfl⟩ rfl rfl (n_value_at_liiii hx8) rfl) x_nil)) rfl rfl) rfl ?_
  rcases ite_some hN with ⟨c9, hN⟩ | ⟨c9, hN⟩
  · refine s_ifT (t_truth (x_2 (x_2 (x_var rfl) (x_var rfl) rfl) (x_var rfl) rfl)) c9 ?_
    refine s_ret x_C ?_
    obtain rfl := Option.some.inj hN
    exact rto_of rfl
  · refine s_ifF (t_truth (x_2 (x_2 (x_var rfl) (x_var rfl) rfl) (x_var rfl) rfl)) c9 ?_
    refine s_next ?_
    obtain rfl := Option.some.inj hN
    exact lb_nx rfl
def N_grows_by_liiii (p_values : (List Int)) (p_period : Int) (p_gain : Int) (p_other : Int) : Option ((Option Int)) :=
  (some (((p_values.length : Int)) + 1)).bind fun v1 => (N_value_at_liiii p_values p_period p_gain (v1 + p_other)).bind fun x2 => (N_value_at_liiii p_values p_period p_gain v1).bind fun x3 => (some (x2 - x3)).bind fun v4 => (range2N v1 (v1 + 12)).bind fun x5 => thenL (ρ := (Option Int)) id (forL (fun (x10 : Int) (s11 : Unit) => N_grows_by_liiii_b1 p_values p_period p_gain p_other v4 x10) x5 ()) fun s12 => some (some v4)
theorem n_grows_by_liiii {p_values : (List Int)} {p_period : Int} {p_gain : Int} {p_other : Int} {a : (Option Int)} (hN : N_grows_by_liiii p_values p_period p_gain p_other = some a) : F_grows_by [.dat ((eL eI) p_values), .dat (eI p_period), .dat (eI p_gain), .dat (eI p_other)] = res_grows_by_liiii a := by
  unfold N_grows_by_liiii at hN
  refine f_run (k := 0) (S := [.dat ((eL eI) p_values), .dat (eI p_period), .dat (eI p_gain), .dat (eI p_other), .no, .no, .no, .no, .no]) rfl rfl rfl ?_
  unfold m_grows_by
  refine s_last ?_
  refine s_assoc ?_
  obtain ⟨v1, hv1, hN⟩ := bind_some hN
  refine s_asg (S2 := [.dat ((eL eI) p_values), .dat (eI p_period), .dat (eI p_gain), .dat (eI p_other), .dat (eI v1), .no, .no, .no, .no]) (x_eq (x_2 (x_call (x_cons (x_var rfl) x_nil) (q_len (f := eI))) x_C rfl) (congrArg eI (Option.some.inj hv1))) rfl ?_
  refine s_assoc ?_
  obtain ⟨x2, hx2, hN⟩ := bind_some hN
  obtain ⟨x3, hx3, hN⟩ := bind_some hN
  obtain ⟨v4, hv4, hN⟩ := bind_some hN
  refine s_asg (S2 := [.dat ((eL eI) p_values), .dat (eI p_period), .dat (eI p_gain), .dat (eI p_other), .dat (eI v1), .dat (eI v4), .no, .no, .no]) (x_eq (x_2 (x_callF (fs := [.dat ((eL eI) p_values), .dat (eI p_period), .dat (eI p_gain), .dat (eI (v1 + p_other))]) (is := []) (outs := []) (S3 := [.dat ((eL eI) p_values), .dat (eI p_period), .dat (eI p_gain), .dat (eI p_other), .dat (eI v1), .no, .no, .no, .no]) (v_dat (x_var rfl) (v_dat (x_var rfl) (v_dat (x_var rfl) (v_dat (x_2 (x_var rfl) (x_var rfl) rfl) v_nil)))) v_nil ⟨rfl, rfl⟩ rfl rfl (n_value_at_liiii hx2) rfl) (x_callF (fs := [.dat ((eL eI) p_values), .dat (eI p_period), .dat (eI p_gain), .dat (eI v1)]) (is := []) (outs := []) (S3 := [.dat ((eL eI) p_values), .dat (eI p_period), .dat (eI p_gain), .dat (eI p_other), .dat (eI v1), .no, .no, .no, .no]) (v_dat (x_var rfl) (v_dat (x_var rfl) (v_dat (x_var rfl) (v_dat (x_var rfl) v_nil)))) v_nil ⟨rfl, rfl⟩ rfl rfl (n_value_at_liiii hx3) rfl) rfl) (congrArg eI (Option.some.inj hv4))) rfl ?_
  refine s_assoc ?_
  obtain ⟨x5, hx5, hN⟩ := bind_some hN
  rcases thenL_some hN with ⟨s12, hs12, hN⟩ | ⟨v14, hs12, hN⟩
  · obtain ⟨j13, es12⟩ : ∃ jx, loopS (gNm 6) (mSeq (mPar 7 8 (mCons (mCallF F_value_at 4 0 (fun as bs => [as.getD 0 (.dat .non), as.getD 1 (.dat .non), as.getD 2 (.dat .non), as.getD 3 (.dat .non)]) (vDat (mVar 0) (vDat (mVar 1) (vDat (mVar 2) (vDat (mVar 6) (vNil))))) vNil) (mCons (mCallF F_value_at 4 0 (fun as bs => [as.getD 0 (.dat .non), as.getD 1 (.dat .non), as.getD 2 (.dat .non), as.getD 3 (.dat .non)]) (vDat (mVar 0) (vDat (mVar 1) (vDat (mVar 2) (vDat (m2 addD (mVar 6) (mVar 3)) (vNil))))) vNil) (mNil))))
    (mIfS (cTruth (m2 neD (m2 subD (mVar 8) (mVar 7)) (mVar 5))) (mRet (mC .non)) (mNext))) (x5.map eI) [.dat ((eL eI) p_values), .dat (eI p_period), .dat (eI p_gain), .dat (eI p_other), .dat (eI v1), .dat (eI v4), .no, .no, .no] = .ok .nx (((fun (s : Unit) (jt : Nat → Slot) => [.dat ((eL eI) p_values), .dat (eI p_period), .dat (eI p_gain), .dat (eI p_other), .dat (eI v1), .dat (eI v4), (jt 6), (jt 7), (jt 8)])) s12 jx) := le_nx (forL_ok (T := (fun (s : Unit) (jt : Nat → Slot) => [.dat ((eL eI) p_values), .dat (eI p_period), .dat (eI p_gain), .dat (eI p_other), .dat (eI v1), .dat (eI v4), (jt 6), (jt 7), (jt 8)])) (RT := (RTo 0 (res_grows_by_liiii))) (f := eI) rto (fun x10 s11 jw z h => n_grows_by_liiii_b1 p_values p_period p_gain p_other v4 v1 x10 h jw) x5 () (fun i => List.getD [.dat ((eL eI) p_values), .dat (eI p_period), .dat (eI p_gain), .dat (eI p_other), .dat (eI v1), .dat (eI v4), .no, .no, .no] i .no) _ hs12)
    refine s_for (ds := x5.map eI) (i_its (x_cons (x_var rfl) (x_cons (x_2 (x_var rfl) x_C rfl) x_nil)) (q_range2 hx5)) (s_run (S1 := [.dat ((eL eI) p_values), .dat (eI p_period), .dat (eI p_gain), .dat (eI p_other), .dat (eI v1), .dat (eI v4), (j13 6), (j13 7), (j13 8)]) es12 ?_)
    refine s_ret (x_var rfl) ?_
    obtain rfl := Option.some.inj hN
    exact rfl
  · have es12 : RTo 0 (res_grows_by_liiii) v14 (loopS (gNm 6) (mSeq (mPar 7 8 (mCons (mCallF F_value_at 4 0 (fun as bs => [as.getD 0 (.dat .non), as.getD 1 (.dat .non), as.getD 2 (.dat .non), as.getD 3 (.dat .non)]) (vDat (mVar 0) (vDat (mVar 1) (vDat (mVar 2) (vDat (mVar 6) (vNil))))) vNil) (mCons (mCallF F_value_at 4 0 (fun as bs => [as.getD 0 (.dat .non), as.getD 1 (.dat .non), as.getD 2 (.dat .non), as.getD 3 (.dat .non)]) (vDat (mVar 0) (vDat (mVar 1) (vDat (mVar 2) (vDat (m2 addD (mVar 6) (mVar 3)) (vNil))))) vNil) (mNil))))
    (mIfS (cTruth (m2 neD (m2 subD (mVar 8) (mVar 7)) (mVar 5))) (mRet (mC .non)) (mNext))) (x5.map eI) [.dat ((eL eI) p_values), .dat (eI p_period), .dat (eI p_gain), .dat (eI p_other), .dat (eI v1), .dat (eI v4), .no, .no, .no]) := le_rt (forL_ok (T := (fun (s : Unit) (jt : Nat → Slot) => [.dat ((eL eI) p_values), .dat (eI p_period), .dat (eI p_gain), .dat (eI p_other), .dat (eI v1), .dat (eI v4), (jt 6), (jt 7), (jt 8)])) (RT := (RTo 0 (res_grows_by_liiii))) (f := eI) rto (fun x10 s11 jw z h => n_grows_by_liiii_b1 p_values p_period p_gain p_other v4 v1 x10 h jw) x5 () (fun i => List.getD [.dat ((eL eI) p_values), .dat (eI p_period), .dat (eI p_gain), .dat (eI p_other), .dat (eI v1), .dat (eI v4), .no, .no, .no] i .no) _ hs12)
    subst hN
    exact s_for (ds := x5.map eI) (i_its (x_cons (x_var rfl) (x_cons (x_2 (x_var rfl) x_C rfl) x_nil)) (q_range2 hx5)) (s_rto es12 es12.2)
def res_form_of_liii (a : ((List Int) × Int × Int)) : RF := .ok ((e3 (eL eI) eI eI) a) []
def N_form_of_liii_b1t (x4 : Int) (o6 : Int) (c11 : (List Int)) : Option Bool :=
  (if (decide (x4 < ((c11.length : Int)))) = true then (ixN? c11 (-1)).bind fun x12 => (ixN? c11 ((-1) - x4)).bind fun x13 => some (decide (x12 = x13 + o6)) else some false).bind fun x14 => some x14
theorem n_form_of_liii_b1t (x4 : Int) (o6 : Int) (p_values : (List Int)) (p_period : Int) (p_gain : Int) (c11 : (List Int)) {a : Bool} (hN : N_form_of_liii_b1t x4 o6 c11 = some a) (j : Nat → Slot) : (cAnd (cTruth (m2 gtD (mCallP lenC 5) (mVar 3))) (cTruth (m2 eqD (mIxS 5 (m1 negD (mC (.int 1)))) (m2 addD (mIxS 5 (m2 subD (m1 negD (mC (.int 1))) (mVar 3))) (mVar 4))))) [.dat ((eL eI) p_values), .dat (eI p_period), .dat (eI p_gain), .dat (eI x4), .dat (eI o6), .loc (c11.map eI), .no, .no] = .ok a [.dat ((eL eI) p_values), .dat (eI p_period), .dat (eI p_gain), .dat (eI x4), .dat (eI o6), .loc (c11.map eI), .no, .no] := by
  unfold N_form_of_liii_b1t at hN
  obtain ⟨x14, hx14, hN⟩ := bind_some hN
  obtain rfl := Option.some.inj hN
  exact (t_andQ (val := fun (v : Bool) => v) (st := fun (v : Bool) => [.dat ((eL eI) p_values), .dat (eI p_period), .dat (eI p_gain), .dat (eI x4), .dat (eI o6), .loc (c11.map eI), .no, .no]) (v := x14) (v0 := false) (t_truth (x_2 (x_callP rfl rfl (q_len (f := eI)) rfl) (x_var rfl) rfl)) (fun v hv => by (obtain ⟨x12, hx12, hv⟩ := bind_some hv; obtain ⟨x13, hx13, hv⟩ := bind_some hv; obtain rfl := Option.some.inj hv; exact (t_truth (x_2 (x_ixS rfl (x_1 x_C rfl) rfl (q_ix (f := eI) hx12)) (x_2 (x_ixS rfl (x_2 (x_1 x_C rfl) (x_var rfl) rfl) rfl (q_ix (f := eI) hx13)) (x_var rfl) rfl) rfl)))) rfl rfl hx14)
def N_form_of_liii_b1 (c11 : (List Int)) : Option ((List Int)) :=
  (popN c11).bind fun v15 => some v15
theorem n_form_of_liii_b1 (p_values : (List Int)) (p_period : Int) (p_gain : Int) (x4 : Int) (o6 : Int) (c11 : (List Int)) {a : (List Int)} (hN : N_form_of_liii_b1 c11 = some a) (j : Nat → Slot) : LN (fun (s : (List Int)) (jt : Nat → Slot) => [.dat ((eL eI) p_values), .dat (eI p_period), .dat (eI p_gain), .dat (eI x4), .dat (eI o6), .loc (s.map eI), .no, .no]) a ((mPop 5) [.dat ((eL eI) p_values), .dat (eI p_period), .dat (eI p_gain), .dat (eI x4), .dat (eI o6), .loc (c11.map eI), .no, .no]) := by
  unfold N_form_of_liii_b1 at hN
  refine s_last ?_
  obtain ⟨v15, hv15, hN⟩ := bind_some hN
  refine s_popL' (S2 := [.dat ((eL eI) p_values), .dat (eI p_period), .dat (eI p_gain), .dat (eI x4), .dat (eI o6), .loc (v15.map eI), .no, .no]) rfl (q_pop (f := eI) hv15) rfl ?_
  obtain rfl := Option.some.inj hN
  exact ln_nx rfl
def N_form_of_liii (p_values : (List Int)) (p_period : Int) (p_gain : Int) : Option (((List Int) × Int × Int)) :=
  (capO (lcO (fun y1 => (N_grows_by_liiii p_values p_period p_gain y1).bind fun x2 => if (x2.isSome) = true then some (some y1) else some none) ([1, 2, 3, 4, 6, 12]))).bind fun x3 => (ixN? x3 0).bind fun x4 => (N_grows_by_liiii p_values p_period p_gain x4).bind fun x5 => (x5).bind fun o6 => (range2N 1 ((((p_values.length : Int)) + 12) + 1)).bind fun x7 => (capO (mapO (fun y8 => (N_value_at_liiii p_values p_period p_gain y8).bind fun x9 => some x9) x7)).bind fun x10 => (whileO (fun (s16 : (List Int)) => N_form_of_liii_b1t x4 o6 s16) (fun (s16 : (List Int)) => N_form_of_liii_b1 s16) x10).bind fun s17 => some ((s17, x4, o6))
theorem n_form_of_liii {p_values : (List Int)} {p_period : Int} {p_gain : Int} {a : ((List Int) × Int × Int)} (hN : N_form_of_liii p_values p_period p_gain = some a) : F_form_of [.dat ((eL eI) p_values), .dat (eI p_period), .dat (eI p_gain)] = res_form_of_liii a := by
  unfold N_form_of_liii at hN
  refine f_run (k := 0) (S := [.dat ((eL eI) p_values), .dat (eI p_period), .dat (eI p_gain), .no, .no, .no, .no, .no]) rfl rfl rfl ?_
  unfold m_form_of
  refine s_last ?_
  refine s_assoc ?_
  obtain ⟨x3, hx3, hN⟩ := bind_some hN
  obtain ⟨x4, hx4, hN⟩ := bind_some hN
  refine s_asg (S2 := [.dat ((eL eI) p_values), .dat (eI p_period), .dat (eI p_gain), .dat (eI x4), .no, .no, .no, .no]) (x_2 (x_lc (lc_O (f := eI) (fo := eI) (nb := fun y1 => (N_grows_by_liiii p_values p_period p_gain y1).bind fun x2 => if (x2.isSome) = true then some (some y1) else some none) (S0 := [.dat ((eL eI) p_values), .dat (eI p_period), .dat (eI p_gain), .no, .no, .no, .no, .no]) (i_items x_C rfl) rfl (fun y1 p hp => by (obtain ⟨x2, hx2, hp⟩ := bind_some hp; rcases ite_some hp with ⟨hc, hp⟩ | ⟨hc, hp⟩; (obtain rfl := Option.some.inj hp; exact ⟨[.dat ((eL eI) p_values), .dat (eI p_period), .dat (eI p_gain), .no, .no, .no, .no, .dat (eI y1)], rfl, _, _, ((t_truth (x_2 (x_callF (fs := [.dat ((eL eI) p_values), .dat (eI p_period), .dat (eI p_gain), .dat (eI y1)]) (is := []) (outs := []) (S3 := [.dat ((eL eI) p_values), .dat (eI p_period), .dat (eI p_gain), .no, .no, .no, .no, .dat (eI y1)]) (v_dat (x_var rfl) (v_dat (x_var rfl) (v_dat (x_var rfl) (v_dat (x_var rfl) v_nil)))) v_nil ⟨rfl, rfl⟩ rfl rfl (n_grows_by_liiii hx2) rfl) x_C (q_notN (f := eI) (fun _ => nofun))))).trans (by rw [hc]), (x_var rfl), rfl⟩); (obtain rfl := Option.some.inj hp; exact ⟨[.dat ((eL eI) p_values), .dat (eI p_period), .dat (eI p_gain), .no, .no, .no, .no, .dat (eI y1)], rfl, _, ((t_truth (x_2 (x_callF (fs := [.dat ((eL eI) p_values), .dat (eI p_period), .dat (eI p_gain), .dat (eI y1)]) (is := []) (outs := []) (S3 := [.dat ((eL eI) p_values), .dat (eI p_period), .dat (eI p_gain), .no, .no, .no, .no, .dat (eI y1)]) (v_dat (x_var rfl) (v_dat (x_var rfl) (v_dat (x_var rfl) (v_dat (x_var rfl) v_nil)))) v_nil ⟨rfl, rfl⟩ rfl rfl (n_grows_by_liiii hx2) rfl) x_C (q_notN (f := eI) (fun _ => nofun))))).trans (by rw [hc]), rfl⟩))) hx3)) x_C (q_ix (f := eI) hx4)) rfl ?_
  refine s_assoc ?_
  obtain ⟨x5, hx5, hN⟩ := bind_some hN
  obtain ⟨o6, ho6, hN⟩ := bind_some hN
  refine s_asg (S2 := [.dat ((eL eI) p_values), .dat (eI p_period), .dat (eI p_gain), .dat (eI x4), .dat (eI o6), .no, .no, .no]) (x_eq (x_callF (fs := [.dat ((eL eI) p_values), .dat (eI p_period), .dat (eI p_gain), .dat (eI x4)]) (is := []) (outs := []) (S3 := [.dat ((eL eI) p_values), .dat (eI p_period), .dat (eI p_gain), .dat (eI x4), .no, .no, .no, .no]) (v_dat (x_var rfl) (v_dat (x_var rfl) (v_dat (x_var rfl) (v_dat (x_var rfl) v_nil)))) v_nil ⟨rfl, rfl⟩ rfl rfl (n_grows_by_liiii hx5) rfl) (congrArg (eO eI) ho6)) rfl ?_
  refine s_assoc ?_
  obtain ⟨x7, hx7, hN⟩ := bind_some hN
  obtain ⟨x10, hx10, hN⟩ := bind_some hN
  refine s_setF (S2 := [.dat ((eL eI) p_values), .dat (eI p_period), .dat (eI p_gain), .dat (eI x4), .dat (eI o6), .loc (x10.map eI), .no, .no]) (lc_mapO (f := eI) (fo := eI) (nb := fun y8 => (N_value_at_liiii p_values p_period p_gain y8).bind fun x9 => some x9) (S0 := [.dat ((eL eI) p_values), .dat (eI p_period), .dat (eI p_gain), .dat (eI x4), .dat (eI o6), .no, .no, .no]) (i_its (x_cons x_C (x_cons (x_2 (x_2 (x_call (x_cons (x_var rfl) x_nil) (q_len (f := eI))) x_C rfl) x_C rfl) x_nil)) (q_range2 hx7)) rfl (fun y8 p hp => by (obtain ⟨x9, hx9, hp⟩ := bind_some hp; obtain rfl := Option.some.inj hp; exact ⟨[.dat ((eL eI) p_values), .dat (eI p_period), .dat (eI p_gain), .dat (eI x4), .dat (eI o6), .no, .dat (eI y8), .no], _, rfl, (x_callF (fs := [.dat ((eL eI) p_values), .dat (eI p_period), .dat (eI p_gain), .dat (eI y8)]) (is := []) (outs := []) (S3 := [.dat ((eL eI) p_values), .dat (eI p_period), .dat (eI p_gain), .dat (eI x4), .dat (eI o6), .no, .dat (eI y8), .no]) (v_dat (x_var rfl) (v_dat (x_var rfl) (v_dat (x_var rfl) (v_dat (x_var rfl) v_nil)))) v_nil ⟨rfl, rfl⟩ rfl rfl (n_value_at_liiii hx9) rfl), rfl⟩)) hx10) rfl ?_
  refine s_assoc ?_
  obtain ⟨s17, hs17, hN⟩ := bind_some hN
  obtain ⟨j18, es17⟩ : ∃ jx, mWhile (cAnd (cTruth (m2 gtD (mCallP lenC 5) (mVar 3))) (cTruth (m2 eqD (mIxS 5 (m1 negD (mC (.int 1)))) (m2 addD (mIxS 5 (m2 subD (m1 negD (mC (.int 1))) (mVar 3))) (mVar 4))))) (mPop 5) [.dat ((eL eI) p_values), .dat (eI p_period), .dat (eI p_gain), .dat (eI x4), .dat (eI o6), .loc (x10.map eI), .no, .no] = .ok .nx (((fun (s : (List Int)) (jt : Nat → Slot) => [.dat ((eL eI) p_values), .dat (eI p_period), .dat (eI p_gain), .dat (eI x4), .dat (eI o6), .loc (s.map eI), .no, .no])) s17 jx) := whileO_ok (T := (fun (s : (List Int)) (jt : Nat → Slot) => [.dat ((eL eI) p_values), .dat (eI p_period), .dat (eI p_gain), .dat (eI x4), .dat (eI o6), .loc (s.map eI), .no, .no])) (fun s16 jw z h => n_form_of_liii_b1t x4 o6 p_values p_period p_gain s16 h jw) (fun s16 jw z h => n_form_of_liii_b1 p_values p_period p_gain x4 o6 s16 h jw) x10 (fun i => List.getD [.dat ((eL eI) p_values), .dat (eI p_period), .dat (eI p_gain), .dat (eI x4), .dat (eI o6), .loc (x10.map eI), .no, .no] i .no) _ hs17
  refine s_run (S1 := [.dat ((eL eI) p_values), .dat (eI p_period), .dat (eI p_gain), .dat (eI x4), .dat (eI o6), .loc (s17.map eI), .no, .no]) es17 ?_
  refine s_ret (x_tup (x_cons (x_varL (S1 := [.dat ((eL eI) p_values), .dat (eI p_period), .dat (eI p_gain), .dat (eI x4), .dat (eI o6), .dat ((eL eI) s17), .no, .no]) rfl rfl) (x_cons (x_var rfl) (x_cons (x_var rfl) x_nil))) (Nat.le_of_ble_eq_true rfl)) ?_
  obtain rfl := Option.some.inj hN
  exact rfl
def res_Curve_init0_ddd (a : ((List Int) × Int × Int)) : RF := .ok .non [.obj "Curve" (cCurveF a)]
def N_Curve_init0_ddd (p_values : Dat) (p_period : Dat) (p_gain : Dat) : Option (((List Int) × Int × Int)) :=
  (N_check_values_d p_values).bind fun x1 => (N_check_growth_ddd p_values p_period p_gain).bind fun x2 => (decOf (eL eI) p_values).bind fun k3 => (decOf eI p_period).bind fun k4 => (decOf eI p_gain).bind fun k5 => (N_form_of_liii k3 k4 k5).bind fun x6 => some ((x6.1, x6.2.1, x6.2.2))
theorem n_Curve_init0_ddd {p_values : Dat} {p_period : Dat} {p_gain : Dat} {a : ((List Int) × Int × Int)} (hN : N_Curve_init0_ddd p_values p_period p_gain = some a) : F_Curve_init0 [.own (.obj "Curve" []), .dat (eD p_values), .dat (eD p_period), .dat (eD p_gain)] = res_Curve_init0_ddd a := by
  unfold N_Curve_init0_ddd at hN
  refine f_run (k := 1) (S := [.own 0 (.obj "Curve" []), .dat (eD p_values), .dat (eD p_period), .dat (eD p_gain)]) rfl rfl rfl ?_
  unfold m_Curve_init0
  refine s_last ?_
  refine s_assoc ?_
  obtain ⟨x1, hx1, hN⟩ := bind_some hN
  refine s_drop (S1 := [.own 0 (.obj "Curve" []), .dat (eD p_values), .dat (eD p_period), .dat (eD p_gain)]) (x_callF (fs := [.dat (eD p_values)]) (is := []) (outs := []) (S3 := [.own 0 (.obj "Curve" []), .dat (eD p_values), .dat (eD p_period), .dat (eD p_gain)]) (v_dat (x_var rfl) v_nil) v_nil ⟨rfl, rfl⟩ rfl rfl (n_check_values_d hx1) rfl) ?_
  refine s_assoc ?_
  obtain ⟨x2, hx2, hN⟩ := bind_some hN
  refine s_drop (S1 := [.own 0 (.obj "Curve" []), .dat (eD p_values), .dat (eD p_period), .dat (eD p_gain)]) (x_callF (fs := [.dat (eD p_values), .dat (eD p_period), .dat (eD p_gain)]) (is := []) (outs := []) (S3 := [.own 0 (.obj "Curve" []), .dat (eD p_values), .dat (eD p_period), .dat (eD p_gain)]) (v_dat (x_var rfl) (v_dat (x_var rfl) (v_dat (x_var rfl) v_nil))) v_nil ⟨rfl, rfl⟩ rfl rfl (n_check_growth_ddd hx2) rfl) ?_
  obtain ⟨k3, hk3, hN⟩ := bind_some hN
  obtain ⟨k4, hk4, hN⟩ := bind_some hN
  obtain ⟨k5, hk5, hN⟩ := bind_some hN
  obtain ⟨x6, hx6, hN⟩ := bind_some hN
  refine s_asgG (S2 := [.own 0 (.obj "Curve" [("value_list", (eL eI) x6.1), ("own_period", eI x6.2.1), ("own_gain", eI x6.2.2)]), .dat (eD p_values), .dat (eD p_period), .dat (eD p_gain)]) (x_callF (fs := [.dat ((eL eI) k3), .dat (eI k4), .dat (eI k5)]) (is := []) (outs := []) (S3 := [.own 0 (.obj "Curve" []), .dat (eD p_values), .dat (eD p_period), .dat (eD p_gain)]) (v_dat (x_eq (x_var rfl) (cast_eq hk3)) (v_dat (x_eq (x_var rfl) (cast_eq hk4)) (v_dat (x_eq (x_var rfl) (cast_eq hk5)) v_nil))) v_nil ⟨rfl, rfl⟩ rfl rfl (n_form_of_liii hx6) rfl) (g_tp rfl (g_cs (g_fld' (S1 := [.own 0 (.obj "Curve" [("value_list", (eL eI) x6.1)]), .dat (eD p_values), .dat (eD p_period), .dat (eD p_gain)]) rfl ⟨by decide, by simp⟩ pt_Curve_0 rfl) (g_cs (g_fld' (S1 := [.own 0 (.obj "Curve" [("value_list", (eL eI) x6.1), ("own_period", eI x6.2.1)]), .dat (eD p_values), .dat (eD p_period), .dat (eD p_gain)]) rfl ⟨by decide, by simp⟩ pt_Curve_1 rfl) (g_cs (g_fld' (S1 := [.own 0 (.obj "Curve" [("value_list", (eL eI) x6.1), ("own_period", eI x6.2.1), ("own_gain", eI x6.2.2)]), .dat (eD p_values), .dat (eD p_period), .dat (eD p_gain)]) rfl ⟨by decide, by simp⟩ pt_Curve_2 rfl) g_nl)))) ?_
  obtain rfl := Option.some.inj hN
  exact rfl
def N_check_values_d_x_b1 (p_values : Dat) (i6 : Int) (i7 : Dat) : Option (Stp (Exc) (Unit)) :=
  (N_is_count_di i7 2000).bind fun x8 => (if (!x8) = true then some true else (if (decide (0 < i6)) = true then (ixD p_values (eI (i6 - 1))).bind fun x9 => (cmpB ltD (eD i7) (eD x9)).bind fun x10 => some x10 else some false).bind fun x11 => some x11).bind fun x12 => if x12 = true then (N_xi_InvalidCurve (eS (("value" : Str))) (eI i6)).bind fun x13 => some (.rt ("InvalidCurve", x13)) else some (.nx ())
theorem n_check_values_d_x_b1 (p_values : Dat) (i6 : Int) (i7 : Dat) {a : Stp (Exc) (Unit)} (hN : N_check_values_d_x_b1 p_values i6 i7 = some a) (j : Nat → Slot) : ∃ S1, (gTpN 2 (gCs (gNm 1) (gCs (gNm 2) (gNl)))) ((e2 eI eD) (i6, i7)) [.dat (eD p_values), (j 1), (j 2)] = .ok () S1 ∧ LB (fun (s : Unit) (jt : Nat → Slot) => [.dat (eD p_values), (jt 1), (jt 2)]) (RTx 0) a ((mIfS (cOr (cNot (cTruth (mCallF F_is_count 2 0 (fun as bs => [as.getD 0 (.dat .non), as.getD 1 (.dat .non)]) (vDat (mVar 2) (vDat (mC (.int 2000)) (vNil))) vNil))) (cAnd (cTruth (m2 gtD (mVar 1) (mC (.int 0)))) (cTruth (m2 ltD (mVar 2) (m2 ixD (mVar 0) (m2 subD (mVar 1) (mC (.int 1)))))))) (mRaise "InvalidCurve" X_InvalidCurve_init0 2 (vDat (mC (.str "value")) (vDat (mVar 1) (vNil)))) (mNext)) S1) := by
  unfold N_check_values_d_x_b1 at hN
  refine ⟨[.dat (eD p_values), .dat (eI i6), .dat (eD i7)], rfl, ?_⟩
  refine s_last ?_
  obtain ⟨x8, hx8, hN⟩ := bind_some hN
  obtain ⟨x12, hx12, hN⟩ := bind_some hN
  rcases ite_some hN with ⟨c14, hN⟩ | ⟨c14, hN⟩
  · refine s_ifT (t_orQ (val := fun (v : Bool) => v) (st := fun (v : Bool) => [.dat (eD p_values), .dat (eI i6), .dat (eD i7)]) (v := x12) (v0 := true) (t_not (t_truth (x_callF (fs := [.dat (eD i7), .dat (eI 2000)]) (is := []) (outs := []) (S3 := [.dat (eD p_values), .dat (eI i6), .dat (eD i7)]) (v_dat (x_var rfl) (v_dat x_C v_nil)) v_nil ⟨rfl, rfl⟩ rfl rfl (n_is_count_di hx8) rfl))) (fun v hv => by (obtain ⟨x11, hx11, hv⟩ := bind_some hv; obtain rfl := Option.some.inj hv; exact (t_andQ (val := fun (v : Bool) => v) (st := fun (v : Bool) => [.dat (eD p_values), .dat (eI i6), .dat (eD i7)]) (v := x11) (v0 := false) (t_truth (x_2 (x_var rfl) x_C rfl)) (fun v hv => by (obtain ⟨x9, hx9, hv⟩ := bind_some hv; obtain ⟨x10, hx10, hv⟩ := bind_some hv; obtain rfl := Option.some.inj hv; exact (t_truth (x_2 (x_var rfl) (x_2 (x_var rfl) (x_2 (x_var rfl) x_C rfl) hx9) (q_cmpB hx10))))) rfl rfl hx11))) rfl rfl hx12) c14 ?_
    obtain ⟨x13, hx13, hN⟩ := bind_some hN
    obtain rfl := Option.some.inj hN
    refine s_raise (ds := [(eS (("value" : Str))), (eI i6)]) (v_dat x_C (v_dat (x_var rfl) v_nil)) rfl rfl (n_xi_InvalidCurve hx13) ?_
    exact rtx_of ⟨_, rfl, rfl⟩
  · refine s_ifF (t_orQ (val := fun (v : Bool) => v) (st := fun (v : Bool) => [.dat (eD p_values), .dat (eI i6), .dat (eD i7)]) (v := x12) (v0 := true) (t_not (t_truth (x_callF (fs := [.dat (eD i7), .dat (eI 2000)]) (is := []) (outs := []) (S3 := [.dat (eD p_values), .dat (eI i6), .dat (eD i7)]) (v_dat (x_var rfl) (v_dat x_C v_nil)) v_nil ⟨rfl, rfl⟩ rfl rfl (n_is_count_di hx8) rfl))) (fun v hv => by (obtain ⟨x11, hx11, hv⟩ := bind_some hv; obtain rfl := Option.some.inj hv; exact (t_andQ (val := fun (v : Bool) => v) (st := fun (v : Bool) => [.dat (eD p_values), .dat (eI i6), .dat (eD i7)]) (v := x11) (v0 := false) (t_truth (x_2 (x_var rfl) x_C rfl)) (fun v hv => by (obtain ⟨x9, hx9, hv⟩ := bind_some hv; obtain ⟨x10, hx10, hv⟩ := bind_some hv; obtain rfl := Option.some.inj hv; exact (t_truth (x_2 (x_var rfl) (x_2 (x_var rfl) (x_2 (x_var rfl) x_C rfl) hx9) (q_cmpB hx10))))) rfl rfl hx11))) rfl rfl hx12) c14 ?_
    refine s_next ?_
    obtain rfl := Option.some.inj hN
    exact lb_nx rfl
def N_check_values_d_x (p_values : Dat) : Option Exc :=
  (isiB [("NoneType", false), ("bool", false), ("int", false), ("str", false), ("list", true), ("tuple", false), ("dict", false)] [("Curve", false)] p_values).bind fun x1 => if (!x1) = true then (N_xi_InvalidCurve (eS (("list" : Str))) (eI 0)).bind fun x2 => some (("InvalidCurve", x2)) else (lenB p_values).bind fun x3 => if (!(decide (1 ≤ x3) && decide (x3 ≤ 24))) = true then (N_xi_InvalidCurve (eS (("count" : Str))) (eI 0)).bind fun x4 => some (("InvalidCurve", x4)) else (decOf (eL eD) p_values).bind fun k5 => thenL (ρ := Exc) id (forL (fun (x15 : (Int × Dat)) (s16 : Unit) => N_check_values_d_x_b1 p_values x15.1 x15.2) (enumN 0 k5) ()) fun s17 => none
theorem n_check_values_d_x {p_values : Dat} {a : Exc} (hN : N_check_values_d_x p_values = some a) : ∃ o, F_check_values [.dat (eD p_values)] = .exc a.1 a.2 o ∧ o.length = 0 := by
  unfold N_check_values_d_x at hN
  refine f_runX (k := 0) (S := [.dat (eD p_values), .no, .no]) rfl rfl rfl ?_
  unfold m_check_values
  refine s_last ?_
  refine s_assoc ?_
  obtain ⟨x1, hx1, hN⟩ := bind_some hN
  rcases ite_some hN with ⟨c21, hN⟩ | ⟨c21, hN⟩
  · refine s_ifT (t_not (t_truth (x_1 (x_var rfl) (q_isiB hx1)))) c21 ?_
    obtain ⟨x2, hx2, hN⟩ := bind_some hN
    obtain rfl := Option.some.inj hN
    refine s_raise (ds := [(eS (("list" : Str))), (eI 0)]) (v_dat x_C (v_dat x_C v_nil)) rfl rfl (n_xi_InvalidCurve hx2) ?_
    exact ⟨_, rfl, rfl⟩
  · refine s_ifF (t_not (t_truth (x_1 (x_var rfl) (q_isiB hx1)))) c21 ?_
    refine s_next ?_
    refine s_assoc ?_
    obtain ⟨x3, hx3, hN⟩ := bind_some hN
    rcases ite_some hN with ⟨c20, hN⟩ | ⟨c20, hN⟩
    · refine s_ifT (t_not (t_truth (x_chain x_C (x_call (x_cons (x_var rfl) x_nil) (q_lenB hx3)) x_C rfl rfl))) c20 ?_
      obtain ⟨x4, hx4, hN⟩ := bind_some hN
      obtain rfl := Option.some.inj hN
      refine s_raise (ds := [(eS (("count" : Str))), (eI 0)]) (v_dat x_C (v_dat x_C v_nil)) rfl rfl (n_xi_InvalidCurve hx4) ?_
      exact ⟨_, rfl, rfl⟩
    · refine s_ifF (t_not (t_truth (x_chain x_C (x_call (x_cons (x_var rfl) x_nil) (q_lenB hx3)) x_C rfl rfl))) c20 ?_
      refine s_next ?_
      obtain ⟨k5, hk5, hN⟩ := bind_some hN
      rcases thenL_some hN with ⟨s17, hs17, hN⟩ | ⟨v19, hs17, hN⟩
      · obtain ⟨j18, es17⟩ : ∃ jx, loopS (gTpN 2 (gCs (gNm 1) (gCs (gNm 2) (gNl)))) (mIfS (cOr (cNot (cTruth (mCallF F_is_count 2 0 (fun as bs => [as.getD 0 (.dat .non), as.getD 1 (.dat .non)]) (vDat (mVar 2) (vDat (mC (.int 2000)) (vNil))) vNil))) (cAnd (cTruth (m2 gtD (mVar 1) (mC (.int 0)))) (cTruth (m2 ltD (mVar 2) (m2 ixD (mVar 0) (m2 subD (mVar 1) (mC (.int 1)))))))) (mRaise "InvalidCurve" X_InvalidCurve_init0 2 (vDat (mC (.str "value")) (vDat (mVar 1) (vNil)))) (mNext)) ((enumN 0 k5).map (e2 eI eD)) [.dat (eD p_values), .no, .no] = .ok .nx (((fun (s : Unit) (jt : Nat → Slot) => [.dat (eD p_values), (jt 1), (jt 2)])) s17 jx) := le_nx (forLX_ok (T := (fun (s : Unit) (jt : Nat → Slot) => [.dat (eD p_values), (jt 1), (jt 2)])) (RT := (RTx 0)) (f := (e2 eI eD)) rtx (fun x15 s16 jw z h => n_check_values_d_x_b1 p_values x15.1 x15.2 h jw) (enumN 0 k5) () (fun i => List.getD [.dat (eD p_values), .no, .no] i .no) _ hs17)
        refine s_for (ds := (enumN 0 k5).map (e2 eI eD)) (i_its (x_cons (x_eq (x_var rfl) (cast_eq hk5)) x_nil) (q_enum (f := eD))) (s_run (S1 := [.dat (eD p_values), (j18 1), (j18 2)]) es17 ?_)
        cases hN
      · have es17 : RTx 0 v19 (loopS (gTpN 2 (gCs (gNm 1) (gCs (gNm 2) (gNl)))) (mIfS (cOr (cNot (cTruth (mCallF F_is_count 2 0 (fun as bs => [as.getD 0 (.dat .non), as.getD 1 (.dat .non)]) (vDat (mVar 2) (vDat (mC (.int 2000)) (vNil))) vNil))) (cAnd (cTruth (m2 gtD (mVar 1) (mC (.int 0)))) (cTruth (m2 ltD (mVar 2) (m2 ixD (mVar 0) (m2 subD (mVar 1) (mC (.int 1)))))))) (mRaise "InvalidCurve" X_InvalidCurve_init0 2 (vDat (mC (.str "value")) (vDat (mVar 1) (vNil)))) (mNext)) ((enumN 0 k5).map (e2 eI eD)) [.dat (eD p_values), .no, .no]) := le_rt (forLX_ok (T := (fun (s : Unit) (jt : Nat → Slot) => [.dat (eD p_values), (jt 1), (jt 2)])) (RT := (RTx 0)) (f := (e2 eI eD)) rtx (fun x15 s16 jw z h => n_check_values_d_x_b1 p_values x15.1 x15.2 h jw) (enumN 0 k5) () (fun i => List.getD [.dat (eD p_values), .no, .no] i .no) _ hs17)
        subst hN
        exact s_for (ds := (enumN 0 k5).map (e2 eI eD)) (i_its (x_cons (x_eq (x_var rfl) (cast_eq hk5)) x_nil) (q_enum (f := eD))) (s_rtx es17 es17.2)
def N_check_growth_ddd_x (p_values : Dat) (p_period : Dat) (p_gain : Dat) : Option Exc :=
  (N_is_integer_d p_period).bind fun x1 => (if (!x1) = true then some true else (inB (eD p_period) ((eT eI) ([1, 2, 3, 4, 6, 12]))).bind fun x2 => (if (!x2) = true then some true else (lenB p_values).bind fun x3 => (cmpB gtD (eD p_period) (eI x3)).bind fun x4 => some x4).bind fun x5 => some x5).bind fun x6 => if x6 = true then (N_xi_InvalidCurve (eS (("period" : Str))) (eI 0)).bind fun x7 => some (("InvalidCurve", x7)) else (N_is_count_di p_gain 2000).bind fun x8 => (if (!x8) = true then some true else (decOf (eL eI) p_values).bind fun k9 => (decOf eI p_period).bind fun k10 => (decOf eI p_gain).bind fun k11 => (lenB p_values).bind fun x12 => (N_value_at_liiii k9 k10 k11 (x12 + 1)).bind fun x13 => (ixD p_values (eI (-1))).bind fun x14 => (cmpB ltD (eI x13) (eD x14)).bind fun x15 => some x15).bind fun x16 => if x16 = true then (N_xi_InvalidCurve (eS (("gain" : Str))) (eI 0)).bind fun x17 => some (("InvalidCurve", x17)) else none
theorem n_check_growth_ddd_x {p_values : Dat} {p_period : Dat} {p_gain : Dat} {a : Exc} (hN : N_check_growth_ddd_x p_values p_period p_gain = some a) : ∃ o, F_check_growth [.dat (eD p_values), .dat (eD p_period), .dat (eD p_gain)] = .exc a.1 a.2 o ∧ o.length = 0 := by
  unfold N_check_growth_ddd_x at hN
  refine f_runX (k := 0) (S := [.dat (eD p_values), .dat (eD p_period), .dat (eD p_gain)]) rfl rfl rfl ?_
  unfold m_check_growth
  refine s_last ?_
  refine s_assoc ?_
  obtain ⟨x1, hx1, hN⟩ := bind_some hN
  obtain ⟨x6, hx6, hN⟩ := bind_some hN
  rcases ite_some hN with ⟨c19, hN⟩ | ⟨c19, hN⟩
  · refine s_ifT (t_orQ (val := fun (v : Bool) => v) (st := fun (v : Bool) => [.dat (eD p_values), .dat (eD p_period), .dat (eD p_gain)]) (v := x6) (v0 := true) (t_not (t_truth (x_callF (fs := [.dat (eD p_period)]) (is := []) (outs := []) (S3 := [.dat (eD p_values), .dat (eD p_period), .dat (eD p_gain)]) (v_dat (x_var rfl) v_nil) v_nil ⟨rfl, rfl⟩ rfl rfl (n_is_integer_d hx1) rfl))) (fun v hv => by (obtain ⟨x2, hx2, hv⟩ := bind_some hv; obtain ⟨x5, hx5, hv⟩ := bind_some hv; obtain rfl := Option.some.inj hv; exact (t_orQ (val := fun (v : Bool) => v) (st := fun (v : Bool) => [.dat (eD p_values), .dat (eD p_period), .dat (eD p_gain)]) (v := x5) (v0 := true) (t_truth (x_2 (x_var rfl) x_C (q_notInXF hx2))) (fun v hv => by (obtain ⟨x3, hx3, hv⟩ := bind_some hv; obtain ⟨x4, hx4, hv⟩ := bind_some hv; obtain rfl := Option.some.inj hv; exact (t_truth (x_2 (x_var rfl) (x_call (x_cons (x_var rfl) x_nil) (q_lenB hx3)) (q_cmpB hx4))))) rfl rfl hx5))) rfl rfl hx6) c19 ?_
    obtain ⟨x7, hx7, hN⟩ := bind_some hN
    obtain rfl := Option.some.inj hN
    refine s_raise (ds := [(eS (("period" : Str))), (eI 0)]) (v_dat x_C (v_dat x_C v_nil)) rfl rfl (n_xi_InvalidCurve hx7) ?_
    exact ⟨_, rfl, rfl⟩
  · refine s_ifF (t_orQ (val := fun (v : Bool) => v) (st := fun (v : Bool) => [.dat (eD p_values), .dat (eD p_period), .dat (eD p_gain)]) (v := x6) (v0 := true) (t_not (t_truth (x_callF (fs := [.dat (eD p_period)]) (is := []) (outs := []) (S3 := [.dat (eD p_values), .dat (eD p_period), .dat (eD p_gain)]) (v_dat (x_var rfl) v_nil) v_nil ⟨rfl, rfl⟩ rfl rfl (n_is_integer_d hx1) rfl))) (fun v hv => by (obtain ⟨x2, hx2, hv⟩ := bind_some hv; obtain ⟨x5, hx5, hv⟩ := bind_some hv; obtain rfl := Option.some.inj hv; exact (t_orQ (val := fun (v : Bool) => v) (st := fun (v : Bool) => [.dat (eD p_values), .dat (eD p_period), .dat (eD p_gain)]) (v := x5) (v0 := true) (t_truth (x_2 (x_var rfl) x_C (q_notInXF hx2))) (fun v hv => by (obtain ⟨x3, hx3, hv⟩ := bind_some hv; obtain ⟨x4, hx4, hv⟩ := bind_some hv; obtain rfl := Option.some.inj hv; exact (t_truth (x_2 (x_var rfl) (x_call (x_cons (x_var rfl) x_nil) (q_lenB hx3)) (q_cmpB hx4))))) rfl rfl hx5))) rfl rfl hx6) c19 ?_
    refine s_next ?_
    obtain ⟨x8, hx8, hN⟩ := bind_some hN
    obtain ⟨x16, hx16, hN⟩ := bind_some hN
    rcases ite_some hN with ⟨c18, hN⟩ | ⟨c18, hN⟩
    · refine s_ifT (t_orQ (val := fun (v : Bool) => v) (st := fun (v : Bool) => [.dat (eD p_values), .dat (eD p_period), .dat (eD p_gain)]) (v := x16) (v0 := true) (t_not (t_truth (x_callF (fs := [.dat (eD p_gain), .dat (eI 2000)]) (is := []) (outs := []) (S3 := [.dat (eD p_values), .dat (eD p_period), .dat (eD p_gain)]) (v_dat (x_var rfl) (v_dat x_C v_nil)) v_nil ⟨rfl, rfl⟩ rfl rfl (n_is_count_di hx8) rfl))) (fun v hv => by (obtain ⟨k9, hk9, hv⟩ := bind_some hv; obtain ⟨k10, hk10, hv⟩ := bind_some hv; obtain ⟨k11, hk11, hv⟩ := bind_some hv; obtain ⟨x12, hx12, hv⟩ := bind_some hv; obtain ⟨x13, hx13, hv⟩ := bind_some hv; obtain ⟨x14, hx14, hv⟩ := bind_some hv; obtain ⟨x15, hx15, hv⟩ := bind_some hv; obtain rfl := Option.some.inj hv; exact (t_truth (x_2 (x_callF (fs := [.dat ((eL eI) k9), .dat (eI k10), .dat (eI k11), .dat (eI (x12 + 1))]) (is := []) (outs := []) (S3 := [.dat (eD p_values), .dat (eD p_period), .dat (eD p_gain)]) (v_dat (x_eq (x_var rfl) (cast_eq hk9)) (v_dat (x_eq (x_var rfl) (cast_eq hk10)) (v_dat (x_eq (x_var rfl) (cast_eq hk11)) (v_dat (x_2 (x_call (x_cons (x_var rfl) x_nil) (q_lenB hx12)) x_C rfl) v_nil)))) v_nil ⟨rfl, rfl⟩ rfl rfl (n_value_at_liiii hx13) rfl) (x_2 (x_var rfl) (x_1 x_C rfl) hx14) (q_cmpB hx15))))) rfl rfl hx16) c18 ?_
      obtain ⟨x17, hx17, hN⟩ := bind_some hN
      obtain rfl := Option.some.inj hN
      refine s_raise (ds := [(eS (("gain" : Str))), (eI 0)]) (v_dat x_C (v_dat x_C v_nil)) rfl rfl (n_xi_InvalidCurve hx17) ?_
      exact ⟨_, rfl, rfl⟩
    · refine s_ifF (t_orQ (val := fun (v : Bool) => v) (st := fun (v : Bool) => [.dat (eD p_values), .dat (eD p_period), .dat (eD p_gain)]) (v := x16) (v0 := true) (t_not (t_truth (x_callF (fs := [.dat (eD p_gain), .dat (eI 2000)]) (is := []) (outs := []) (S3 := [.dat (eD p_values), .dat (eD p_period), .dat (eD p_gain)]) (v_dat (x_var rfl) (v_dat x_C v_nil)) v_nil ⟨rfl, rfl⟩ rfl rfl (n_is_count_di hx8) rfl))) (fun v hv => by (obtain ⟨k9, hk9, hv⟩ := bind_some hv; obtain ⟨k10, hk10, hv⟩ := bind_some hv; obtain ⟨k11, hk11, hv⟩ := bind_some hv; obtain ⟨x12, hx12, hv⟩ := bind_some hv; obtain ⟨x13, hx13, hv⟩ := bind_some hv; obtain ⟨x14, hx14, hv⟩ := bind_some hv; obtain ⟨x15, hx15, hv⟩ := bind_some hv; obtain rfl := Option.some.inj hv; exact (t_truth (x_2 (x_callF (fs := [.dat ((eL eI) k9), .dat (eI k10), .dat (eI k11), .dat (eI (x12 + 1))]) (is := []) (outs := []) (S3 := [.dat (eD p_values), .dat (eD p_period), .dat (eD p_gain)]) (v_dat (x_eq (x_var rfl) (cast_eq hk9)) (v_dat (x_eq (x_var rfl) (cast_eq hk10)) (v_dat (x_eq (x_var rfl) (cast_eq hk11)) (v_dat (x_2 (x_call (x_cons (x_var rfl) x_nil) (q_lenB hx12)) x_C rfl) v_nil)))) v_nil ⟨rfl, rfl⟩ rfl rfl (n_value_at_liiii hx13) rfl) (x_2 (x_var rfl) (x_1 x_C rfl) hx14) (q_cmpB hx15))))) rfl rfl hx16) c18 ?_
      refine s_next ?_
      cases hN
def N_Curve_init0_ddd_x (p_values : Dat) (p_period : Dat) (p_gain : Dat) : Option Exc :=
  orX id (N_check_values_d_x p_values) ((N_check_values_d p_values).bind fun x1 => orX id (N_check_growth_ddd_x p_values p_period p_gain) ((N_check_growth_ddd p_values p_period p_gain).bind fun x2 => none))
theorem n_Curve_init0_ddd_x {p_values : Dat} {p_period : Dat} {p_gain : Dat} {a : Exc} (hN : N_Curve_init0_ddd_x p_values p_period p_gain = some a) : ∃ o, F_Curve_init0 [.own (.obj "Curve" []), .dat (eD p_values), .dat (eD p_period), .dat (eD p_gain)] = .exc a.1 a.2 o ∧ o.length = 1 := by
  unfold N_Curve_init0_ddd_x at hN
  refine f_runX (k := 1) (S := [.own 0 (.obj "Curve" []), .dat (eD p_values), .dat (eD p_period), .dat (eD p_gain)]) rfl rfl rfl ?_
  unfold m_Curve_init0
  refine s_last ?_
  refine s_assoc ?_
  rcases orX_some hN with ⟨ee, hX, hN⟩ | ⟨_, hN⟩
  · subst hN
    refine s_excD (e := ee) (x_callFX (fs := [.dat (eD p_values)]) (v_dat (x_var rfl) v_nil) v_nil ⟨rfl, rfl⟩ rfl (n_check_values_d_x hX)) ?_
    exact ⟨_, rfl, rfl⟩
  · skip
    obtain ⟨x1, hx1, hN⟩ := bind_some hN
    refine s_drop (S1 := [.own 0 (.obj "Curve" []), .dat (eD p_values), .dat (eD p_period), .dat (eD p_gain)]) (x_callF (fs := [.dat (eD p_values)]) (is := []) (outs := []) (S3 := [.own 0 (.obj "Curve" []), .dat (eD p_values), .dat (eD p_period), .dat (eD p_gain)]) (v_dat (x_var rfl) v_nil) v_nil ⟨rfl, rfl⟩ rfl rfl (n_check_values_d hx1) rfl) ?_
    refine s_assoc ?_
    rcases orX_some hN with ⟨ee, hX, hN⟩ | ⟨_, hN⟩
    · subst hN
      refine s_excD (e := ee) (x_callFX (fs := [.dat (eD p_values), .dat (eD p_period), .dat (eD p_gain)]) (v_dat (x_var rfl) (v_dat (x_var rfl) (v_dat (x_var rfl) v_nil))) v_nil ⟨rfl, rfl⟩ rfl (n_check_growth_ddd_x hX)) ?_
      exact ⟨_, rfl, rfl⟩
    · skip
      obtain ⟨x2, hx2, hN⟩ := bind_some hN
      refine s_drop (S1 := [.own 0 (.obj "Curve" []), .dat (eD p_values), .dat (eD p_period), .dat (eD p_gain)]) (x_callF (fs := [.dat (eD p_values), .dat (eD p_period), .dat (eD p_gain)]) (is := []) (outs := []) (S3 := [.own 0 (.obj "Curve" []), .dat (eD p_values), .dat (eD p_period), .dat (eD p_gain)]) (v_dat (x_var rfl) (v_dat (x_var rfl) (v_dat (x_var rfl) v_nil))) v_nil ⟨rfl, rfl⟩ rfl rfl (n_check_growth_ddd hx2) rfl) ?_
      cases hN
def res_l_told (a : Dat) : RF := .ok (eD a) []
def N_l_told_t1 (p_row : (List Dat)) : Option Unit :=
  (ixN? p_row 0).bind fun x1 => (ixN? p_row 1).bind fun x2 => (ixN? p_row 2).bind fun x3 => (N_Curve_init0_ddd x1 x2 x3).bind fun x4 => some ()
theorem n_l_told_t1 (p_row : (List Dat)) {a : Unit} (hN : N_l_told_t1 p_row = some a) : TrN [.dat ((eL eD) p_row), .dat (eU ()), .no, .no] ((mDrop (mMake "Curve" F_Curve_init0 1 2 (fun as bs => [as.getD 0 (.dat .non), bs.getD 0 (.dat .non), bs.getD 1 (.dat .non)]) (vDat (m2 ixD (mVar 0) (mC (.int 0))) (vNil)) (vDat (m2 ixD (mVar 0) (mC (.int 1))) (vDat (m2 ixD (mVar 0) (mC (.int 2))) (vNil))))) [.dat ((eL eD) p_row), .dat (eU ()), .no, .no]) := by
  unfold N_l_told_t1 at hN
  refine s_last ?_
  obtain ⟨x1, hx1, hN⟩ := bind_some hN
  obtain ⟨x2, hx2, hN⟩ := bind_some hN
  obtain ⟨x3, hx3, hN⟩ := bind_some hN
  obtain ⟨x4, hx4, hN⟩ := bind_some hN
  refine s_drop (S1 := [.dat ((eL eD) p_row), .dat (eU ()), .no, .no]) (x_make (fs := [.dat (eD x1), .dat (eD x2), .dat (eD x3)]) (gs := cCurveF x4) (v_dat (x_2 (x_var rfl) x_C (q_ix (f := eD) hx1)) v_nil) (v_dat (x_2 (x_var rfl) x_C (q_ix (f := eD) hx2)) (v_dat (x_2 (x_var rfl) x_C (q_ix (f := eD) hx3)) v_nil)) ⟨rfl, rfl⟩ rfl (n_Curve_init0_ddd hx4)) ?_
  exact rfl
def N_l_told_t1x (p_row : (List Dat)) : Option Exc :=
  orX id ((ixN? p_row 0).bind fun x5 => (ixN? p_row 1).bind fun x6 => (ixN? p_row 2).bind fun x7 => N_Curve_init0_ddd_x x5 x6 x7) ((ixN? p_row 0).bind fun x8 => (ixN? p_row 1).bind fun x9 => (ixN? p_row 2).bind fun x10 => (N_Curve_init0_ddd x8 x9 x10).bind fun x11 => none)
theorem n_l_told_t1x (p_row : (List Dat)) {a : Exc} (hN : N_l_told_t1x p_row = some a) : TrX [.dat ((eL eD) p_row), .dat (eU ()), .no, .no] a ((mDrop (mMake "Curve" F_Curve_init0 1 2 (fun as bs => [as.getD 0 (.dat .non), bs.getD 0 (.dat .non), bs.getD 1 (.dat .non)]) (vDat (m2 ixD (mVar 0) (mC (.int 0))) (vNil)) (vDat (m2 ixD (mVar 0) (mC (.int 1))) (vDat (m2 ixD (mVar 0) (mC (.int 2))) (vNil))))) [.dat ((eL eD) p_row), .dat (eU ()), .no, .no]) := by
  unfold N_l_told_t1x at hN
  refine s_last ?_
  rcases orX_some hN with ⟨ee, hX, hN⟩ | ⟨_, hN⟩
  · subst hN
    obtain ⟨x5, hx5, hX⟩ := bind_some hX
    obtain ⟨x6, hx6, hX⟩ := bind_some hX
    obtain ⟨x7, hx7, hX⟩ := bind_some hX
    refine s_excD (e := ee) (x_makeX (fs := [.dat (eD x5), .dat (eD x6), .dat (eD x7)]) (v_dat (x_2 (x_var rfl) x_C (q_ix (f := eD) hx5)) v_nil) (v_dat (x_2 (x_var rfl) x_C (q_ix (f := eD) hx6)) (v_dat (x_2 (x_var rfl) x_C (q_ix (f := eD) hx7)) v_nil)) ⟨rfl, rfl⟩ rfl (n_Curve_init0_ddd_x hX)) ?_
    exact rfl
  · skip
    obtain ⟨x8, hx8, hN⟩ := bind_some hN
    obtain ⟨x9, hx9, hN⟩ := bind_some hN
    obtain ⟨x10, hx10, hN⟩ := bind_some hN
    obtain ⟨x11, hx11, hN⟩ := bind_some hN
    refine s_drop (S1 := [.dat ((eL eD) p_row), .dat (eU ()), .no, .no]) (x_make (fs := [.dat (eD x8), .dat (eD x9), .dat (eD x10)]) (gs := cCurveF x11) (v_dat (x_2 (x_var rfl) x_C (q_ix (f := eD) hx8)) v_nil) (v_dat (x_2 (x_var rfl) x_C (q_ix (f := eD) hx9)) (v_dat (x_2 (x_var rfl) x_C (q_ix (f := eD) hx10)) v_nil)) ⟨rfl, rfl⟩ rfl (n_Curve_init0_ddd hx11)) ?_
    cases hN
def N_l_told_k1 (w22 : Dat) : Option (Dat) :=
  some w22
theorem n_l_told_k1 (p_row : (List Dat)) (e12 : Exc) (v17 : (List Bool)) (w22 : Dat) {a : Dat} (hN : N_l_told_k1 w22 = some a) : TryP 2 (mSeq (mRet (mVar 1)) (mNext)) (Ends 0 (res_l_told a)) ((mNext) [.dat ((eL eD) p_row), .dat (eD w22), .exn e12.1 e12.2, .dat ((eL eB) v17)]) := by
  unfold N_l_told_k1 at hN
  refine tp_nx (S1 := [.dat ((eL eD) p_row), .dat (eD w22), .no, .dat ((eL eB) v17)]) rfl rfl ?_
  refine s_ret (x_var rfl) ?_
  obtain rfl := Option.some.inj hN
  exact rfl
def N_l_told (p_row : (List Dat)) : Option (Dat) :=
  tryN (N_l_told_t1 p_row) (N_l_told_t1x p_row) (some (eU ())) fun e12 => (catches [("InvalidCurve", true), ("InvalidPiece", false), ("InvalidLength", false), ("InvalidCount", false), ("InvalidRecord", false), ("NotGood", false), ("TooLong", false)] e12).bind fun _ => (xfN ["InvalidCurve"] "problem" e12).bind fun x13 => (xfN ["InvalidCurve", "InvalidPiece", "InvalidRecord"] "position" e12).bind fun x14 => (some ((x13, x14))).bind fun v15 => (List.lookup e12.1 ([("InvalidCurve", false), ("InvalidPiece", true), ("InvalidLength", true), ("InvalidCount", true), ("InvalidRecord", true), ("NotGood", true), ("TooLong", true)] : List (Str × Bool))).bind fun x16 => (some ([x16])).bind fun v17 => (List.lookup e12.1 ([("InvalidCurve", true), ("InvalidPiece", true), ("InvalidLength", true), ("InvalidCount", true), ("InvalidRecord", true), ("NotGood", false), ("TooLong", false)] : List (Str × Bool))).bind fun x18 => (List.lookup e12.1 ([("InvalidCurve", true), ("InvalidPiece", true), ("InvalidLength", true), ("InvalidCount", true), ("InvalidRecord", true), ("NotGood", false), ("TooLong", false)] : List (Str × Bool))).bind fun x19 => (catN v17 ([x18, x19])).bind fun x20 => (eqB ((eL eB) x20) ((eL eB) ([false, true, true]))).bind fun x21 => if (!x21) = true then (some (("other" : Str))).bind fun v23 => N_l_told_k1 (eS v23) else N_l_told_k1 ((e2 eD eD) v15)
theorem n_l_told {p_row : (List Dat)} {a : Dat} (hN : N_l_told p_row = some a) : F_l_told [.dat ((eL eD) p_row)] = res_l_told a := by
  unfold N_l_told at hN
  refine f_run (k := 0) (S := [.dat ((eL eD) p_row), .no, .no, .no]) rfl rfl rfl ?_
  unfold m_l_told
  refine s_last ?_
  refine s_assoc ?_
  refine s_asg (S2 := [.dat ((eL eD) p_row), .dat (eU ()), .no, .no]) x_C rfl ?_
  refine s_assoc ?_
  rcases tryN_some hN with ⟨hT, hN⟩ | ⟨e12, _, hX, hN⟩
  · refine s_tryOk (S1 := [.dat ((eL eD) p_row), .dat (eU ()), .no, .no]) (n_l_told_t1 p_row hT) ?_
    refine s_ret (x_var rfl) ?_
    obtain rfl := Option.some.inj hN
    exact rfl
  · obtain ⟨_, hC, hN⟩ := bind_some hN
    refine s_tryX (e := e12) (S1 := [.dat ((eL eD) p_row), .dat (eU ()), .no, .no]) (S2 := [.dat ((eL eD) p_row), .dat (eU ()), .exn e12.1 e12.2, .no]) (n_l_told_t1x p_row hX) (catches_some hC) rfl ?_
    refine s_last ?_
    refine s_assoc ?_
    obtain ⟨x13, hx13, hN⟩ := bind_some hN
    obtain ⟨x14, hx14, hN⟩ := bind_some hN
    obtain ⟨v15, hv15, hN⟩ := bind_some hN
    refine s_asg (S2 := [.dat ((eL eD) p_row), .dat ((e2 eD eD) v15), .exn e12.1 e12.2, .no]) (x_eq (x_tup (x_cons (x_xf (e := e12) rfl hx13) (x_cons (x_xf (e := e12) rfl hx14) x_nil)) (Nat.le_of_ble_eq_true rfl)) (congrArg (e2 eD eD) (Option.some.inj hv15))) rfl ?_
    refine s_assoc ?_
    obtain ⟨x16, hx16, hN⟩ := bind_some hN
    obtain ⟨v17, hv17, hN⟩ := bind_some hN
    refine s_asg (S2 := [.dat ((eL eD) p_row), .dat ((e2 eD eD) v15), .exn e12.1 e12.2, .dat ((eL eB) v17)]) (x_eq (x_eq (x_lst (x_cons (x_isX (e := e12) rfl hx16) x_nil) (Nat.le_of_ble_eq_true rfl)) (by rfl)) (congrArg (eL eB) (Option.some.inj hv17))) rfl ?_
    obtain ⟨x18, hx18, hN⟩ := bind_some hN
    obtain ⟨x19, hx19, hN⟩ := bind_some hN
    obtain ⟨x20, hx20, hN⟩ := bind_some hN
    obtain ⟨x21, hx21, hN⟩ := bind_some hN
    rcases ite_some hN with ⟨c24, hN⟩ | ⟨c24, hN⟩
    · refine s_ifT (t_truth (x_2 (x_2 (x_var rfl) (x_eq (x_lst (x_cons (x_isX (e := e12) rfl hx18) (x_cons (x_isX (e := e12) rfl hx19) x_nil)) (Nat.le_of_ble_eq_true rfl)) (by rfl)) (q_cat (f := eB) hx20)) (x_eq (x_lst (x_cons x_C (x_cons x_C (x_cons x_C x_nil))) (Nat.le_of_ble_eq_true rfl)) (by rfl)) (q_ne hx21))) c24 ?_
      obtain ⟨v23, hv23, hN⟩ := bind_some hN
      refine s_asg (S2 := [.dat ((eL eD) p_row), .dat (eS v23), .exn e12.1 e12.2, .dat ((eL eB) v17)]) (x_eq x_C (congrArg eS (Option.some.inj hv23))) rfl ?_
      exact n_l_told_k1 p_row e12 v17 (eS v23) hN
    · refine s_ifF (t_truth (x_2 (x_2 (x_var rfl) (x_eq (x_lst (x_cons (x_isX (e := e12) rfl hx18) (x_cons (x_isX (e := e12) rfl hx19) x_nil)) (Nat.le_of_ble_eq_true rfl)) (by rfl)) (q_cat (f := eB) hx20)) (x_eq (x_lst (x_cons x_C (x_cons x_C (x_cons x_C x_nil))) (Nat.le_of_ble_eq_true rfl)) (by rfl)) (q_ne hx21))) c24 ?_
      refine s_next ?_
      exact n_l_told_k1 p_row e12 v17 ((e2 eD eD) v15) hN
def res_l_right (a : Bool × Rg × Ths) : RT := .ok (eB a.1) [a.2.1.own] a.2.2
def N_l_right_b1 (x1 : Nat × Rg × Ths) (i5 : Int) (c6 : Rg) (c7 : Ths) : Option (Rg × Ths) :=
  (lsN eD c7 x1.1).bind fun l8 => (ixN? l8 0).bind fun x9 => (isiB [("NoneType", false), ("bool", false), ("int", false), ("str", false), ("list", true), ("tuple", false), ("dict", false)] [("Curve", false)] (snap1 c7 x9)).bind fun x10 => if x10 = true then (N_l_spoilt c6 x1.1 c7).bind fun x11 => some ((x11.2.1, x11.2.2)) else some ((c6, c7))
theorem n_l_right_b1 (x1 : Nat × Rg × Ths) (i5 : Int) (c6 : Rg) (c7 : Ths) {a : Rg × Ths} (hN : N_l_right_b1 x1 i5 c6 c7 = some a) (j : Nat → Slot) : ∃ S1, (gNm 2) (eI i5) [.own 0 c6.own, .dat (eP x1.1), (j 2), .no, .no, .heap c7] = .ok () S1 ∧ LN (fun (s : Rg × Ths) (jt : Nat → Slot) => [.own 0 s.1.own, .dat (eP x1.1), (jt 2), .no, .no, .heap s.2]) a ((mIfS (cTruth (m1S 5 (isiT [("NoneType", false), ("bool", false), ("int", false), ("str", false), ("list", true), ("tuple", false), ("dict", false)] [("Curve", false)]) (mIxL 5 (mVar 1) (mC (.int 0))))) (mDrop (mCallA (applyT 5 F_l_spoilt) 2 0 (fun as bs => [as.getD 0 (.dat .non), as.getD 1 (.dat .non)]) (vSlot 0 (vDat (mVar 1) (vNil))) vNil)) (mNext)) S1) := by
  unfold N_l_right_b1 at hN
  refine ⟨[.own 0 c6.own, .dat (eP x1.1), .dat (eI i5), .no, .no, .heap c7], rfl, ?_⟩
  refine s_last ?_
  obtain ⟨l8, hl8, hN⟩ := bind_some hN
  obtain ⟨x9, hx9, hN⟩ := bind_some hN
  obtain ⟨x10, hx10, hN⟩ := bind_some hN
  rcases ite_some hN with ⟨c12, hN⟩ | ⟨c12, hN⟩
  · refine s_ifT (t_truth (x_1S (x_ixL (x_var rfl) x_C rfl hl8 hx9) rfl rfl (q_isiB hx10))) c12 ?_
    obtain ⟨x11, hx11, hN⟩ := bind_some hN
    refine s_drop (S1 := [.own 0 x11.2.1.own, .dat (eP x1.1), .dat (eI i5), .no, .no, .heap x11.2.2]) (x_callA (v_slot rfl (v_dat (x_var rfl) v_nil)) v_nil ⟨rfl, rfl⟩ (a_T (fs := [.own c6.own, .dat (eP x1.1)]) (is := [0]) (outs := [x11.2.1.own]) (S1 := [.own 0 x11.2.1.own, .dat (eP x1.1), .dat (eI i5), .no, .no, .heap c7]) (S2 := [.own 0 x11.2.1.own, .dat (eP x1.1), .dat (eI i5), .no, .no, .heap x11.2.2]) rfl rfl rfl (n_l_spoilt hx11) rfl rfl)) ?_
    obtain rfl := Option.some.inj hN
    exact ln_nx rfl
  · refine s_ifF (t_truth (x_1S (x_ixL (x_var rfl) x_C rfl hl8 hx9) rfl rfl (q_isiB hx10))) c12 ?_
    refine s_next ?_
    obtain rfl := Option.some.inj hN
    exact ln_nx rfl
def N_l_right (p_rng : Rg) (p_h : Ths) : Option (Bool × Rg × Ths) :=
  (N_l_written p_rng p_h).bind fun x1 => (drawN x1.2.1 5).bind fun d2 => (ixN? ([0, 1, 1, 1, 2]) d2.1).bind fun x3 => (range1N x3).bind fun x4 => (foldO (fun (x13 : Int) (s14 : Rg × Ths) => N_l_right_b1 x1 x13 s14.1 s14.2) x4 (d2.2, x1.2.2)).bind fun s15 => (lsL s15.2 x1.1).bind fun l17 => (N_l_due l17).bind fun x18 => (lsL s15.2 x1.1).bind fun l19 => (reprE ((eL eD) l19)).bind fun x20 => (lsL s15.2 x1.1).bind fun l21 => (N_l_told l21).bind fun x22 => (fltN x22).bind fun u23 => (reprE (eD x22)).bind fun x24 => (reprE ((eO (e2 eS eI)) x18)).bind fun x25 => (if (decide (x24 = x25)) = true then (lsL s15.2 x1.1).bind fun l26 => (reprE ((eL eD) l26)).bind fun x27 => some (decide (x27 = x20)) else some false).bind fun x28 => some ((x28, s15.1, s15.2))
theorem n_l_right {p_rng : Rg} {p_h : Ths} {a : Bool × Rg × Ths} (hN : N_l_right p_rng p_h = some a) : F_l_right [.own p_rng.own] p_h = res_l_right a := by
  unfold N_l_right at hN
  refine f_runT (k := 1) (S := [.own 0 p_rng.own, .no, .no, .no, .no, .heap p_h]) rfl rfl rfl ?_
  unfold m_l_right
  refine s_last ?_
  refine s_assoc ?_
  obtain ⟨x1, hx1, hN⟩ := bind_some hN
  refine s_asg (S2 := [.own 0 x1.2.1.own, .dat (eP x1.1), .no, .no, .no, .heap x1.2.2]) (x_callA (v_slot rfl v_nil) v_nil ⟨rfl, rfl⟩ (a_T (fs := [.own p_rng.own]) (is := [0]) (outs := [x1.2.1.own]) (S1 := [.own 0 x1.2.1.own, .no, .no, .no, .no, .heap p_h]) (S2 := [.own 0 x1.2.1.own, .no, .no, .no, .no, .heap x1.2.2]) rfl rfl rfl (n_l_written hx1) rfl rfl)) rfl ?_
  refine s_assoc ?_
  obtain ⟨d2, hd2, hN⟩ := bind_some hN
  obtain ⟨x3, hx3, hN⟩ := bind_some hN
  obtain ⟨x4, hx4, hN⟩ := bind_some hN
  obtain ⟨s15, hs15, hN⟩ := bind_some hN
  obtain ⟨j16, es15⟩ : ∃ jx, loopS (gNm 2) (mIfS (cTruth (m1S 5 (isiT [("NoneType", false), ("bool", false), ("int", false), ("str", false), ("list", true), ("tuple", false), ("dict", false)] [("Curve", false)]) (mIxL 5 (mVar 1) (mC (.int 0))))) (mDrop (mCallA (applyT 5 F_l_spoilt) 2 0 (fun as bs => [as.getD 0 (.dat .non), as.getD 1 (.dat .non)]) (vSlot 0 (vDat (mVar 1) (vNil))) vNil)) (mNext)) (x4.map eI) [.own 0 d2.2.own, .dat (eP x1.1), .no, .no, .no, .heap x1.2.2] = .ok .nx (((fun (s : Rg × Ths) (jt : Nat → Slot) => [.own 0 s.1.own, .dat (eP x1.1), (jt 2), .no, .no, .heap s.2])) s15 jx) := foldO_ok (T := (fun (s : Rg × Ths) (jt : Nat → Slot) => [.own 0 s.1.own, .dat (eP x1.1), (jt 2), .no, .no, .heap s.2])) (f := eI) (fun x13 s14 jw z h => n_l_right_b1 x1 x13 s14.1 s14.2 h jw) x4 (d2.2, x1.2.2) (fun i => List.getD [.own 0 d2.2.own, .dat (eP x1.1), .no, .no, .no, .heap x1.2.2] i .no) _ hs15
  refine s_for (ds := x4.map eI) (i_its (x_cons (x_2 (x_eq (x_lst (x_cons x_C (x_cons x_C (x_cons x_C (x_cons x_C (x_cons x_C x_nil))))) (Nat.le_of_ble_eq_true rfl)) (by rfl)) (x_callF (fs := [.own x1.2.1.own, .dat (.int 5)]) (is := [0]) (outs := [d2.2.own]) (S3 := [.own 0 d2.2.own, .dat (eP x1.1), .no, .no, .no, .heap x1.2.2]) (v_slot rfl (v_dat x_C v_nil)) v_nil ⟨rfl, rfl⟩ rfl rfl (n_draw hd2) rfl) (q_ix (f := eI) hx3)) x_nil) (q_range1 hx4)) (s_run (S1 := [.own 0 s15.1.own, .dat (eP x1.1), (j16 2), .no, .no, .heap s15.2]) es15 ?_)
  refine s_assoc ?_
  obtain ⟨l17, hl17, hN⟩ := bind_some hN
  obtain ⟨x18, hx18, hN⟩ := bind_some hN
  obtain ⟨l19, hl19, hN⟩ := bind_some hN
  obtain ⟨x20, hx20, hN⟩ := bind_some hN
  refine s_par (S2 := [.own 0 s15.1.own, .dat (eP x1.1), (j16 2), .dat ((eO (e2 eS eI)) x18), .dat (eS x20), .heap s15.2]) (ma_eq2 (x_cons (x_callA (v_dat (x_var rfl) v_nil) v_nil ⟨rfl, rfl⟩ (a_L (fs := [.dat ((eL eD) l17)]) rfl (sl_cons (lsL_snap hl17) sl_nil) (n_l_due hx18) ((ft_O (ft_2 ft_S ft_I)) _))) (x_cons (x_callL (x_cons (x_var rfl) x_nil) rfl hl19 (q_reprE hx20) (ft_S _)) x_nil)) rfl rfl) rfl ?_
  obtain ⟨l21, hl21, hN⟩ := bind_some hN
  obtain ⟨x22, hx22, hN⟩ := bind_some hN
  obtain ⟨u23, hu23, hN⟩ := bind_some hN
  obtain ⟨x24, hx24, hN⟩ := bind_some hN
  obtain ⟨x25, hx25, hN⟩ := bind_some hN
  obtain ⟨x28, hx28, hN⟩ := bind_some hN
  refine s_ret (x_andQ (val := fun (v : Bool) => v) (st := fun (v : Bool) => [.own 0 s15.1.own, .dat (eP x1.1), (j16 2), .dat ((eO (e2 eS eI)) x18), .dat (eS x20), .heap s15.2]) (v := x28) (v0 := false) (x_2 (x_call (x_cons (x_callA (v_dat (x_var rfl) v_nil) v_nil ⟨rfl, rfl⟩ (a_L (fs := [.dat ((eL eD) l21)]) rfl (sl_cons (lsL_snap hl21) sl_nil) (n_l_told hx22) (fltN_ok hu23))) x_nil) (q_reprE hx24)) (x_call (x_cons (x_var rfl) x_nil) (q_reprE hx25)) rfl) (fun v hv => by (obtain ⟨l26, hl26, hv⟩ := bind_some hv; obtain ⟨x27, hx27, hv⟩ := bind_some hv; obtain rfl := Option.some.inj hv; exact (x_2 (x_callL (x_cons (x_var rfl) x_nil) rfl hl26 (q_reprE hx27) (ft_S _)) (x_var rfl) rfl))) rfl rfl hx28) ?_
  obtain rfl := Option.some.inj hN
  exact rfl
def res_law (a : Bool × Ths) : RT := .ok (eB a.1) [] a.2
def N_law_b1 (p_script : (List Int)) (i2 : Int) (c3 : Ths) : Option (Stp (Bool × Ths) (Ths)) :=
  (rngO p_script i2).bind fun g4 => (range1N 6).bind fun x5 => (capS (mapS (fun y6 (s7 : Rg × Ths) => (N_l_right s7.1 s7.2).bind fun x8 => some (x8.1, (x8.2.1, x8.2.2))) x5 ((g4, c3)))).bind fun x9 => if (!(x9.1.all id)) = true then some (.rt ((false, x9.2.2))) else some (.nx x9.2.2)
theorem n_law_b1 (p_script : (List Int)) (i2 : Int) (c3 : Ths) {a : Stp (Bool × Ths) (Ths)} (hN : N_law_b1 p_script i2 c3 = some a) (j : Nat → Slot) : ∃ S1, (gNm 1) (eI i2) [.dat ((eR eI) p_script), (j 1), .no, (j 3), .no, (j 5), .heap c3] = .ok () S1 ∧ LB (fun (s : Ths) (jt : Nat → Slot) => [.dat ((eR eI) p_script), (jt 1), .no, (jt 3), .no, (jt 5), .heap s]) (RToT 0 6 (res_law)) a ((mSeq (mSetF 3 (lCall F_l_rng 2 (vDat (mVar 0) (vDat (mVar 1) (vNil)))))
    (mIfS (cNot (cTruth (mCall allC (mCons (mLc (mIts range1 (mCons (mC (.int 6)) (mNil))) (cgN 5) (cYes) (mCallA (applyT 6 F_l_right) 1 0 (fun as bs => [as.getD 0 (.dat .non)]) (vSlot 3 (vNil)) vNil) [5]) (mNil))))) (mRet (mC (.bl false))) (mNext))) S1) := by
  unfold N_law_b1 at hN
  refine ⟨[.dat ((eR eI) p_script), .dat (eI i2), .no, (j 3), .no, (j 5), .heap c3], rfl, ?_⟩
  refine s_last ?_
  refine s_assoc ?_
  obtain ⟨g4, hg4, hN⟩ := bind_some hN
  refine s_setF (S2 := [.dat ((eR eI) p_script), .dat (eI i2), .no, .loc g4.ds, .no, (j 5), .heap c3]) (l_call (v_dat (x_var rfl) (v_dat (x_var rfl) v_nil)) rfl rfl (n_rng hg4)) rfl ?_
  obtain ⟨x5, hx5, hN⟩ := bind_some hN
  obtain ⟨x9, hx9, hN⟩ := bind_some hN
  rcases ite_some hN with ⟨c10, hN⟩ | ⟨c10, hN⟩
  · refine s_ifT (t_not (t_truth (x_call (x_cons (x_lc (lc_mapS (S := [.dat ((eR eI) p_script), .dat (eI i2), .no, .loc g4.ds, .no, (j 5), .heap c3]) (mi := mIts range1 (mCons (mC (.int 6)) (mNil))) (vs := [5]) (g := cgN 5) (e := mCallA (applyT 6 F_l_right) 1 0 (fun as bs => [as.getD 0 (.dat .non)]) (vSlot 3 (vNil)) vNil) (f := eI) (fo := eB) (T := fun (s7 : Rg × Ths) => [.dat ((eR eI) p_script), .dat (eI i2), .no, .loc s7.1.ds, .no, .no, .heap s7.2]) (nb := fun y6 s7 => (N_l_right s7.1 s7.2).bind fun x8 => some (x8.1, (x8.2.1, x8.2.2))) (s := ((g4, c3))) (ys := x9.1) (s' := x9.2) (i_its (x_cons x_C x_nil) (q_range1 hx5)) rfl (fun y6 s7 p hp => by (obtain ⟨x8, hx8, hp⟩ := bind_some hp; obtain rfl := Option.some.inj hp; exact ⟨[.dat ((eR eI) p_script), .dat (eI i2), .no, .loc s7.1.ds, .no, .dat (eI y6), .heap s7.2], _, rfl, (x_callA (v_slot rfl v_nil) v_nil ⟨rfl, rfl⟩ (a_T (fs := [.own s7.1.own]) (is := [3]) (outs := [x8.2.1.own]) (S1 := [.dat ((eR eI) p_script), .dat (eI i2), .no, .loc x8.2.1.ds, .no, .dat (eI y6), .heap s7.2]) (S2 := [.dat ((eR eI) p_script), .dat (eI i2), .no, .loc x8.2.1.ds, .no, .dat (eI y6), .heap x8.2.2]) rfl rfl rfl (n_l_right hx8) rfl rfl)), rfl⟩)) hx9)) x_nil) q_all))) c10 ?_
    refine s_ret x_C ?_
    obtain rfl := Option.some.inj hN
    exact rtoT_of rfl
  · refine s_ifF (t_not (t_truth (x_call (x_cons (x_lc (lc_mapS (S := [.dat ((eR eI) p_script), .dat (eI i2), .no, .loc g4.ds, .no, (j 5), .heap c3]) (mi := mIts range1 (mCons (mC (.int 6)) (mNil))) (vs := [5]) (g := cgN 5) (e := mCallA (applyT 6 F_l_right) 1 0 (fun as bs => [as.getD 0 (.dat .non)]) (vSlot 3 (vNil)) vNil) (f := eI) (fo := eB) (T := fun (s7 : Rg × Ths) => [.dat ((eR eI) p_script), .dat (eI i2), .no, .loc s7.1.ds, .no, .no, .heap s7.2]) (nb := fun y6 s7 => (N_l_right s7.1 s7.2).bind fun x8 => some (x8.1, (x8.2.1, x8.2.2))) (s := ((g4, c3))) (ys := x9.1) (s' := x9.2) (i_its (x_cons x_C x_nil) (q_range1 hx5)) rfl (fun y6 s7 p hp => by (obtain ⟨x8, hx8, hp⟩ := bind_some hp; obtain rfl := Option.some.inj hp; exact ⟨[.dat ((eR eI) p_script), .dat (eI i2), .no, .loc s7.1.ds, .no, .dat (eI y6), .heap s7.2], _, rfl, (x_callA (v_slot rfl v_nil) v_nil ⟨rfl, rfl⟩ (a_T (fs := [.own s7.1.own]) (is := [3]) (outs := [x8.2.1.own]) (S1 := [.dat ((eR eI) p_script), .dat (eI i2), .no, .loc x8.2.1.ds, .no, .dat (eI y6), .heap s7.2]) (S2 := [.dat ((eR eI) p_script), .dat (eI i2), .no, .loc x8.2.1.ds, .no, .dat (eI y6), .heap x8.2.2]) rfl rfl rfl (n_l_right hx8) rfl rfl)), rfl⟩)) hx9)) x_nil) q_all))) c10 ?_
    refine s_next ?_
    obtain rfl := Option.some.inj hN
    exact lb_nx rfl
def N_law (p_script : (List Int)) (p_h : Ths) : Option (Bool × Ths) :=
  (range1N (max 1 (min 8 ((p_script.length : Int))))).bind fun x1 => thenL (ρ := Bool × Ths) id (forL (fun (x11 : Int) (s12 : Ths) => N_law_b1 p_script x11 s12) x1 p_h) fun s13 => (repN ([0]) 24).bind fun x15 => (repN ([2000]) 24).bind fun x16 => (some ([[(eL eI) x15, eI 12, eI 0], [(eL eI) x16, eI 12, eI 2000], [(eL eI) ([0, 2000]), eI 1, eI 2000], [(eL eI) ([5]), eI 1, eI 0]])).bind fun v17 => (catN v17 ([[(eL eI) ([0, 1]), eI 2, eI 0], [(eL eI) ([1, 2]), eI 2, eI 0]])).bind fun x18 => (capO (mapO (fun y19 => (N_l_told y19).bind fun x20 => some x20) x18)).bind fun x21 => (eqB ((eL eD) x21) ((eL (eO (e2 eS eI))) ([none, none, none, none, some ((("gain" : Str), 0)), some ((("gain" : Str), 0))]))).bind fun x22 => if (!x22) = true then some ((false, s13)) else (repN ([1]) 25).bind fun x23 => (capO (mapO (fun y24 => (N_l_told y24).bind fun x25 => some x25) ([[(eL eD) ([eI 3, eI 2, eB true]), eI 5, eI (-1)], [(eL eI) x23, eI 1, eI 0], [(eL eI) ([1]), eI 2, eI (-1)]]))).bind fun x26 => (eqB ((eL eD) x26) ((eL (e2 eS eI)) ([(("value" : Str), 1), (("count" : Str), 0), (("period" : Str), 0)]))).bind fun x27 => some ((x27, s13))
theorem n_law {p_script : (List Int)} {p_h : Ths} {a : Bool × Ths} (hN : N_law p_script p_h = some a) : F_law [.dat ((eR eI) p_script)] p_h = res_law a := by
  unfold N_law at hN
  refine f_runT (k := 0) (S := [.dat ((eR eI) p_script), .no, .no, .no, .no, .no, .heap p_h]) rfl rfl rfl ?_
  unfold m_law
  refine s_last ?_
  refine s_assoc ?_
  obtain ⟨x1, hx1, hN⟩ := bind_some hN
  rcases thenL_some hN with ⟨s13, hs13, hN⟩ | ⟨v29, hs13, hN⟩
  · obtain ⟨j14, es13⟩ : ∃ jx, loopS (gNm 1) (mSeq (mSetF 3 (lCall F_l_rng 2 (vDat (mVar 0) (vDat (mVar 1) (vNil)))))
    (mIfS (cNot (cTruth (mCall allC (mCons (mLc (mIts range1 (mCons (mC (.int 6)) (mNil))) (cgN 5) (cYes) (mCallA (applyT 6 F_l_right) 1 0 (fun as bs => [as.getD 0 (.dat .non)]) (vSlot 3 (vNil)) vNil) [5]) (mNil))))) (mRet (mC (.bl false))) (mNext))) (x1.map eI) [.dat ((eR eI) p_script), .no, .no, .no, .no, .no, .heap p_h] = .ok .nx (((fun (s : Ths) (jt : Nat → Slot) => [.dat ((eR eI) p_script), (jt 1), .no, (jt 3), .no, (jt 5), .heap s])) s13 jx) := le_nx (forL_ok (T := (fun (s : Ths) (jt : Nat → Slot) => [.dat ((eR eI) p_script), (jt 1), .no, (jt 3), .no, (jt 5), .heap s])) (RT := (RToT 0 6 (res_law))) (f := eI) rtoT (fun x11 s12 jw z h => n_law_b1 p_script x11 s12 h jw) x1 p_h (fun i => List.getD [.dat ((eR eI) p_script), .no, .no, .no, .no, .no, .heap p_h] i .no) _ hs13)
    refine s_for (ds := x1.map eI) (i_its (x_cons (x_call (x_cons x_C (x_cons (x_call (x_cons x_C (x_cons (x_call (x_cons (x_var rfl) x_nil) (q_lenR (f := eI))) x_nil)) q_min2) x_nil)) q_max2) x_nil) (q_range1 hx1)) (s_run (S1 := [.dat ((eR eI) p_script), (j14 1), .no, (j14 3), .no, (j14 5), .heap s13]) es13 ?_)
    refine s_assoc ?_
    obtain ⟨x15, hx15, hN⟩ := bind_some hN
    obtain ⟨x16, hx16, hN⟩ := bind_some hN
    obtain ⟨v17, hv17, hN⟩ := bind_some hN
    refine s_asg (S2 := [.dat ((eR eI) p_script), (j14 1), .dat ((eL (eL eD)) v17), (j14 3), .no, (j14 5), .heap s13]) (x_eq (x_eq (x_lst (x_cons (x_eq (x_lst (x_cons (x_2 (x_eq (x_lst (x_cons x_C x_nil) (Nat.le_of_ble_eq_true rfl)) (by rfl)) x_C (q_rep (f := eI) hx15)) (x_cons x_C (x_cons x_C x_nil))) (Nat.le_of_ble_eq_true rfl)) (by rfl)) (x_cons (x_eq (x_lst (x_cons (x_2 (x_eq (x_lst (x_cons x_C x_nil) (Nat.le_of_ble_eq_true rfl)) (by rfl)) x_C (q_rep (f := eI) hx16)) (x_cons x_C (x_cons x_C x_nil))) (Nat.le_of_ble_eq_true rfl)) (by rfl)) (x_cons (x_eq (x_lst (x_cons (x_eq (x_lst (x_cons x_C (x_cons x_C x_nil)) (Nat.le_of_ble_eq_true rfl)) (by rfl)) (x_cons x_C (x_cons x_C x_nil))) (Nat.le_of_ble_eq_true rfl)) (by rfl)) (x_cons (x_eq (x_lst (x_cons (x_eq (x_lst (x_cons x_C x_nil) (Nat.le_of_ble_eq_true rfl)) (by rfl)) (x_cons x_C (x_cons x_C x_nil))) (Nat.le_of_ble_eq_true rfl)) (by rfl)) x_nil)))) (Nat.le_of_ble_eq_true rfl)) (by rfl)) (congrArg (eL (eL eD)) (Option.some.inj hv17))) rfl ?_
    refine s_assoc ?_
    obtain ⟨x18, hx18, hN⟩ := bind_some hN
    refine s_asg (S2 := [.dat ((eR eI) p_script), (j14 1), .dat ((eL (eL eD)) x18), (j14 3), .no, (j14 5), .heap s13]) (x_2 (x_var rfl) (x_eq (x_lst (x_cons (x_eq (x_lst (x_cons (x_eq (x_lst (x_cons x_C (x_cons x_C x_nil)) (Nat.le_of_ble_eq_true rfl)) (by rfl)) (x_cons x_C (x_cons x_C x_nil))) (Nat.le_of_ble_eq_true rfl)) (by rfl)) (x_cons (x_eq (x_lst (x_cons (x_eq (x_lst (x_cons x_C (x_cons x_C x_nil)) (Nat.le_of_ble_eq_true rfl)) (by rfl)) (x_cons x_C (x_cons x_C x_nil))) (Nat.le_of_ble_eq_true rfl)) (by rfl)) x_nil)) (Nat.le_of_ble_eq_true rfl)) (by rfl)) (q_cat (f := (eL eD)) hx18)) rfl ?_
    refine s_assoc ?_
    obtain ⟨x21, hx21, hN⟩ := bind_some hN
    obtain ⟨x22, hx22, hN⟩ := bind_some hN
    rcases ite_some hN with ⟨c28, hN⟩ | ⟨c28, hN⟩
    · refine s_ifT (t_truth (x_2 (x_lc (lc_mapO (f := (eL eD)) (fo := eD) (nb := fun y19 => (N_l_told y19).bind fun x20 => some x20) (S0 := [.dat ((eR eI) p_script), (j14 1), .dat ((eL (eL eD)) x18), (j14 3), .no, (j14 5), .heap s13]) (i_items (x_var rfl) rfl) rfl (fun y19 p hp => by (obtain ⟨x20, hx20, hp⟩ := bind_some hp; obtain rfl := Option.some.inj hp; exact ⟨[.dat ((eR eI) p_script), (j14 1), .dat ((eL (eL eD)) x18), (j14 3), .dat ((eL eD) y19), (j14 5), .heap s13], _, rfl, (x_callF (fs := [.dat ((eL eD) y19)]) (is := []) (outs := []) (S3 := [.dat ((eR eI) p_script), (j14 1), .dat ((eL (eL eD)) x18), (j14 3), .dat ((eL eD) y19), (j14 5), .heap s13]) (v_dat (x_var rfl) v_nil) v_nil ⟨rfl, rfl⟩ rfl rfl (n_l_told hx20) rfl), rfl⟩)) hx21)) (x_eq (x_lst (x_cons x_C (x_cons x_C (x_cons x_C (x_cons x_C (x_cons (x_tup (x_cons x_C (x_cons x_C x_nil)) (Nat.le_of_ble_eq_true rfl)) (x_cons (x_tup (x_cons x_C (x_cons x_C x_nil)) (Nat.le_of_ble_eq_true rfl)) x_nil)))))) (Nat.le_of_ble_eq_true rfl)) (by rfl)) (q_ne hx22))) c28 ?_
      refine s_ret x_C ?_
      obtain rfl := Option.some.inj hN
      exact rfl
    · refine s_ifF (t_truth (x_2 (x_lc (lc_mapO (f := (eL eD)) (fo := eD) (nb := fun y19 => (N_l_told y19).bind fun x20 => some x20) (S0 := [.dat ((eR eI) p_script), (j14 1), .dat ((eL (eL eD)) x18), (j14 3), .no, (j14 5), .heap s13]) (i_items (x_var rfl) rfl) rfl (fun y19 p hp => by (obtain ⟨x20, hx20, hp⟩ := bind_some hp; obtain rfl := Option.some.inj hp; exact ⟨[.dat ((eR eI) p_script), (j14 1), .dat ((eL (eL eD)) x18), (j14 3), .dat ((eL eD) y19), (j14 5), .heap s13], _, rfl, (x_callF (fs := [.dat ((eL eD) y19)]) (is := []) (outs := []) (S3 := [.dat ((eR eI) p_script), (j14 1), .dat ((eL (eL eD)) x18), (j14 3), .dat ((eL eD) y19), (j14 5), .heap s13]) (v_dat (x_var rfl) v_nil) v_nil ⟨rfl, rfl⟩ rfl rfl (n_l_told hx20) rfl), rfl⟩)) hx21)) (x_eq (x_lst (x_cons x_C (x_cons x_C (x_cons x_C (x_cons x_C (x_cons (x_tup (x_cons x_C (x_cons x_C x_nil)) (Nat.le_of_ble_eq_true rfl)) (x_cons (x_tup (x_cons x_C (x_cons x_C x_nil)) (Nat.le_of_ble_eq_true rfl)) x_nil)))))) (Nat.le_of_ble_eq_true rfl)) (by rfl)) (q_ne hx22))) c28 ?_
      refine s_next ?_
      obtain ⟨x23, hx23, hN⟩ := bind_some hN
      obtain ⟨x26, hx26, hN⟩ := bind_some hN
      obtain ⟨x27, hx27, hN⟩ := bind_some hN
      refine s_ret (x_2 (x_lc (lc_mapO (f := (eL eD)) (fo := eD) (nb := fun y24 => (N_l_told y24).bind fun x25 => some x25) (S0 := [.dat ((eR eI) p_script), (j14 1), .dat ((eL (eL eD)) x18), (j14 3), .no, (j14 5), .heap s13]) (i_items (x_eq (x_lst (x_cons (x_eq (x_lst (x_cons (x_eq (x_lst (x_cons x_C (x_cons x_C (x_cons x_C x_nil))) (Nat.le_of_ble_eq_true rfl)) (by rfl)) (x_cons x_C (x_cons (x_1 x_C rfl) x_nil))) (Nat.le_of_ble_eq_true rfl)) (by rfl)) (x_cons (x_eq (x_lst (x_cons (x_2 (x_eq (x_lst (x_cons x_C x_nil) (Nat.le_of_ble_eq_true rfl)) (by rfl)) x_C (q_rep (f := eI) hx23)) (x_cons x_C (x_cons x_C x_nil))) (Nat.le_of_ble_eq_true rfl)) (by rfl)) (x_cons (x_eq (x_lst (x_cons (x_eq (x_lst (x_cons x_C x_nil) (Nat.le_of_ble_eq_true rfl)) (by rfl)) (x_cons x_C (x_cons (x_1 x_C rfl) x_nil))) (Nat.le_of_ble_eq_true rfl)) (by rfl)) x_nil))) (Nat.le_of_ble_eq_true rfl)) (by rfl)) rfl) rfl (fun y24 p hp => by (obtain ⟨x25, hx25, hp⟩ := bind_some hp; obtain rfl := Option.some.inj hp; exact ⟨[.dat ((eR eI) p_script), (j14 1), .dat ((eL (eL eD)) x18), (j14 3), .dat ((eL eD) y24), (j14 5), .heap s13], _, rfl, (x_callF (fs := [.dat ((eL eD) y24)]) (is := []) (outs := []) (S3 := [.dat ((eR eI) p_script), (j14 1), .dat ((eL (eL eD)) x18), (j14 3), .dat ((eL eD) y24), (j14 5), .heap s13]) (v_dat (x_var rfl) v_nil) v_nil ⟨rfl, rfl⟩ rfl rfl (n_l_told hx25) rfl), rfl⟩)) hx26)) (x_eq (x_lst (x_cons (x_tup (x_cons x_C (x_cons x_C x_nil)) (Nat.le_of_ble_eq_true rfl)) (x_cons (x_tup (x_cons x_C (x_cons x_C x_nil)) (Nat.le_of_ble_eq_true rfl)) (x_cons (x_tup (x_cons x_C (x_cons x_C x_nil)) (Nat.le_of_ble_eq_true rfl)) x_nil))) (Nat.le_of_ble_eq_true rfl)) (by rfl)) (q_eq hx27)) ?_
      obtain rfl := Option.some.inj hN
      exact rfl
  · have es13 : RToT 0 6 (res_law) v29 (loopS (gNm 1) (mSeq (mSetF 3 (lCall F_l_rng 2 (vDat (mVar 0) (vDat (mVar 1) (vNil)))))
    (mIfS (cNot (cTruth (mCall allC (mCons (mLc (mIts range1 (mCons (mC (.int 6)) (mNil))) (cgN 5) (cYes) (mCallA (applyT 6 F_l_right) 1 0 (fun as bs => [as.getD 0 (.dat .non)]) (vSlot 3 (vNil)) vNil) [5]) (mNil))))) (mRet (mC (.bl false))) (mNext))) (x1.map eI) [.dat ((eR eI) p_script), .no, .no, .no, .no, .no, .heap p_h]) := le_rt (forL_ok (T := (fun (s : Ths) (jt : Nat → Slot) => [.dat ((eR eI) p_script), (jt 1), .no, (jt 3), .no, (jt 5), .heap s])) (RT := (RToT 0 6 (res_law))) (f := eI) rtoT (fun x11 s12 jw z h => n_law_b1 p_script x11 s12 h jw) x1 p_h (fun i => List.getD [.dat ((eR eI) p_script), .no, .no, .no, .no, .no, .heap p_h] i .no) _ hs13)
    subst hN
    exact s_for (ds := x1.map eI) (i_its (x_cons (x_call (x_cons x_C (x_cons (x_call (x_cons x_C (x_cons (x_call (x_cons (x_var rfl) x_nil) (q_lenR (f := eI))) x_nil)) q_min2) x_nil)) q_max2) x_nil) (q_range1 hx1)) (s_rtoT es13 es13.2)
end
end K12
namespace K12
open PySem Mir
/-! ### curves: what the program's functions tell -/
theorem value_0 {vs : List Int} {p : Nat} {g : Int} : N_value_at_liiii vs p g ((0 : Nat) : Int) = some (Crv.vat vs p g 0) := by
  unfold N_value_at_liiii
  rfl
theorem value_1 {vs : List Int} {p l : Nat} {g : Int} (h0 : ¬ l = 0) (h1 : l ≤ vs.length) : N_value_at_liiii vs p g l = some (Crv.vat vs p g l) := by
  unfold N_value_at_liiii
  rw [if_neg (by simp; omega)]
  rw [if_pos (by simp; omega), Crv.vat_in h0 h1, show (l : Int) - 1 = ((l - 1 : Nat) : Int) by omega, ix_getD 0 (by omega)]
  rfl
theorem value_2 {vs : List Int} {P g L t x : Int} (h0 : ¬ L = 0) (h1 : ¬ L ≤ vs.length) (hp : 0 < P) (hp2 : P < 1000) (ht : (L - vs.length + P - 1) / P = t) (t0 : 0 ≤ t) (t1 : t ≤ 2000000000000000000) (ix : ixN? vs (L - t * P - 1) = some x) : N_value_at_liiii vs P g L = some (x + t * g) := by
  unfold N_value_at_liiii
  rw [if_neg (by simp; omega), if_neg (by simp; omega), div_of hp (by omega)]
  simp only [bnd]
  rw [ht, mul_of (by omega) (by omega)]
  simp only [bnd]
  rw [ix]
  simp only [bnd]
  rw [mul_of (by omega) (by omega)]
  rfl
theorem value_nat {vs : List Int} {p l : Nat} {g : Int} (hp : 0 < p) (hn : p ≤ vs.length) (hp2 : p < 1000) (hl : (l : Int) < 1000000000000000000) : N_value_at_liiii vs p g l = some (Crv.vat vs p g l) := by
  by_cases h0 : l = 0
  · rw [h0]; exact value_0
  · by_cases h1 : l ≤ vs.length
    · exact value_1 h0 h1
    · rw [Crv.vat_out (by omega)]
      obtain ⟨t, ht⟩ : ∃ t : Nat, (l - vs.length + p - 1) / p = t := ⟨_, rfl⟩
      rw [ht]
      have ht2 : ((l : Int) - vs.length + p - 1) / p = (t : Int) := by
        rw [← ht, Int.natCast_ediv]
        congr 1
        omega
      have t1 : t * p ≤ l - vs.length + p - 1 := by rw [← ht]; exact Nat.div_mul_le_self _ _
      have t2 : l - vs.length + p - 1 < t * p + p := by
        have := Nat.lt_div_mul_add (a := l - vs.length + p - 1) hp
        rw [ht] at this
        exact this
      have ts : t ≤ l - vs.length + p - 1 := Nat.le_trans (Nat.le_mul_of_pos_right t hp) t1
      have ix : ixN? vs ((l : Int) - (t : Int) * (p : Int) - 1) = some (vs.getD (l - t * p - 1) 0) := by
        rw [show (l : Int) - (t : Int) * (p : Int) - 1 = ((l - t * p - 1 : Nat) : Int) by rw [← Int.natCast_mul]; omega, ix_getD 0 (by omega)]
      exact value_2 (by omega) (by omega) (by omega) (by omega) ht2 (by omega) (by omega) ix
def growth (vs : List Int) (p q : Nat) (g : Int) : Option Int :=
  if ∀ k, k < 12 → Crv.vat vs p g (vs.length + 1 + k + q) - Crv.vat vs p g (vs.length + 1 + k) = Crv.vat vs p g (vs.length + 1 + q) - Crv.vat vs p g (vs.length + 1) then some (Crv.vat vs p g (vs.length + 1 + q) - Crv.vat vs p g (vs.length + 1)) else none
theorem grows_run {vs : List Int} {p q : Nat} {g : Int} (hp : 0 < p) (hn : p ≤ vs.length) (hp2 : p < 1000) (hq : q < 1000) (hv : vs.length < 10000) : N_grows_by_liiii vs p g q = some (growth vs p q g) := by
  unfold N_grows_by_liiii
  simp only [bnd]
  have c1 : (vs.length : Int) + 1 + q = ((vs.length + 1 + q : Nat) : Int) := by omega
  have c2 : (vs.length : Int) + 1 = ((vs.length + 1 : Nat) : Int) := by omega
  rw [c1, value_nat hp hn hp2 (by omega)]
  simp only [bnd]
  rw [c2, value_nat hp hn hp2 (by omega)]
  simp only [bnd]
  rw [r2_of (by omega) (by omega) (by omega) (by omega)]
  simp only [bnd]
  obtain ⟨w, hw⟩ : ∃ w, Crv.vat vs p g (vs.length + 1 + q) - Crv.vat vs p g (vs.length + 1) = w := ⟨_, rfl⟩
  rw [forL_find (c := fun x : Int => if Crv.vat vs p g (x.toNat + q) - Crv.vat vs p g x.toNat = w then none else some (none : Option Int))]
  · rw [thenL_find]
    unfold growth
    rw [hw]
    by_cases h : ∀ k, k < 12 → Crv.vat vs p g (vs.length + 1 + k + q) - Crv.vat vs p g (vs.length + 1 + k) = w
    · rw [if_pos h]
      have e : (rangeI ((vs.length + 1 : Nat) : Int) (((vs.length + 1 : Nat) : Int) + 12)).findSome? (fun x : Int => if Crv.vat vs p g (x.toNat + q) - Crv.vat vs p g x.toNat = w then none else some (none : Option Int)) = none := by
        rw [List.findSome?_eq_none_iff]
        intro x hx
        rw [mem_rangeI] at hx
        rw [if_pos]
        have := h (x.toNat - (vs.length + 1)) (by omega)
        rw [show vs.length + 1 + (x.toNat - (vs.length + 1)) = x.toNat by omega] at this
        exact this
      rw [e]
    · rw [if_neg h]
      have e : (rangeI ((vs.length + 1 : Nat) : Int) (((vs.length + 1 : Nat) : Int) + 12)).findSome? (fun x : Int => if Crv.vat vs p g (x.toNat + q) - Crv.vat vs p g x.toNat = w then none else some (none : Option Int)) = some none := by
        cases e : (rangeI ((vs.length + 1 : Nat) : Int) (((vs.length + 1 : Nat) : Int) + 12)).findSome? (fun x : Int => if Crv.vat vs p g (x.toNat + q) - Crv.vat vs p g x.toNat = w then none else some (none : Option Int)) with
        | none =>
          refine absurd (fun k hk => ?_) h
          rw [List.findSome?_eq_none_iff] at e
          have := e (((vs.length + 1 + k : Nat)) : Int) (mem_rangeI.mpr ⟨by omega, by omega⟩)
          rw [Int.toNat_natCast] at this
          by_cases hz : Crv.vat vs p g (vs.length + 1 + k + q) - Crv.vat vs p g (vs.length + 1 + k) = w
          · exact hz
          · rw [if_neg hz] at this; cases this
        | some r =>
          obtain ⟨x, hx, hr⟩ := List.exists_of_findSome?_eq_some e
          split at hr
          · cases hr
          · cases hr; rfl
      rw [e]
      rfl
  · intro x hx
    rw [mem_rangeI] at hx
    obtain ⟨l, rfl⟩ : ∃ l : Nat, x = (l : Int) := ⟨x.toNat, by omega⟩
    unfold N_grows_by_liiii_b1
    rw [value_nat hp hn hp2 (by omega)]
    simp only [bnd]
    rw [← Int.natCast_add, value_nat hp hn hp2 (by omega)]
    simp only [bnd, Int.toNat_natCast]
    rw [hw]
    by_cases hz : Crv.vat vs p g (l + q) - Crv.vat vs p g l = w
    · rw [if_neg (by simp [hz]), if_pos hz]
    · rw [if_pos (by simp [hz]), if_neg hz]
/-- a growth that is told holds for ever -/
theorem growth_all {vs : List Int} {p q : Nat} {g w : Int} (hp : 0 < p) (hn : p ≤ vs.length) (hd : p ∣ 12) (h : growth vs p q g = some w) : ∀ l, vs.length < l → Crv.vat vs p g (l + q) = Crv.vat vs p g l + w := by
  unfold growth at h
  split at h
  · rename_i hz
    cases h
    exact Crv.grows_all (Crv.fits_vat hp hn) hd hz
  · cases h
/-- its own period grows -/
theorem growth_own {vs : List Int} {p : Nat} {g : Int} (hp : 0 < p) (hn : p ≤ vs.length) : growth vs p p g = some g := by
  have st : ∀ l, vs.length < l → Crv.vat vs p g (l + p) = Crv.vat vs p g l + g := fun l hl => by
    rw [Crv.vat_step hp hn (show vs.length < l + p by omega), Nat.add_sub_cancel]
  unfold growth
  rw [if_pos]
  · rw [st (vs.length + 1) (by omega)]; congr 1; omega
  · intro k _
    have a := st (vs.length + 1 + k) (by omega)
    have b := st (vs.length + 1) (by omega)
    omega
def per : List Nat := [1, 2, 3, 4, 6, 12]
theorem per_pos {q : Nat} (h : q ∈ per) : 0 < q ∧ q ≤ 12 ∧ q ∣ 12 := by
  unfold per at h
  simp only [List.mem_cons, List.not_mem_nil, or_false] at h
  rcases h with rfl | rfl | rfl | rfl | rfl | rfl <;> decide
/-- the popping -/
theorem form_loop {w : Int} {q : Nat} (f : Nat → Int) (q0 : 0 < q) : ∀ m, q ≤ m → (∀ l, m < l → f l = f (l - q) + w) → ∃ n m', q ≤ m' ∧ (∀ l, m' < l → f l = f (l - q) + w) ∧ m' ≤ m ∧ (m' = q ∨ ¬ f m' = f (m' - q) + w) ∧ whileF (fun s => N_form_of_liii_b1t q w s) (fun s => N_form_of_liii_b1 s) n (Crv.firsts f m) = some (Crv.firsts f m')
  | 0, h, _ => absurd h (by omega)
  | m + 1, h, hI => by
    have test : N_form_of_liii_b1t q w (Crv.firsts f (m + 1)) = some (decide (q < m + 1) && decide (f (m + 1) = f (m + 1 - q) + w)) := by
      unfold N_form_of_liii_b1t
      rw [Crv.firsts_len]
      by_cases hq : q < m + 1
      · rw [if_pos (by simp; omega), ix_last 0 (by rw [Crv.firsts_len]; omega), Crv.firsts_len, Crv.firsts_at f (l := m + 1) (by omega) (by omega)]
        simp only [bnd]
        rw [show (-1 : Int) - (q : Int) = -((q + 1 : Nat) : Int) by omega, ix_neg 0 (by omega) (by rw [Crv.firsts_len]; omega), Crv.firsts_len, show m + 1 - (q + 1) = (m + 1 - q) - 1 by omega, Crv.firsts_at f (l := m + 1 - q) (by omega) (by omega)]
        simp [hq]
      · rw [if_neg (by simp; omega)]
        simp [hq]
    by_cases hz : q < m + 1 ∧ f (m + 1) = f (m + 1 - q) + w
    · obtain ⟨n, m', a1, a2, a3, a5, a4⟩ := form_loop f q0 m (by omega) (fun l hl => by
        by_cases e : l = m + 1
        · rw [e]; exact hz.2
        · exact hI l (by omega))
      refine ⟨n + 1, m', a1, a2, by omega, a5, ?_⟩
      unfold whileF
      rw [test, decide_eq_true hz.1, decide_eq_true hz.2]
      simp only [Bool.and_self, bnd, if_true]
      have pp : N_form_of_liii_b1 (Crv.firsts f (m + 1)) = some (Crv.firsts f m) := by
        unfold N_form_of_liii_b1
        rw [pop_of (by intro z; have := Crv.firsts_len f (m + 1); rw [z] at this; cases this)]
        simp only [bnd]
        congr 1
        unfold Crv.firsts
        rw [List.range_succ, List.map_append]
        simp
      rw [pp]
      exact a4
    · refine ⟨1, m + 1, h, hI, Nat.le_refl _, ?_, ?_⟩
      · by_cases hq : q < m + 1
        · exact .inr fun z => hz ⟨hq, z⟩
        · exact .inl (by omega)
      · unfold whileF
        rw [test]
        have : (decide (q < m + 1) && decide (f (m + 1) = f (m + 1 - q) + w)) = false := by
          rw [Bool.and_eq_false_iff]
          by_cases hq : q < m + 1
          · exact .inr (by simp; exact fun z => hz ⟨hq, z⟩)
          · exact .inl (by simp; omega)
        rw [this]
        rfl
/-- what a form is -/
structure IsForm (f : Nat → Int) (xs : List Int) (q : Nat) (w : Int) : Prop where
  qm : q ∈ per
  fit : Crv.Fits f xs q w
  least : ∀ q', q' ∈ per → q' < q → ∀ w', ¬ ∃ n, ∀ l, n < l → f (l + q') = f l + w'
  short : xs.length = q ∨ ¬ f xs.length = f (xs.length - q) + w
theorem form_run {vs : List Int} {p : Nat} {g : Int} (hm : p ∈ per) (hn : p ≤ vs.length) (hv : vs.length < 5000) : ∃ (m q : Nat) (w : Int), m ≤ vs.length + 12 ∧ IsForm (Crv.vat vs p g) (Crv.firsts (Crv.vat vs p g) m) q w ∧
    N_form_of_liii vs p g = some (Crv.firsts (Crv.vat vs p g) m, (q : Int), w) := by
  obtain ⟨hp, hp12, hd⟩ := per_pos hm
  unfold N_form_of_liii
  have pk : capO (lcO (fun y1 => (N_grows_by_liiii vs p g y1).bind fun x2 => if (x2.isSome) = true then some (some y1) else some none) ([1, 2, 3, 4, 6, 12])) = some ((per.filter fun q => (growth vs p q g).isSome).map fun (q : Nat) => (q : Int)) := by
    have e : ([1, 2, 3, 4, 6, 12] : List Int) = per.map fun (q : Nat) => (q : Int) := rfl
    rw [e, capOF_of (F := fun y : Int => if (growth vs p y.toNat g).isSome = true then some y else none) _ (by decide)]
    · congr 1
      rw [List.filterMap_map]
      have : ∀ l : List Nat, l.filterMap ((fun y : Int => if (growth vs p y.toNat g).isSome = true then some y else none) ∘ fun (q : Nat) => (q : Int)) = (l.filter fun q => (growth vs p q g).isSome).map fun (q : Nat) => (q : Int) := by
        intro l
        induction l with
        | nil => rfl
        | cons a r ih =>
          rw [List.filterMap_cons]
          cases hg : (growth vs p a g).isSome <;> simp [hg, ih]
      exact this per
    · intro x hx
      obtain ⟨q, hq, rfl⟩ := List.mem_map.mp hx
      obtain ⟨q0, q12, _⟩ := per_pos hq
      rw [grows_run hp hn (by omega) (by omega) (by omega)]
      simp only [bnd, Int.toNat_natCast]
      split <;> rfl
  rw [pk]
  simp only [bnd]
  have mem : p ∈ per.filter fun q => (growth vs p q g).isSome := List.mem_filter.mpr ⟨hm, by rw [growth_own hp hn]; rfl⟩
  cases hf : per.filter (fun q => (growth vs p q g).isSome) with
  | nil => rw [hf] at mem; cases mem
  | cons q r =>
    have hq : q ∈ per.filter fun q => (growth vs p q g).isSome := by rw [hf]; exact List.mem_cons_self ..
    obtain ⟨q1, q2⟩ := List.mem_filter.mp hq
    obtain ⟨w, hw⟩ := Option.isSome_iff_exists.mp q2
    obtain ⟨q0, q12, _⟩ := per_pos q1
    have lst : ∀ q', q' ∈ per → q' < q → growth vs p q' g = none := by
      intro q' h1 h2
      cases hg : growth vs p q' g with
      | none => rfl
      | some w' =>
        have : q' ∈ q :: r := by rw [← hf]; exact List.mem_filter.mpr ⟨h1, by rw [hg]; rfl⟩
        have srt : List.Pairwise (· < ·) (q :: r) := by
          rw [← hf]
          refine List.Pairwise.filter _ ?_
          unfold per
          decide
        rcases List.mem_cons.mp this with e | e
        · omega
        · have := (List.pairwise_cons.mp srt).1 q' e
          omega
    rw [show (List.map (fun (q : Nat) => (q : Int)) (q :: r)) = (q : Int) :: r.map fun (q : Nat) => (q : Int) from rfl, show ixN? ((q : Int) :: r.map fun (q : Nat) => (q : Int)) 0 = some (q : Int) from ix_nat (xs := (q : Int) :: r.map fun (q : Nat) => (q : Int)) (j := 0) rfl]
    simp only [bnd]
    rw [grows_run hp hn (by omega) (by omega) (by omega), hw]
    simp only [bnd]
    rw [r2_of (by omega) (by omega) (by omega) (by omega)]
    simp only [bnd]
    rw [capO_of (F := fun x : Int => Crv.vat vs p g x.toNat)]
    · simp only [bnd]
      have fe : (rangeI 1 ((vs.length : Int) + 12 + 1)).map (fun x : Int => Crv.vat vs p g x.toNat) = Crv.firsts (Crv.vat vs p g) (vs.length + 12) := by
        unfold rangeI Crv.firsts
        rw [List.map_map, show ((vs.length : Int) + 12 + 1 - 1).toNat = vs.length + 12 by omega]
        refine List.map_congr_left fun k _ => ?_
        show Crv.vat vs p g (1 + (k : Int)).toNat = _
        congr 1
        omega
      have ga := growth_all hp hn hd hw
      obtain ⟨n, m, m1, m2, m3, m5, lp⟩ := form_loop (w := w) (q := q) (Crv.vat vs p g) q0 (vs.length + 12) (by omega) (fun l hl => by
        have := ga (l - q) (by omega)
        rw [show l - q + q = l by omega] at this
        exact this)
      rw [fe, whileO_of lp]
      refine ⟨m, q, w, m3, ⟨q1, Crv.firsts_fit rfl q0 m1 m2, ?_, ?_⟩, rfl⟩
      · rintro q' h1 h2 w' ⟨n', hn'⟩
        have none' := lst q' h1 h2
        unfold growth at none'
        split at none'
        · cases none'
        · rename_i hbad
          refine hbad ?_
          -- beyond any length the growth is w'; twelve earlier the same
          have up : ∀ m l, vs.length < l → Crv.vat vs p g (l + m * p) = Crv.vat vs p g l + m * g := by
            intro m
            induction m with
            | zero => intro l _; simp
            | succ m ih =>
              intro l hl
              rw [show l + (m + 1) * p = (l + m * p) + p by rw [Nat.succ_mul]; omega, Crv.vat_step hp hn (by omega), Nat.add_sub_cancel, ih l hl, Int.natCast_add, Int.add_mul]
              simp only [Int.natCast_one, Int.one_mul]
              omega
          have all : ∀ l, vs.length < l → Crv.vat vs p g (l + q') - Crv.vat vs p g l = w' := by
            intro l hl
            have a := up (n' + 1) l hl
            have b := up (n' + 1) (l + q') (by omega)
            have c := hn' (l + (n' + 1) * p) (by
              have : n' + 1 ≤ (n' + 1) * p := Nat.le_mul_of_pos_right _ hp
              omega)
            rw [show l + (n' + 1) * p + q' = l + q' + (n' + 1) * p by omega] at c
            omega
          intro k _
          rw [all _ (by omega), all _ (by omega)]
      · rw [Crv.firsts_len]; exact m5
    · rw [rangeI_len]; omega
    · intro x hx
      rw [mem_rangeI] at hx
      obtain ⟨l, rfl⟩ : ∃ l : Nat, x = (l : Int) := ⟨x.toNat, by omega⟩
      rw [value_nat hp hn (by omega) (by omega)]
      rfl
end K12
namespace K12
open PySem Mir
/-! ### the law's look and the program's, at one row -/
def plain : Dat → Bool
  | .non => true
  | .bl _ => true
  | .int _ => true
  | .str _ => true
  | .lst _ => true
  | .tup _ => true
  | .dic _ => true
  | _ => false
def cnt : Dat → Option Int
  | .int i => if 0 ≤ i ∧ i ≤ 2000 then some i else none
  | _ => none
theorem cnt_some {d : Dat} {i : Int} (h : cnt d = some i) : d = .int i ∧ 0 ≤ i ∧ i ≤ 2000 := by
  cases d with
  | int j =>
    unfold cnt at h
    dsimp only at h
    split at h
    · cases h; exact ⟨rfl, by assumption⟩
    · cases h
  | _ => cases h
theorem lcnt_run {d : Dat} (h : plain d = true) : N_l_is_count d = some (cnt d).isSome := by
  cases d with
  | int i =>
    show some (decide (0 ≤ i) && decide (i ≤ 2000)) = some (if 0 ≤ i ∧ i ≤ 2000 then some i else none).isSome
    by_cases hz : 0 ≤ i ∧ i ≤ 2000
    · rw [if_pos hz, decide_eq_true hz.1, decide_eq_true hz.2]; rfl
    · rw [if_neg hz]
      show some (decide (0 ≤ i) && decide (i ≤ 2000)) = some false
      congr 1
      rw [Bool.and_eq_false_iff]
      by_cases h0 : 0 ≤ i
      · exact .inr (decide_eq_false fun z => hz ⟨h0, z⟩)
      · exact .inl (decide_eq_false h0)
  | _ => first | rfl | cases h
theorem pcnt_run {d : Dat} (h : plain d = true) : N_is_count_di d 2000 = some (cnt d).isSome := by
  cases d with
  | int i =>
    by_cases h0 : 0 ≤ i
    · have e1 : cmpB geD (.int i) (.int 0) = some true := by show some (decide (0 ≤ i)) = _; rw [decide_eq_true h0]
      have e : N_is_count_di (.int i) 2000 = some (decide (i ≤ 2000)) := by
        unfold N_is_count_di
        rw [show N_is_integer_d (.int i) = some true from rfl]
        simp only [bnd, if_true]
        rw [show cmpB geD (eD (.int i)) (eI 0) = some true from e1]
        rfl
      rw [e]
      show _ = some (if 0 ≤ i ∧ i ≤ 2000 then some i else none).isSome
      by_cases h1 : i ≤ 2000
      · rw [if_pos ⟨h0, h1⟩, decide_eq_true h1]; rfl
      · rw [if_neg fun z => h1 z.2, decide_eq_false h1]; rfl
    · have e1 : cmpB geD (.int i) (.int 0) = some false := by show some (decide (0 ≤ i)) = _; rw [decide_eq_false h0]
      have e : N_is_count_di (.int i) 2000 = some false := by
        unfold N_is_count_di
        rw [show N_is_integer_d (.int i) = some true from rfl]
        simp only [bnd, if_true]
        rw [show cmpB geD (eD (.int i)) (eI 0) = some false from e1]
        rfl
      rw [e]
      show _ = some (if 0 ≤ i ∧ i ≤ 2000 then some i else none).isSome
      rw [if_neg fun z => h0 z.1]; rfl
  | _ => first | rfl | cases h
/-- the first place where a list is none of counts that rise -/
def fb : List Dat → Int → Nat → Option Nat
  | [], _, _ => none
  | v :: r, b, p => match cnt v with
    | none => some p
    | some i => if i < b then some p else fb r i (p + 1)
theorem due_loop : ∀ (vs : List Dat) (b : Int) (p : Nat), (∀ v, v ∈ vs → plain v = true) → ∃ c, forL (fun (x : (Int × Dat)) (s : Dat) => N_l_due_b1 x.1 x.2 s) (enumN p vs) (eI b) = some (match fb vs b p with | some q => .rt (some ((("value" : Str), (q : Int)))) | none => .nx c)
  | [], b, p, _ => ⟨_, rfl⟩
  | v :: r, b, p, h => by
    have hp := h v (List.mem_cons_self ..)
    unfold enumN forL fb
    cases hc : cnt v with
    | none =>
      have e : N_l_due_b1 (p : Int) v (eI b) = some (.rt (some ((("value" : Str), (p : Int))))) := by
        unfold N_l_due_b1
        rw [lcnt_run hp, hc]
        rfl
      refine ⟨eI b, ?_⟩
      show (N_l_due_b1 (p : Int) v (eI b)).bind _ = _
      rw [e]
      rfl
    | some i =>
      obtain ⟨rfl, i0, i1⟩ := cnt_some hc
      have e : N_l_due_b1 (p : Int) (.int i) (eI b) = some (if i < b then .rt (some ((("value" : Str), (p : Int)))) else .nx (.int i)) := by
        unfold N_l_due_b1
        rw [lcnt_run hp, hc]
        simp only [bnd, Option.isSome_some, Bool.not_true, Bool.false_eq_true, if_false]
        rw [show cmpB ltD (eD (.int i)) (eD (eI b)) = some (decide (i < b)) from rfl]
        simp only [bnd]
        by_cases hz : i < b
        · rw [decide_eq_true hz, if_pos rfl, if_pos hz]
        · rw [decide_eq_false hz, if_neg (by simp), if_neg hz]
      show ∃ c, (N_l_due_b1 (p : Int) (.int i) (eI b)).bind _ = _
      rw [e]
      by_cases hz : i < b
      · refine ⟨eI b, ?_⟩
        simp only [bnd, if_pos hz]
      · simp only [bnd, if_neg hz]
        exact due_loop r i (p + 1) fun u hu => h u (List.mem_cons_of_mem _ hu)
theorem fcat3 {a b c d : Str} (h : a.length + b.length + c.length + d.length ≤ 16777216) : ∃ z, fcat Str.empty [a, b, c, d] = some z := by
  have step : ∀ {acc y : Str} {ys : List Str}, acc.length + y.length ≤ 16777216 → fcat acc (y :: ys) = fcat (acc ++ y) ys := fun {acc y ys} h => by
    show (if (acc ++ y).length ≤ sizeLine then fcat (acc ++ y) ys else none) = _
    rw [if_pos (by rw [Str.length_append]; exact h)]
  have e0 : (Str.empty : Str).length = 0 := by decide
  rw [step (by omega), step (by rw [Str.length_append]; omega), step (by rw [Str.length_append, Str.length_append]; omega), step (by rw [Str.length_append, Str.length_append, Str.length_append]; omega)]
  exact ⟨_, rfl⟩
/-- the words of the problems -/
def words : List Str := ["list", "count", "value", "period", "gain"]
theorem repr_word {s : Str} (h : s ∈ words) : ∃ z, reprS (eS s) = some z ∧ z.length ≤ 100 := by
  unfold words at h
  simp only [List.mem_cons, List.not_mem_nil, or_false] at h
  have r1 : reprS (eS ("list" : Str)) = some ("'list'" : Str) := by decide +kernel
  have r2 : reprS (eS ("count" : Str)) = some ("'count'" : Str) := by decide +kernel
  have r3 : reprS (eS ("value" : Str)) = some ("'value'" : Str) := by decide +kernel
  have r4 : reprS (eS ("period" : Str)) = some ("'period'" : Str) := by decide +kernel
  have r5 : reprS (eS ("gain" : Str)) = some ("'gain'" : Str) := by decide +kernel
  rcases h with rfl | rfl | rfl | rfl | rfl
  · exact ⟨_, r1, by decide +kernel⟩
  · exact ⟨_, r2, by decide +kernel⟩
  · exact ⟨_, r3, by decide +kernel⟩
  · exact ⟨_, r4, by decide +kernel⟩
  · exact ⟨_, r5, by decide +kernel⟩
theorem repr_small {i : Nat} (h : i < 1000) : ∃ z, reprS (eI (i : Int)) = some z ∧ z.length ≤ 100 := by
  have r := rpr_int (i := (i : Int)) (m := 10) (by decide) (by decide) (by omega)
  obtain ⟨z, hz⟩ := repr_of r (by decide) (by decide)
  refine ⟨z, hz, ?_⟩
  obtain ⟨p, a, b, c, e, f⟩ := r
  unfold reprS at hz
  rw [show toPy (eI (i : Int)) = some p from a] at hz
  dsimp only at hz
  unfold showP at hz
  split at hz
  · cases hz; omega
  · cases hz
theorem xi_run {s : Str} {i : Nat} (h : s ∈ words) (hi : i < 1000) : N_xi_InvalidCurve (eS s) (eI (i : Int)) = some [(("position" : Str), eI (i : Int)), (("problem" : Str), eS s)] := by
  obtain ⟨z1, e1, l1⟩ := repr_word h
  obtain ⟨z2, e2, l2⟩ := repr_small hi
  have lw : ("invalid curve: " : Str).length = 15 := by decide +kernel
  have lc : (", " : Str).length = 2 := by decide +kernel
  obtain ⟨z, e⟩ := fcat3 (a := ("invalid curve: " : Str)) (b := z1) (c := (", " : Str)) (d := z2) (by omega)
  unfold N_xi_InvalidCurve
  show (reprS (eS s)).bind _ = _
  rw [e1]; simp only [bnd]
  show (reprS (eI (i : Int))).bind _ = _
  rw [e2]; simp only [bnd]
  rw [e]; simp only [bnd]
/-- the exception -/
def ex (s : Str) (i : Nat) : Exc := (("InvalidCurve" : Str), [(("position" : Str), eI (i : Int)), (("problem" : Str), eS s)])
theorem chk_loop (all : List Dat) : ∀ (vs : List Dat) (b : Int) (p : Nat), all.drop p = vs → (∀ v, v ∈ vs → plain v = true) → 0 ≤ b → (p = 0 → b = 0) → (0 < p → all[p - 1]? = some (.int b)) → all.length < 1000 →
    (foldO (fun (x : (Int × Dat)) (s : Unit) => N_check_values_d_b1 (.lst all) x.1 x.2) (enumN p vs) () = if fb vs b p = none then some () else none) ∧
    forL (fun (x : (Int × Dat)) (s : Unit) => N_check_values_d_x_b1 (.lst all) x.1 x.2) (enumN p vs) () = some (match fb vs b p with | some q => .rt (ex "value" q) | none => .nx ())
  | [], b, p, _, _, _, _, _, _ => ⟨rfl, rfl⟩
  | v :: r, b, p, hd, h, hb, h0, h1, hl => by
    have hp := h v (List.mem_cons_self ..)
    have pl : p < all.length := by
      have := congrArg List.length hd
      rw [List.length_drop, List.length_cons] at this
      omega
    have hv : all[p]? = some v := by
      have := congrArg (fun l => l[0]?) hd
      simpa using this
    have hr : all.drop (p + 1) = r := by
      have := congrArg List.tail hd
      simpa using this
    unfold enumN foldO forL fb
    cases hc : cnt v with
    | none =>
      have e : N_check_values_d_b1 (.lst all) (p : Int) v = none := by
        unfold N_check_values_d_b1
        rw [pcnt_run hp, hc]
        rfl
      have e2 : N_check_values_d_x_b1 (.lst all) (p : Int) v = some (.rt (ex "value" p)) := by
        unfold N_check_values_d_x_b1
        rw [pcnt_run hp, hc]
        simp only [bnd]
        show (N_xi_InvalidCurve (eS ("value" : Str)) (eI (p : Int))).bind _ = _
        rw [xi_run (by decide) (by omega)]
        rfl
      constructor
      · show (N_check_values_d_b1 (.lst all) (p : Int) v).bind _ = _
        rw [e]
        rfl
      · show (N_check_values_d_x_b1 (.lst all) (p : Int) v).bind _ = _
        rw [e2]
        rfl
    | some i =>
      obtain ⟨rfl, i0, i1⟩ := cnt_some hc
      have test : ((if (!(cnt (.int i)).isSome) = true then some true else (if (decide (0 < (p : Int))) = true then (ixD (.lst all) (eI ((p : Int) - 1))).bind fun x7 => (cmpB ltD (eD (.int i)) (eD x7)).bind fun x8 => some x8 else some false).bind fun x9 => some x9) : Option Bool) = some (decide (i < b)) := by
        rw [hc]
        show (if (decide (0 < (p : Int))) = true then (ixD (.lst all) (eI ((p : Int) - 1))).bind fun x7 => (cmpB ltD (eD (.int i)) (eD x7)).bind fun x8 => some x8 else some false).bind (fun x9 => some x9) = _
        by_cases hz : 0 < p
        · rw [if_pos (by simp; omega)]
          have ix : ixD (.lst all) (eI ((p : Int) - 1)) = some (.int b) := by
            show L2.atI all ((p : Int) - 1) = _
            rw [show (p : Int) - 1 = ((p - 1 : Nat) : Int) by omega]
            exact L2.atI_nat (h1 hz)
          rw [ix]
          rfl
        · rw [if_neg (by simp; omega)]
          have : b = 0 := h0 (by omega)
          subst this
          rw [decide_eq_false (by omega)]
          rfl
      obtain ⟨k1, k2⟩ := chk_loop all r i (p + 1) hr (fun u hu => h u (List.mem_cons_of_mem _ hu)) i0 (fun z => by omega) (fun _ => hv) hl
      have e : N_check_values_d_b1 (.lst all) (p : Int) (.int i) = if i < b then none else some () := by
        unfold N_check_values_d_b1
        rw [pcnt_run hp]
        simp only [bnd]
        rw [test]
        simp only [bnd]
        by_cases hz : i < b
        · rw [decide_eq_true hz, if_pos rfl, if_pos hz]
        · rw [decide_eq_false hz, if_neg (by simp), if_neg hz]
      have e2 : N_check_values_d_x_b1 (.lst all) (p : Int) (.int i) = some (if i < b then .rt (ex "value" p) else .nx ()) := by
        unfold N_check_values_d_x_b1
        rw [pcnt_run hp]
        simp only [bnd]
        rw [test]
        simp only [bnd]
        by_cases hz : i < b
        · rw [decide_eq_true hz, if_pos rfl, if_pos hz, xi_run (by decide) (by omega)]
          rfl
        · rw [decide_eq_false hz, if_neg (by simp), if_neg hz]
      constructor
      · show (N_check_values_d_b1 (.lst all) (p : Int) (.int i)).bind _ = _
        rw [e]
        by_cases hz : i < b
        · simp only [if_pos hz]
          rfl
        · simp only [if_neg hz, bnd]
          exact k1
      · show (N_check_values_d_x_b1 (.lst all) (p : Int) (.int i)).bind _ = _
        rw [e2]
        by_cases hz : i < b
        · simp only [if_pos hz, bnd]
        · simp only [if_neg hz, bnd]
          exact k2
end K12
namespace K12
open PySem Mir
theorem map_inj {α : Type} {f : α → Dat} (hf : ∀ x y, f x = f y → x = y) : ∀ xs ys : List α, xs.map f = ys.map f → xs = ys
  | [], [], _ => rfl
  | [], y :: ys, h => by cases h
  | x :: xs, [], h => by cases h
  | x :: xs, y :: ys, h => by
    rw [List.map_cons, List.map_cons] at h
    injection h with h1 h2
    rw [hf _ _ h1, map_inj hf _ _ h2]
theorem eL_inj {α : Type} {f : α → Dat} (hf : ∀ x y, f x = f y → x = y) : ∀ x y, eL f x = eL f y → x = y := fun x y h => by
  injection h with h
  exact map_inj hf _ _ h
theorem eI_inj : ∀ x y, eI x = eI y → x = y := fun x y h => by injection h
theorem eD_inj : ∀ x y, eD x = eD y → x = y := fun x y h => h
theorem eL_D (vs : List Dat) : eL eD vs = .lst vs := congrArg Dat.lst (List.map_id _)
theorem decL (vs : List Dat) : decOf (eL eD) (.lst vs) = some vs := by
  rw [← eL_D]; exact decOf_enc (eL_inj eD_inj) vs
theorem decLI (ns : List Int) : decOf (eL eI) (.lst (ns.map eI)) = some ns := decOf_enc (f := eL eI) (eL_inj eI_inj) ns
theorem decI (i : Int) : decOf eI (.int i) = some i := decOf_enc (f := eI) eI_inj i
theorem fb_none : ∀ {vs : List Dat} {b : Int} {p : Nat}, fb vs b p = none → ∃ ns : List Int, vs = ns.map eI ∧ ∀ n, n ∈ ns → 0 ≤ n ∧ n ≤ 2000
  | [], _, _, _ => ⟨[], rfl, fun n h => by cases h⟩
  | v :: r, b, p, h => by
    unfold fb at h
    cases hc : cnt v with
    | none => rw [hc] at h; cases h
    | some i =>
      rw [hc] at h
      dsimp only at h
      split at h
      · cases h
      · obtain ⟨ns, rfl, q⟩ := fb_none h
        obtain ⟨rfl, i0, i1⟩ := cnt_some hc
        exact ⟨i :: ns, rfl, fun n hn => by
          rcases List.mem_cons.mp hn with rfl | hn
          · exact ⟨i0, i1⟩
          · exact q n hn⟩
/-- a period that is right -/
def perB (c : Dat) (n : Nat) : Option Nat := match c with
  | .int i => if i.toNat ∈ per ∧ 0 ≤ i ∧ i.toNat ≤ n then some i.toNat else none
  | _ => none
theorem perB_some {c : Dat} {n p : Nat} (h : perB c n = some p) : c = .int (p : Int) ∧ p ∈ per ∧ p ≤ n := by
  cases c with
  | int i =>
    unfold perB at h
    dsimp only at h
    split at h
    · rename_i z
      cases h
      exact ⟨by congr 1; omega, z.1, z.2.2⟩
    · cases h
  | _ => cases h
def gainB (m : Dat) (ns : List Int) (p : Nat) : Bool := match cnt m with
  | none => false
  | some g => !decide (ns.getD (ns.length - p) 0 + g < ns.getD (ns.length - 1) 0)
def nats (vs : List Dat) : List Int := vs.map fun v => match v with
  | .int i => i
  | _ => 0
theorem nats_ints (ns : List Int) : nats (ns.map eI) = ns := by
  unfold nats
  rw [List.map_map]
  exact List.map_id _
/-- the first problem, by both looks -/
def due (D c m : Dat) : Option (Str × Nat) := match D with
  | .lst vs => if vs.length < 1 ∨ 24 < vs.length then some ("count", 0) else match fb vs 0 0 with
    | some q => some ("value", q)
    | none => match perB c vs.length with
      | none => some ("period", 0)
      | some p => if gainB m (nats vs) p = true then none else some ("gain", 0)
  | _ => some ("list", 0)
def dueI (D c m : Dat) : Option (Str × Int) := (due D c m).map fun x => (x.1, (x.2 : Int))
def inPer (c : Dat) : Bool := match c with
  | .int i => decide (i ∈ ([1, 2, 3, 4, 6, 12] : List Int))
  | _ => false
theorem perB_of {c : Dat} {n : Nat} : perB c n = match c with | .int i => if inPer c = true ∧ ¬ (n : Int) < i then some i.toNat else none | _ => none := by
  cases c with
  | int i =>
    show (if i.toNat ∈ per ∧ 0 ≤ i ∧ i.toNat ≤ n then some i.toNat else none) = if inPer (.int i) = true ∧ ¬ (n : Int) < i then some i.toNat else none
    have e : (inPer (.int i) = true ∧ ¬ (n : Int) < i) ↔ (i.toNat ∈ per ∧ 0 ≤ i ∧ i.toNat ≤ n) := by
      show (decide (i ∈ ([1, 2, 3, 4, 6, 12] : List Int)) = true ∧ _) ↔ _
      rw [decide_eq_true_eq]
      unfold per
      simp only [List.mem_cons, List.not_mem_nil, or_false]
      omega
    by_cases hz : i.toNat ∈ per ∧ 0 ≤ i ∧ i.toNat ≤ n
    · rw [if_pos hz, if_pos (e.mpr hz)]
    · rw [if_neg hz, if_neg fun z => hz (e.mp z)]
  | _ => rfl
theorem perL_run {i : Int} : ((capO (lcO (fun y20 => (eqB (eI y20) (eD (.int i))).bind fun x21 => if x21 = true then some (some y20) else some none) ([1, 2, 3, 4, 6, 12]))).bind fun x22 => (eqB ((eL eI) x22) ((eL eI) (([] : List Int)))).bind fun x23 => some x23) = some (!inPer (.int i)) := by
  rw [capOF_of (F := fun y : Int => if y = i then some y else none) _ (by decide)]
  · simp only [bnd]
    by_cases h : i ∈ ([1, 2, 3, 4, 6, 12] : List Int)
    · have h' := h
      simp only [List.mem_cons, List.not_mem_nil, or_false] at h'
      rcases h' with rfl | rfl | rfl | rfl | rfl | rfl <;> decide
    · have e : ([1, 2, 3, 4, 6, 12] : List Int).filterMap (fun y : Int => if y = i then some y else none) = [] := by
        rw [List.filterMap_eq_nil_iff]
        intro y hy
        rw [if_neg]
        intro z
        exact h (z ▸ hy)
      rw [e]
      show (eqB (.lst []) (.lst [])).bind _ = some (!decide _)
      rw [decide_eq_false h]
      rfl
  · intro y hy
    show ((some (decide (y = i))).bind _) = _
    simp only [bnd]
    by_cases hz : y = i
    · rw [if_pos (decide_eq_true hz), if_pos hz]
    · rw [if_neg (by simp [hz]), if_neg hz]
theorem flat_ints : ∀ xs : List Int, flatAll (xs.map eI) = some (xs.map L2.V.int)
  | [] => rfl
  | x :: xs => by
    rw [List.map_cons, flatAll, flat_ints xs]
    rfl
theorem inV_ints (p : Int) (xs : List Int) : L2.inV (.int p) (xs.map L2.V.int) = decide (p ∈ xs) := by
  unfold L2.inV
  rw [List.any_map]
  induction xs with
  | nil => rfl
  | cons x xs ih =>
    rw [List.any_cons, ih]
    have e : L2.eqV (.int x) (.int p) = decide (x = p) := rfl
    show (L2.eqV (.int x) (.int p) || _) = _
    rw [e]
    by_cases h : x = p
    · subst h; simp
    · have h' : ¬ p = x := fun z => h z.symm
      simp [h, h']
theorem in_tk (p : Int) (tk : List Int) : inB (eI p) (eT eI tk) = some (decide (p ∈ tk)) := by
  show (flatAll (tk.map eI)).map (fun vs => L2.inV (.int p) vs) = _
  rw [flat_ints]
  show some (L2.inV (.int p) (tk.map L2.V.int)) = _
  rw [inV_ints]
/-! ### the law's look -/
theorem last_ix {ns : List Int} (h : 0 < ns.length) : ixD (.lst (ns.map eI)) (eI (-1)) = some (eI (ns.getD (ns.length - 1) 0)) := q_ix (f := eI) (xs := ns) (ix_last 0 h)
theorem due_run {D c m : Dat} (hD : plain D = true) (hc : plain c = true) (hm : plain m = true) (hv : ∀ vs, D = .lst vs → ∀ v, v ∈ vs → plain v = true) : N_l_due [D, c, m] = some (dueI D c m) := by
  unfold N_l_due
  rw [show un3N [D, c, m] = some (D, c, m) from rfl]
  simp only [bnd]
  cases D with
  | lst vs =>
    have hv := hv vs rfl
    show ((some true).bind _) = _
    simp only [bnd, Bool.not_true, Bool.false_eq_true, if_false]
    rw [show lenB (.lst vs) = some (vs.length : Int) from rfl]
    simp only [bnd]
    have t1 : (if (decide ((vs.length : Int) < 1)) = true then some true else some (decide (24 < (vs.length : Int)))) = some (decide (vs.length < 1 ∨ 24 < vs.length)) := by
      by_cases h1 : vs.length < 1
      · rw [if_pos (by simp; omega), decide_eq_true (.inl h1)]
      · rw [if_neg (by simp; omega)]
        by_cases h2 : 24 < vs.length
        · rw [decide_eq_true (by omega), decide_eq_true (.inr h2)]
        · rw [decide_eq_false (by omega), decide_eq_false (by omega)]
    rw [t1]
    simp only [bnd]
    by_cases hz : vs.length < 1 ∨ 24 < vs.length
    · rw [decide_eq_true hz, if_pos rfl]
      unfold dueI due
      dsimp only
      rw [if_pos hz]
      rfl
    · rw [decide_eq_false hz, if_neg (by simp), decL]
      simp only [bnd]
      obtain ⟨cc, hl⟩ := due_loop vs 0 0 hv
      rw [hl]
      unfold dueI due
      dsimp only
      rw [if_neg hz]
      cases hf : fb vs 0 0 with
      | some q => rfl
      | none =>
        obtain ⟨ns, rfl, hns⟩ := fb_none hf
        have len : (ns.map eI).length = ns.length := List.length_map _
        rw [len] at hz
        have n0 : 0 < ns.length := by omega
        rw [len]
        unfold thenL
        simp only [bnd]
        have pt : ∀ (k : Bool → Option (Option (Str × Int))), (((isiB [("NoneType", false), ("bool", true), ("int", true), ("str", false), ("list", false), ("tuple", false), ("dict", false)] [("Curve", false)] c).bind fun x18 => (if (!x18) = true then some true else (isiB [("NoneType", false), ("bool", true), ("int", false), ("str", false), ("list", false), ("tuple", false), ("dict", false)] [("Curve", false)] c).bind fun x19 => (if x19 = true then some true else (capO (lcO (fun y20 => (eqB (eI y20) (eD c)).bind fun x21 => if x21 = true then some (some y20) else some none) ([1, 2, 3, 4, 6, 12]))).bind fun x22 => (eqB ((eL eI) x22) ((eL eI) (([] : List Int)))).bind fun x23 => some x23).bind fun x24 => some x24).bind k)) = k (!inPer c) := by
          intro k
          cases c with
          | int i =>
            show (Option.bind (Option.bind ((capO (lcO (fun y20 => (eqB (eI y20) (eD (.int i))).bind fun x21 => if x21 = true then some (some y20) else some none) ([1, 2, 3, 4, 6, 12]))).bind fun x22 => (eqB ((eL eI) x22) ((eL eI) (([] : List Int)))).bind fun x23 => some x23) (fun x => some x)) k) = _
            rw [perL_run]
            rfl
          | _ => first | rfl | cases hc
        rw [pt]
        rw [perB_of]
        by_cases hp : inPer c = true
        · obtain ⟨i, rfl⟩ : ∃ i, c = .int i := by
            cases c with
            | int i => exact ⟨i, rfl⟩
            | _ => cases hp
          rw [hp]
          simp only [Bool.not_true, Bool.false_eq_true, if_false, true_and]
          rw [show cmpB gtD (eD (.int i)) (eI (ns.length : Int)) = some (decide ((ns.length : Int) < i)) from rfl]
          simp only [bnd]
          by_cases hi : (ns.length : Int) < i
          · rw [decide_eq_true hi, if_pos rfl, if_neg (fun z => z hi)]
            rfl
          · rw [decide_eq_false hi, if_neg (by simp), if_pos hi]
            have i1 : 1 ≤ i := by
              have : i ∈ ([1, 2, 3, 4, 6, 12] : List Int) := of_decide_eq_true hp
              simp only [List.mem_cons, List.not_mem_nil, or_false] at this
              omega
            rw [lcnt_run hm]
            simp only [bnd]
            rw [nats_ints]
            cases hg : cnt m with
            | none =>
              have gb : gainB m ns i.toNat = false := by unfold gainB; rw [hg]
              rw [gb]
              rfl
            | some g =>
              obtain ⟨rfl, g0, g1⟩ := cnt_some hg
              have gb : gainB (.int g) ns i.toNat = !decide (ns.getD (ns.length - i.toNat) 0 + g < ns.getD (ns.length - 1) 0) := by unfold gainB; rw [hg]
              rw [gb]
              simp only [Option.isSome_some, Bool.not_true, Bool.false_eq_true, if_false]
              rw [show asL (.lst (ns.map eI)) = some (ns.map eI) from rfl]
              simp only [bnd]
              rw [cat_of (by rw [List.length_map, List.length_map]; simp; omega)]
              simp only [bnd]
              rw [show asI (.int i) = some i from rfl, show asI (.int g) = some g from rfl]
              simp only [bnd]
              have ix : ixN? (([0] : List Int).map eI ++ ns.map eI) (((ns.length : Int) + 1) - i) = some (eI (ns.getD (ns.length - i.toNat) 0)) := by
                rw [← List.map_append, show ((ns.length : Int) + 1) - i = ((ns.length + 1 - i.toNat : Nat) : Int) by omega]
                refine ix_nat ?_
                rw [List.getElem?_map, show ns.length + 1 - i.toNat = (ns.length - i.toNat) + 1 by omega]
                show (ns[ns.length - i.toNat]?).map eI = _
                rw [List.getD_eq_getElem?_getD, List.getElem?_eq_getElem (by omega)]
                rfl
              rw [ix]
              simp only [bnd]
              rw [show asI (eI (ns.getD (ns.length - i.toNat) 0)) = some (ns.getD (ns.length - i.toNat) 0) from rfl]
              simp only [bnd]
              rw [last_ix n0]
              simp only [bnd]
              rw [show cmpB ltD (eI (ns.getD (ns.length - i.toNat) 0 + g)) (eD (eI (ns.getD (ns.length - 1) 0))) = some (decide (ns.getD (ns.length - i.toNat) 0 + g < ns.getD (ns.length - 1) 0)) from rfl]
              simp only [bnd]
              by_cases hl : ns.getD (ns.length - i.toNat) 0 + g < ns.getD (ns.length - 1) 0
              · rw [decide_eq_true hl]; rfl
              · rw [decide_eq_false hl]; rfl
        · have hp' : inPer c = false := by simpa using hp
          rw [hp']
          have e : (match c with | .int i => if False ∧ ¬ (ns.length : Int) < i then some i.toNat else none | _ => none : Option Nat) = none := by
            cases c <;> simp
          cases c with
          | int i =>
            show some (some ((("period" : Str), (0 : Int)))) = _
            simp
          | _ => rfl
  | _ => first | rfl | cases hD
end K12
namespace K12
open PySem Mir
/-! ### the program's checks -/
theorem cv_list {D : Dat} (hD : plain D = true) (h : ∀ vs, D ≠ .lst vs) : N_check_values_d D = none ∧ N_check_values_d_x D = some (ex "list" 0) := by
  have hx : N_xi_InvalidCurve (eS ("list" : Str)) (eI 0) = some [(("position" : Str), eI 0), (("problem" : Str), eS "list")] := xi_run (i := 0) (by decide) (by decide)
  have key : isiB [("NoneType", false), ("bool", false), ("int", false), ("str", false), ("list", true), ("tuple", false), ("dict", false)] [("Curve", false)] D = some false := by
    cases D with
    | lst vs => exact absurd rfl (h vs)
    | _ => first | rfl | cases hD
  unfold N_check_values_d N_check_values_d_x
  rw [key]
  simp only [bnd, Bool.not_false, if_true]
  rw [hx]
  exact ⟨by trivial, rfl⟩
theorem cv_len (vs : List Dat) : (!(decide (1 ≤ (vs.length : Int)) && decide ((vs.length : Int) ≤ 24))) = decide (vs.length < 1 ∨ 24 < vs.length) := by
  have e1 : decide (1 ≤ (vs.length : Int)) = !decide (vs.length < 1) := by
    by_cases h1 : vs.length < 1
    · rw [decide_eq_true h1, decide_eq_false (by omega)]; rfl
    · rw [decide_eq_false h1, decide_eq_true (by omega)]; rfl
  have e2 : decide ((vs.length : Int) ≤ 24) = !decide (24 < vs.length) := by
    by_cases h1 : 24 < vs.length
    · rw [decide_eq_true h1, decide_eq_false (by omega)]; rfl
    · rw [decide_eq_false h1, decide_eq_true (by omega)]; rfl
  rw [e1, e2]
  by_cases h1 : vs.length < 1 <;> by_cases h2 : 24 < vs.length <;> simp [h1, h2]
theorem cv_count {vs : List Dat} (h : vs.length < 1 ∨ 24 < vs.length) : N_check_values_d (.lst vs) = none ∧ N_check_values_d_x (.lst vs) = some (ex "count" 0) := by
  have hx : N_xi_InvalidCurve (eS ("count" : Str)) (eI 0) = some [(("position" : Str), eI 0), (("problem" : Str), eS "count")] := xi_run (i := 0) (by decide) (by decide)
  have key : isiB [("NoneType", false), ("bool", false), ("int", false), ("str", false), ("list", true), ("tuple", false), ("dict", false)] [("Curve", false)] (.lst vs) = some true := rfl
  unfold N_check_values_d N_check_values_d_x
  rw [key]
  simp only [bnd, Bool.not_true, Bool.false_eq_true, if_false]
  rw [show lenB (.lst vs) = some (vs.length : Int) from rfl]
  simp only [bnd]
  rw [cv_len, decide_eq_true h, if_pos rfl, if_pos rfl, hx]
  exact ⟨rfl, rfl⟩
theorem cv_rest {vs : List Dat} (h : ¬ (vs.length < 1 ∨ 24 < vs.length)) (hv : ∀ v, v ∈ vs → plain v = true) : N_check_values_d (.lst vs) = (if fb vs 0 0 = none then some () else none) ∧ N_check_values_d_x (.lst vs) = (fb vs 0 0).map (ex "value") := by
  have key : isiB [("NoneType", false), ("bool", false), ("int", false), ("str", false), ("list", true), ("tuple", false), ("dict", false)] [("Curve", false)] (.lst vs) = some true := rfl
  obtain ⟨k1, k2⟩ := chk_loop vs vs 0 0 rfl hv (by decide) (fun _ => rfl) (fun z => absurd z (by decide)) (by omega)
  unfold N_check_values_d N_check_values_d_x
  rw [key]
  simp only [bnd, Bool.not_true, Bool.false_eq_true, if_false]
  rw [show lenB (.lst vs) = some (vs.length : Int) from rfl]
  simp only [bnd]
  rw [cv_len, decide_eq_false h, if_neg (show ¬ (false = true) by simp), if_neg (show ¬ (false = true) by simp), decL]
  simp only [bnd]
  rw [k1, k2]
  constructor
  · split <;> rfl
  · cases fb vs 0 0 with
    | none => rfl
    | some q => rfl
theorem pp_run {c : Dat} {ns : List Int} (hc : plain c = true) {τ : Type} (k : Bool → Option τ) : ((N_is_integer_d c).bind fun x1 => (if (!x1) = true then some true else (inB (eD c) ((eT eI) ([1, 2, 3, 4, 6, 12]))).bind fun x2 => (if (!x2) = true then some true else (lenB (.lst (ns.map eI))).bind fun x3 => (cmpB gtD (eD c) (eI x3)).bind fun x4 => some x4).bind fun x5 => some x5).bind k) = k (decide (perB c ns.length = none)) := by
  cases c with
  | int i =>
    rw [show N_is_integer_d (.int i) = some true from rfl]
    simp only [bnd, Bool.not_true, Bool.false_eq_true, if_false]
    rw [show inB (eD (.int i)) (eT eI [1, 2, 3, 4, 6, 12]) = some (decide (i ∈ ([1, 2, 3, 4, 6, 12] : List Int))) from in_tk i _]
    simp only [bnd]
    rw [perB_of]
    dsimp only
    rw [show inPer (.int i) = decide (i ∈ ([1, 2, 3, 4, 6, 12] : List Int)) from rfl]
    have len : lenB (.lst (ns.map eI)) = some (ns.length : Int) := by show some (((ns.map eI).length : Int)) = _; rw [List.length_map]
    by_cases hp : i ∈ ([1, 2, 3, 4, 6, 12] : List Int)
    · rw [decide_eq_true hp]
      simp only [Bool.not_true, Bool.false_eq_true, if_false, true_and]
      rw [len]
      simp only [bnd]
      rw [show cmpB gtD (eD (.int i)) (eI (ns.length : Int)) = some (decide ((ns.length : Int) < i)) from rfl]
      simp only [bnd]
      congr 1
      by_cases hi : (ns.length : Int) < i
      · rw [decide_eq_true hi, if_neg fun z => z hi]; rfl
      · rw [decide_eq_false hi, if_pos hi]; rfl
    · rw [decide_eq_false hp]
      simp only [Bool.not_false, if_true, bnd]
      congr 1
  | _ => first | rfl | cases hc
theorem vat_next {ns : List Int} {p : Nat} {g : Int} (hp : 0 < p) (hn : p ≤ ns.length) : Crv.vat ns p g (ns.length + 1) = ns.getD (ns.length - p) 0 + g := by
  rw [Crv.vat_step hp hn (by omega), Crv.vat_in (by omega) (by omega)]
  congr 2
  omega
theorem gg_run {m : Dat} {ns : List Int} {p : Nat} (hm : plain m = true) (hp : p ∈ per) (hn : p ≤ ns.length) (hl : ns.length < 1000) {τ : Type} (k : Bool → Option τ) : ((N_is_count_di m 2000).bind fun x7 => (if (!x7) = true then some true else (decOf (eL eI) (.lst (ns.map eI))).bind fun k8 => (decOf eI (.int (p : Int))).bind fun k9 => (decOf eI m).bind fun k10 => (lenB (.lst (ns.map eI))).bind fun x11 => (N_value_at_liiii k8 k9 k10 (x11 + 1)).bind fun x12 => (ixD (.lst (ns.map eI)) (eI (-1))).bind fun x13 => (cmpB ltD (eI x12) (eD x13)).bind fun x14 => some x14).bind k) = k (!gainB m ns p) := by
  rw [pcnt_run hm]
  simp only [bnd]
  cases hg : cnt m with
  | none =>
    have gb : gainB m ns p = false := by unfold gainB; rw [hg]
    rw [gb]
    rfl
  | some g =>
    obtain ⟨rfl, g0, g1⟩ := cnt_some hg
    have gb : gainB (.int g) ns p = !decide (ns.getD (ns.length - p) 0 + g < ns.getD (ns.length - 1) 0) := by unfold gainB; rw [hg]
    rw [gb]
    obtain ⟨p0, p12, pd⟩ := per_pos hp
    simp only [Option.isSome_some, Bool.not_true, Bool.false_eq_true, if_false]
    rw [decLI, decI, decI]
    simp only [bnd]
    rw [show lenB (.lst (ns.map eI)) = some (ns.length : Int) from by show some (((ns.map eI).length : Int)) = _; rw [List.length_map]]
    simp only [bnd]
    rw [show (ns.length : Int) + 1 = ((ns.length + 1 : Nat) : Int) by omega, value_nat p0 hn (by omega) (by omega), vat_next p0 hn]
    simp only [bnd]
    rw [last_ix (by omega)]
    simp only [bnd]
    rw [show cmpB ltD (eI (ns.getD (ns.length - p) 0 + g)) (eD (eI (ns.getD (ns.length - 1) 0))) = some (decide (ns.getD (ns.length - p) 0 + g < ns.getD (ns.length - 1) 0)) from rfl]
    simp only [bnd, Bool.not_not]
theorem cg_run {c m : Dat} {ns : List Int} (hc : plain c = true) (hm : plain m = true) (hl : ns.length < 1000) :
    N_check_growth_ddd (.lst (ns.map eI)) c m = (match perB c ns.length with | none => none | some p => if gainB m ns p = true then some () else none) ∧
    N_check_growth_ddd_x (.lst (ns.map eI)) c m = (match perB c ns.length with | none => some (ex "period" 0) | some p => if gainB m ns p = true then none else some (ex "gain" 0)) := by
  have h1 : N_xi_InvalidCurve (eS ("period" : Str)) (eI 0) = some [(("position" : Str), eI 0), (("problem" : Str), eS "period")] := xi_run (i := 0) (by decide) (by decide)
  have h2 : N_xi_InvalidCurve (eS ("gain" : Str)) (eI 0) = some [(("position" : Str), eI 0), (("problem" : Str), eS "gain")] := xi_run (i := 0) (by decide) (by decide)
  unfold N_check_growth_ddd N_check_growth_ddd_x
  rw [pp_run hc, pp_run hc]
  cases hp : perB c ns.length with
  | none =>
    rw [decide_eq_true rfl, if_pos rfl, if_pos rfl, h1]
    constructor <;> first | rfl | trivial
  | some p =>
    obtain ⟨rfl, p1, p2⟩ := perB_some hp
    rw [decide_eq_false (by simp), if_neg (show ¬ (false = true) by simp), if_neg (show ¬ (false = true) by simp), gg_run hm p1 p2 hl, gg_run hm p1 p2 hl]
    dsimp only
    cases hg : gainB m ns p with
    | true => exact ⟨rfl, rfl⟩
    | false =>
      simp only [Bool.not_false, if_true, Bool.false_eq_true, if_false]
      rw [h2]
      constructor <;> first | rfl | trivial
theorem init_run {D c m : Dat} (hD : plain D = true) (hc : plain c = true) (hm : plain m = true) (hv : ∀ vs, D = .lst vs → ∀ v, v ∈ vs → plain v = true) :
    match due D c m with
    | none => ∃ v, N_Curve_init0_ddd D c m = some v
    | some (s, i) => N_Curve_init0_ddd D c m = none ∧ N_Curve_init0_ddd_x D c m = some (ex s i) := by
  have bad : ∀ {s : Str} {i : Nat}, N_check_values_d D = none ∧ N_check_values_d_x D = some (ex s i) → N_Curve_init0_ddd D c m = none ∧ N_Curve_init0_ddd_x D c m = some (ex s i) := by
    rintro s i ⟨a, b⟩
    unfold N_Curve_init0_ddd N_Curve_init0_ddd_x
    rw [a, b]
    exact ⟨rfl, rfl⟩
  by_cases hl : ∃ vs, D = .lst vs
  · obtain ⟨vs, rfl⟩ := hl
    have hv := hv vs rfl
    unfold due
    dsimp only
    by_cases hz : vs.length < 1 ∨ 24 < vs.length
    · rw [if_pos hz]
      exact bad (cv_count hz)
    · rw [if_neg hz]
      obtain ⟨a, b⟩ := cv_rest hz hv
      cases hf : fb vs 0 0 with
      | some q =>
        rw [hf] at a b
        exact bad ⟨a, b⟩
      | none =>
        rw [hf] at a b
        rw [if_pos rfl] at a
        obtain ⟨ns, rfl, hns⟩ := fb_none hf
        rw [List.length_map] at hz
        obtain ⟨e1, e2⟩ := cg_run (ns := ns) hc hm (by omega)
        rw [List.length_map, nats_ints]
        unfold N_Curve_init0_ddd N_Curve_init0_ddd_x
        rw [a, b]
        simp only [bnd, Option.map_none, orX]
        rw [e1, e2]
        cases hp : perB c ns.length with
        | none => exact ⟨rfl, rfl⟩
        | some p =>
          dsimp only
          by_cases hg : gainB m ns p = true
          · rw [hg]
            simp only [if_true]
            obtain ⟨rfl, p1, p2⟩ := perB_some hp
            obtain ⟨g, hgm⟩ : ∃ g, cnt m = some g := by
              unfold gainB at hg
              cases hgm : cnt m with
              | none => rw [hgm] at hg; cases hg
              | some g => exact ⟨g, rfl⟩
            obtain ⟨rfl, _, _⟩ := cnt_some hgm
            rw [decLI, decI, decI]
            simp only [bnd]
            obtain ⟨mm, q, w, _, _, e⟩ := form_run (vs := ns) (g := g) p1 p2 (by omega)
            rw [e]
            exact ⟨_, rfl⟩
          · have hg' : gainB m ns p = false := by simpa using hg
            rw [hg']
            exact ⟨rfl, rfl⟩
  · have nl : ∀ vs, D ≠ .lst vs := fun vs z => hl ⟨vs, z⟩
    have e : due D c m = some (("list" : Str), 0) := by
      unfold due
      cases D with
      | lst vs => exact absurd rfl (nl vs)
      | _ => rfl
    rw [e]
    exact bad (cv_list hD nl)
theorem told_run {D c m : Dat} (hD : plain D = true) (hc : plain c = true) (hm : plain m = true) (hv : ∀ vs, D = .lst vs → ∀ v, v ∈ vs → plain v = true) : N_l_told [D, c, m] = some ((eO (e2 eS eI)) (dueI D c m)) := by
  have h := init_run hD hc hm hv
  have i0 : ixN? [D, c, m] 0 = some D := ix_nat (j := 0) rfl
  have i1 : ixN? [D, c, m] 1 = some c := ix_nat (j := 1) rfl
  have i2 : ixN? [D, c, m] 2 = some m := ix_nat (j := 2) rfl
  unfold dueI
  unfold N_l_told N_l_told_t1 N_l_told_t1x
  rw [i0, i1, i2]
  simp only [bnd]
  cases hd : due D c m with
  | none =>
    rw [hd] at h
    obtain ⟨v, e⟩ := h
    rw [e]
    rfl
  | some x =>
    obtain ⟨s, i⟩ := x
    rw [hd] at h
    obtain ⟨e1, e2⟩ := h
    rw [e1, e2]
    rfl
end K12
namespace K12
open PySem Mir
/-! ### the values of a row, and where it stands -/
def oth : List Dat := [eB true, eB false, eU (), eS ("1" : Str), (e1 eI) 1, (eL eI) [1], Dat.dic [], eS ("0" : Str), (e1 eI) 0, (eL eI) ([] : List Int)]
def Okv (B : Nat) (d : Dat) : Prop := (∃ i, d = .int i ∧ i.natAbs ≤ B) ∨ d ∈ oth
theorem Okv.up {B B' : Nat} {d : Dat} (h : Okv B d) (hb : B ≤ B') : Okv B' d := by
  rcases h with ⟨i, e, hi⟩ | h
  · exact .inl ⟨i, e, Nat.le_trans hi hb⟩
  · exact .inr h
theorem okv_i {B : Nat} {i : Int} (h : i.natAbs ≤ B) : Okv B (eI i) := .inl ⟨i, rfl, h⟩
theorem okv_plain {B : Nat} {d : Dat} (h : Okv B d) : plain d = true := by
  rcases h with ⟨i, rfl, _⟩ | h
  · rfl
  · unfold oth at h
    simp only [List.mem_cons, List.not_mem_nil, or_false] at h
    rcases h with rfl | rfl | rfl | rfl | rfl | rfl | rfl | rfl | rfl | rfl <;> rfl
theorem plain_look {d : Dat} (h : plain d = true) (T : Ths) : look1 T d = d := by
  cases d <;> first | rfl | cases h
theorem okv_re {B : Nat} {d : Dat} (h : Okv B d) (hb : B < 10 ^ 24) : RpE d 2 100 := by
  rcases h with ⟨i, rfl, hi⟩ | h
  · exact (rpe_int (i := i) (m := 24) (by decide) (by decide) (by omega)).up (by decide) (by decide)
  · unfold oth at h
    simp only [List.mem_cons, List.not_mem_nil, or_false] at h
    rcases h with rfl | rfl | rfl | rfl | rfl | rfl | rfl | rfl | rfl | rfl <;>
      exact ⟨_, rfl, by decide +kernel, by decide +kernel, by decide +kernel⟩
def dic3 : Dat := .dic [(.inl 0, .int 0), (.inl 1, .int 1), (.inl 2, .int 2)]
def odd0 : List Dat := [eU (), eS ("1,2" : Str), eI 5, dic3, eB true]
def LOk (B : Nat) (vs : List Dat) : Prop := vs.length ≤ 25 ∧ ∀ v, v ∈ vs → Okv B v
def DOk (B : Nat) (D : Dat) : Prop := (∃ vs, D = .tup vs ∧ LOk B vs) ∨ D ∈ odd0
theorem LOk.up {B B' : Nat} {vs : List Dat} (h : LOk B vs) (hb : B ≤ B') : LOk B' vs := ⟨h.1, fun v hv => (h.2 v hv).up hb⟩
theorem LOk.re {B : Nat} {vs : List Dat} (h : LOk B vs) (hb : B < 10 ^ 24) : RpEL vs 2 2550 := (rpe_all vs fun v hv => okv_re (h.2 v hv) hb).up (Nat.le_refl _) (by have := h.1; omega)
theorem dok_plain {B : Nat} {D : Dat} (h : DOk B D) : plain D = true ∧ ∀ vs, D ≠ .lst vs := by
  rcases h with ⟨vs, rfl, _⟩ | h
  · exact ⟨rfl, fun _ z => by cases z⟩
  · unfold odd0 at h
    simp only [List.mem_cons, List.not_mem_nil, or_false] at h
    rcases h with rfl | rfl | rfl | rfl | rfl <;> exact ⟨rfl, fun _ z => by cases z⟩
theorem dok_re {B : Nat} {D : Dat} (h : DOk B D) (hb : B < 10 ^ 24) : RpE D 3 2600 := by
  rcases h with ⟨vs, rfl, hv⟩ | h
  · exact (rpe_tup (hv.re hb)).up (by decide) (by decide)
  · unfold odd0 at h
    simp only [List.mem_cons, List.not_mem_nil, or_false] at h
    rcases h with rfl | rfl | rfl | rfl | rfl <;>
      exact ⟨_, rfl, by decide +kernel, by decide +kernel, by decide +kernel⟩
structure RowS (T : Ths) (r B : Nat) (D c m : Dat) : Prop where
  oc : Okv B c
  om : Okv B m
  d : (∃ k vs, T[r]? = some (.lst [.ptr k, c, m]) ∧ k ≠ r ∧ T[k]? = some (.lst vs) ∧ LOk B vs ∧ D = .lst vs) ∨ (T[r]? = some (.lst [D, c, m]) ∧ DOk B D)
theorem RowS.ls {T : Ths} {r B : Nat} {D c m : Dat} (h : RowS T r B D c m) : lsL T r = some [D, c, m] := by
  have hc := plain_look (okv_plain h.oc) T
  have hm := plain_look (okv_plain h.om) T
  unfold lsL
  rcases h.d with ⟨k, vs, e, _, ek, _, rfl⟩ | ⟨e, hd⟩
  · rw [e]
    show some [look1 T (.ptr k), look1 T c, look1 T m] = _
    rw [hc, hm]
    have : look1 T (.ptr k) = .lst vs := by unfold look1; dsimp only; rw [ek]
    rw [this]
  · rw [e]
    show some [look1 T D, look1 T c, look1 T m] = _
    rw [hc, hm, plain_look (dok_plain hd).1 T]
theorem RowS.pl {T : Ths} {r B : Nat} {D c m : Dat} (h : RowS T r B D c m) : plain D = true ∧ ∀ vs, D = .lst vs → ∀ v, v ∈ vs → plain v = true := by
  rcases h.d with ⟨k, vs, e, _, ek, hv, rfl⟩ | ⟨e, hd⟩
  · refine ⟨rfl, fun ws z v hv' => ?_⟩
    cases z
    exact okv_plain (hv.2 v hv')
  · obtain ⟨a, b⟩ := dok_plain hd
    exact ⟨a, fun vs z => absurd z (b vs)⟩
theorem RowS.re {T : Ths} {r B : Nat} {D c m : Dat} (h : RowS T r B D c m) (hb : B < 10 ^ 24) : ∃ z, reprE ((eL eD) [D, c, m]) = some z := by
  have hD : RpE D 3 2600 := by
    rcases h.d with ⟨k, vs, e, _, ek, hv, rfl⟩ | ⟨e, hd⟩
    · exact (rpe_lst (hv.re hb)).up (by decide) (by decide)
    · exact dok_re hd hb
  have l : RpE (.lst [D, c, m]) 4 3000 := (rpe_lst (rpe_cons hD (rpe_cons ((okv_re h.oc hb).up (k' := 3) (n' := 100) (by decide) (by decide)) (rpe_cons ((okv_re h.om hb).up (k' := 3) (n' := 100) (by decide) (by decide)) (rpe_nil 3))))).up (by decide) (by decide)
  rw [eL_D]
  exact reprE_of l (by decide) (by decide)
/-! ### draws -/
theorem draw_of (s : Rg) {n : Int} (h : 0 < n) (h2 : n < 1000000) : ∃ v s', drawN s n = some (v, s') ∧ 0 ≤ v ∧ v < n := drawN_of s h (by omega)
theorem choice_of (s : Rg) {xs : List Int} (h0 : 0 < xs.length) (h1 : xs.length < 1000) : ∃ v s', N_l_choice s xs = some (v, s') ∧ v ∈ xs := by
  obtain ⟨i, s', e, i0, i1⟩ := draw_of s (n := (xs.length : Int)) (by omega) (by omega)
  obtain ⟨v, hv, e2⟩ := ix_mem (xs := xs) i0 i1
  refine ⟨v, s', ?_, hv⟩
  unfold N_l_choice
  rw [e]; simp only [bnd]
  rw [e2]; rfl
theorem choice2_of (s : Rg) {xs : List Dat} (h0 : 0 < xs.length) (h1 : xs.length < 1000) : ∃ v s', N_l_choice_2 s xs = some (v, s') ∧ v ∈ xs := by
  obtain ⟨i, s', e, i0, i1⟩ := draw_of s (n := (xs.length : Int)) (by omega) (by omega)
  obtain ⟨v, hv, e2⟩ := ix_mem (xs := xs) i0 i1
  refine ⟨v, s', ?_, hv⟩
  unfold N_l_choice_2
  rw [e]; simp only [bnd]
  rw [e2]; rfl
theorem lsN_of {α : Type} {f : α → Dat} (hf : ∀ x y, f x = f y → x = y) {T : Ths} {p : Nat} {xs : List α} (h : T[p]? = some (.lst (xs.map f))) : lsN f T p = some xs := by
  unfold lsN
  rw [h]
  exact decOf_enc (f := eL f) (eL_inj hf) xs
theorem lsD_of {T : Ths} {p : Nat} {xs : List Dat} (h : T[p]? = some (.lst xs)) : lsN eD T p = some xs := lsN_of eD_inj (by rw [h]; exact congrArg (fun z => some (Own.lst z)) (List.map_id _).symm)
theorem rdI_of {T : Ths} {p : Nat} {xs : List Int} (h : T[p]? = some (.lst (xs.map eI))) : rdS (eL eI) T p = some xs := by
  unfold rdS snap1
  dsimp only
  rw [h]
  exact decLI xs
/-! ### a row that is written -/
def B0 : Nat := 1000000000000000000
/-- numbers that a list holds so far -/
def Tel (T : Ths) (k : Nat) (ns : List Int) : Prop := T[k]? = some (.lst (ns.map eI)) ∧ ∀ n, n ∈ ns → 0 ≤ n ∧ n ≤ 2000
theorem Tel.lt {T : Ths} {k : Nat} {ns : List Int} (h : Tel T k ns) : k < T.length := (List.getElem?_eq_some_iff.mp h.1).1
theorem get_set {T : Ths} {k : Nat} {o : Own} (h : k < T.length) : (T.set k o)[k]? = some o := by rw [List.getElem?_set_self h]
theorem cat0_mem {ns : List Int} (h : ∀ n, n ∈ ns → 0 ≤ n ∧ n ≤ 2000) {i x : Int} (e : ixN? ([0] ++ ns) i = some x) : 0 ≤ x ∧ x ≤ 2000 := by
  have hm : x ∈ ([0] ++ ns : List Int) := by
    unfold ixN? L2.atI at e
    cases hj : L2.ixN ([0] ++ ns : List Int).length i with
    | none => rw [hj] at e; cases e
    | some j => rw [hj] at e; exact List.mem_of_getElem? e
  rcases List.mem_append.mp hm with z | z
  · simp only [List.mem_cons, List.not_mem_nil, or_false] at z
    omega
  · exact h x z
theorem wr_b1 {T : Ths} {k : Nat} {ns : List Int} (h : Tel T k ns) (hl : ns.length < 1000) (i : Int) (g : Rg) : ∃ g' T' ns', N_l_written_b1 i g k T = some (g', k, T') ∧ Tel T' k ns' ∧ ns'.length = ns.length + 1 := by
  obtain ⟨d1, g1, e1, a0, a1⟩ := draw_of g (n := 90) (by decide) (by decide)
  obtain ⟨d2, g2, e2, b0, b1⟩ := draw_of g1 (n := 4) (by decide) (by decide)
  obtain ⟨v, hv, ev⟩ := ix_mem (xs := [0, 1, d1, 2]) b0 (by simpa using b1)
  have hx := ix_last (xs := ([0] ++ ns : List Int)) 0 (by simp)
  obtain ⟨x, ex⟩ : ∃ x, ixN? ([0] ++ ns : List Int) (-1) = some x := ⟨_, hx⟩
  have xb := cat0_mem h.2 ex
  have vb : 0 ≤ v ∧ v ≤ 90 := by
    simp only [List.mem_cons, List.not_mem_nil, or_false] at hv
    omega
  refine ⟨g2, T.set k (.lst (ns.map eI ++ [eI (min 2000 (x + v))])), ns ++ [min 2000 (x + v)], ?_, ⟨?_, ?_⟩, by simp⟩
  · unfold N_l_written_b1
    rw [lsN_of eI_inj h.1]; simp only [bnd]
    rw [cat_of (by simp; omega)]; simp only [bnd]
    rw [ex]; simp only [bnd]
    rw [e1]; simp only [bnd]
    rw [e2]; simp only [bnd]
    rw [ev]; simp only [bnd]
    have ap : appTN (eI (min 2000 (x + v))) T k = some (T.set k (.lst (ns.map eI ++ [eI (min 2000 (x + v))]))) := by
      unfold appTN
      rw [h.1]
      dsimp only
      rw [if_pos (by rw [List.length_map]; exact Nat.lt_of_lt_of_le hl (by decide))]
    rw [ap]; simp only [bnd]
  · rw [get_set h.lt, List.map_append]; rfl
  · intro n hn
    rcases List.mem_append.mp hn with z | z
    · exact h.2 n z
    · simp only [List.mem_cons, List.not_mem_nil, or_false] at z
      omega
theorem wr_k2 {T : Ths} {k : Nat} {ns : List Int} (h : Tel T k ns) (hl : ns.length ≤ 25) (g0 g : Rg) {cyc w : Int} (hc : 0 ≤ cyc ∧ cyc ≤ 12) (hw : -2000 ≤ w ∧ w ≤ 2000) : ∃ r g' T' D c m, N_l_written_k2 (g0, k, T) (cyc, g) w = some (r, g', T') ∧ RowS T' r B0 D c m := by
  obtain ⟨d, g1, e, d0, d1⟩ := draw_of g (n := 3) (by decide) (by decide)
  refine ⟨T.length, g1, T ++ [.lst [.ptr k, eI cyc, eI (min 2000 (w + d))]], .lst (ns.map eI), eI cyc, eI (min 2000 (w + d)), ?_, ⟨okv_i (by unfold B0; omega), okv_i (by unfold B0; omega), .inl ⟨k, ns.map eI, ?_, Nat.ne_of_lt h.lt, ?_, ⟨by rw [List.length_map]; exact hl, fun v hv => ?_⟩, rfl⟩⟩⟩
  · unfold N_l_written_k2
    rw [e]; simp only [bnd]
    rfl
  · rw [List.getElem?_append_right (Nat.le_refl _), Nat.sub_self]; rfl
  · rw [List.getElem?_append_left h.lt]; exact h.1
  · obtain ⟨n, hn, rfl⟩ := List.mem_map.mp hv
    have := h.2 n hn
    exact okv_i (by unfold B0; omega)
theorem wr_k1 (T : Ths) (b : Bool) (g : Rg) {w : Int} (hw : 0 ≤ w ∧ w ≤ 25) : ∃ r g' T' D c m, N_l_written_k1 T (b, g) w = some (r, g', T') ∧ RowS T' r B0 D c m := by
  unfold N_l_written_k1
  rw [show pushT (.lst (([] : List Int).map eI)) T = some (T.length, T ++ [.lst (([] : List Int).map eI)]) from rfl]
  simp only [bnd]
  rw [r1_of (by omega) (by omega)]
  simp only [bnd]
  have start : Tel (T ++ [.lst (([] : List Int).map eI)]) T.length [] := ⟨by rw [List.getElem?_append_right (Nat.le_refl _), Nat.sub_self]; rfl, fun n h => by cases h⟩
  obtain ⟨⟨g1, k1, T1⟩, e1, hk1, ns, ht, hn⟩ := foldO_invN (b := fun (x21 : Int) (s22 : Rg × Nat × Ths) => N_l_written_b1 x21 s22.1 s22.2.1 s22.2.2) (I := fun n s => s.2.1 = T.length ∧ ∃ ns, Tel s.2.2 T.length ns ∧ ns.length = n) (rangeI 0 w) (g, T.length, T ++ [.lst (([] : List Int).map eI)]) ⟨rfl, [], start, rfl⟩ (by
    rintro n x ⟨g1, k1, T1⟩ hx ⟨hk1, ns, ht, hn⟩
    have hk1 : k1 = T.length := hk1
    subst hk1
    have hb := rangeI_get hx
    obtain ⟨g2, T2, ns2, e2, ht2, hn2⟩ := wr_b1 ht (by omega) x g1
    exact ⟨_, e2, rfl, ns2, ht2, by omega⟩)
  rw [e1]
  simp only [bnd]
  rw [rangeI_len] at hn
  have hk1 : k1 = T.length := hk1
  subst hk1
  obtain ⟨cyc, g3, e3, hc⟩ := choice_of g1 (xs := [1, 1, 2, 3, 4, 6, 12]) (by decide) (by decide)
  have hc1 : 1 ≤ cyc ∧ cyc ≤ 12 := by
    simp only [List.mem_cons, List.not_mem_nil, or_false] at hc
    omega
  rw [e3]
  simp only [bnd]
  have k2 : ∀ w' : Int, -2000 ≤ w' ∧ w' ≤ 2000 → ∃ r g' T' D c m, N_l_written_k2 (g1, T.length, T1) (cyc, g3) w' = some (r, g', T') ∧ RowS T' r B0 D c m := fun w' hw' => wr_k2 ht (by omega) g1 g3 ⟨by omega, hc1.2⟩ hw'
  by_cases hz : cyc ≤ w
  · rw [if_pos (by simp; omega), rdI_of ht.1]
    simp only [bnd]
    have n0 : 0 < ns.length := by omega
    have el := ix_last (xs := ns) 0 n0
    have lb : 0 ≤ ns.getD (ns.length - 1) 0 ∧ ns.getD (ns.length - 1) 0 ≤ 2000 := by
      rw [List.getD_eq_getElem?_getD, List.getElem?_eq_getElem (by omega)]
      exact ht.2 _ (List.getElem_mem _)
    rw [el]
    simp only [bnd]
    rw [lsN_of eI_inj ht.1]
    simp only [bnd]
    rw [cat_of (by simp; omega)]
    simp only [bnd]
    obtain ⟨y, hy, ey⟩ := ix_mem (xs := ([0] ++ ns : List Int)) (i := w + 1 - cyc) (by omega) (by simp; omega)
    have yb := cat0_mem ht.2 ey
    rw [ey]
    simp only [bnd]
    exact k2 _ ⟨by omega, by omega⟩
  · rw [if_neg (by simp; omega)]
    exact k2 0 ⟨by decide, by decide⟩
theorem written_run (g : Rg) (T : Ths) : ∃ r g' T' D c m, N_l_written g T = some (r, g', T') ∧ RowS T' r B0 D c m := by
  obtain ⟨d1, g1, e1, a0, a1⟩ := draw_of g (n := 5) (by decide) (by decide)
  obtain ⟨d2, g2, e2, b0, b1⟩ := draw_of g1 (n := 24) (by decide) (by decide)
  obtain ⟨d3, g3, e3, c0, c1⟩ := draw_of g2 (n := 20) (by decide) (by decide)
  obtain ⟨v, hv, ev⟩ := ix_mem (xs := [1 + d1, 24, 25, 1 + d2, 0]) (i := d3 / 4) (by omega) (by simp; omega)
  have vb : 0 ≤ v ∧ v ≤ 25 := by
    simp only [List.mem_cons, List.not_mem_nil, or_false] at hv
    omega
  unfold N_l_written
  rw [e1]; simp only [bnd]
  rw [e2]; simp only [bnd]
  rw [e3]; simp only [bnd]
  rw [ev]; simp only [bnd]
  have x6 : ∃ b g', (if decide (v = 0) = true then (drawN g3 3).bind fun d5 => some (decide (0 < d5.1), d5.2) else some (false, g3)) = some (b, g') := by
    obtain ⟨d5, g5, e5, _, _⟩ := draw_of g3 (n := 3) (by decide) (by decide)
    by_cases hz : v = 0
    · rw [if_pos (decide_eq_true hz), e5]
      exact ⟨_, _, rfl⟩
    · rw [if_neg (by simp [hz])]
      exact ⟨_, _, rfl⟩
  obtain ⟨b, g', e6⟩ := x6
  rw [e6]; simp only [bnd]
  cases b with
  | true => rw [if_pos rfl]; exact wr_k1 T true g' (by decide)
  | false => rw [if_neg (by simp)]; exact wr_k1 T false g' vb
end K12
namespace K12
open PySem Mir
/-! ### a row that is spoilt -/
theorem isI_run {d : Dat} (h : plain d = true) : ∃ b, isiB [("NoneType", false), ("bool", true), ("int", true), ("str", false), ("list", false), ("tuple", false), ("dict", false)] [("Curve", false)] d = some b ∧ (b = true → (∃ i, d = .int i) ∨ ∃ x, d = .bl x) := by
  cases d with
  | int i => exact ⟨true, rfl, fun _ => .inl ⟨i, rfl⟩⟩
  | bl x => exact ⟨true, rfl, fun _ => .inr ⟨x, rfl⟩⟩
  | _ => first | exact ⟨false, rfl, fun z => by cases z⟩ | cases h
theorem sub_run {B : Nat} {d : Dat} (h : Okv B d) (hh : (∃ i, d = .int i) ∨ ∃ x, d = .bl x) : ∃ k, subBN d 1 = some k ∧ k.natAbs ≤ B + 1 := by
  rcases hh with ⟨i, rfl⟩ | ⟨x, rfl⟩
  · rcases h with ⟨j, e, hj⟩ | h
    · cases e
      exact ⟨i - 1, rfl, by omega⟩
    · unfold oth at h; simp at h
  · refine ⟨b2n x - 1, rfl, ?_⟩
    cases x <;> (unfold b2n; simp; try omega)
theorem neg_run {B : Nat} {d : Dat} (h : Okv B d) (hh : (∃ i, d = .int i) ∨ ∃ x, d = .bl x) : ∃ k, negBN d = some k ∧ k.natAbs ≤ B + 1 := by
  rcases hh with ⟨i, rfl⟩ | ⟨x, rfl⟩
  · rcases h with ⟨j, e, hj⟩ | h
    · cases e
      exact ⟨-i, rfl, by omega⟩
    · unfold oth at h; simp at h
  · refine ⟨-(b2n x), rfl, ?_⟩
    cases x <;> (unfold b2n; simp; try omega)
theorem odd_run {B : Nat} (hB : B0 ≤ B) {d : Dat} (h : Okv B d) (g : Rg) : ∃ v g', N_l_odd_value g d = some (v, g') ∧ Okv (B + 1) v := by
  obtain ⟨b, eb, hb⟩ := isI_run (okv_plain h)
  unfold N_l_odd_value
  rw [eb]; simp only [bnd]
  obtain ⟨u, eu, hu, hi⟩ : ∃ u, (if b = true then d else eI 0) = u ∧ Okv B u ∧ ((∃ i, u = .int i) ∨ ∃ x, u = .bl x) := by
    cases b with
    | true => exact ⟨d, rfl, h, hb rfl⟩
    | false => exact ⟨eI 0, rfl, okv_i (Nat.zero_le _), .inl ⟨0, rfl⟩⟩
  rw [eu]
  obtain ⟨x, ex, hx⟩ := sub_run hu hi
  obtain ⟨y, ey, hy⟩ := neg_run hu hi
  rw [ex]; simp only [bnd]
  rw [ey]; simp only [bnd]
  obtain ⟨v, g', e, hv⟩ := choice2_of g (xs := [eI (-1), eI 2001, eB true, eB false, eU (), eS (("1" : Str)), (e1 eI) (1), (eL eI) ([1]), Dat.dic [], eI 1000000000000000000, eI x, eI y]) (by simp) (by simp)
  refine ⟨v, g', by rw [e]; rfl, ?_⟩
  unfold B0 at hB
  simp only [List.mem_cons, List.not_mem_nil, or_false] at hv
  rcases hv with rfl | rfl | rfl | rfl | rfl | rfl | rfl | rfl | rfl | rfl | rfl | rfl
  · exact okv_i (by omega)
  · exact okv_i (by omega)
  · exact .inr (by simp [oth])
  · exact .inr (by simp [oth])
  · exact .inr (by simp [oth])
  · exact .inr (by simp [oth])
  · exact .inr (by simp [oth])
  · exact .inr (by simp [oth])
  · exact .inr (by simp [oth])
  · exact okv_i (by omega)
  · exact okv_i (by omega)
  · exact okv_i (by omega)
theorem setT_of {T : Ths} {p : Nat} {ds : List Dat} {j : Nat} {d : Dat} (h : T[p]? = some (.lst ds)) (hj : j < ds.length) : setTN (j : Int) d T p = some (T.set p (.lst (ds.set j d))) := by
  unfold setTN
  rw [h]
  dsimp only
  have : L2.ixN ds.length (j : Int) = some j := by
    unfold L2.ixN
    rw [if_pos (by omega)]
    simpa using hj
  rw [this]; rfl
/-- a list in the row's place, or a value in it, is changed -/
theorem row_set {T : Ths} {r k B : Nat} {c m : Dat} {vs : List Dat} (er : T[r]? = some (.lst [.ptr k, c, m])) (hk : k ≠ r) (ek : T[k]? = some (.lst vs)) (hc : Okv B c) (hm : Okv B m) (hv : LOk B vs) :
    (∀ {d}, DOk (B + 1) d → ∃ D c' m', RowS (T.set r (.lst [d, c, m])) r (B + 1) D c' m') ∧
    (∀ {d}, Okv (B + 1) d → ∃ D c' m', RowS (T.set r (.lst [.ptr k, d, m])) r (B + 1) D c' m') ∧
    (∀ {d}, Okv (B + 1) d → ∃ D c' m', RowS (T.set r (.lst [.ptr k, c, d])) r (B + 1) D c' m') ∧
    (∀ {d j}, Okv (B + 1) d → j < vs.length → ∃ D c' m', RowS (T.set k (.lst (vs.set j d))) r (B + 1) D c' m') ∧
    ∃ D c' m', RowS T r (B + 1) D c' m' := by
  have lr : r < T.length := (List.getElem?_eq_some_iff.mp er).1
  have lk : k < T.length := (List.getElem?_eq_some_iff.mp ek).1
  have kn : ∀ o, (T.set r o)[k]? = some (.lst vs) := fun o => by rw [List.getElem?_set_ne (fun z => hk z.symm)]; exact ek
  have up : B ≤ B + 1 := Nat.le_succ _
  refine ⟨fun {d} h => ⟨d, c, m, hc.up up, hm.up up, .inr ⟨get_set lr, h⟩⟩, fun {d} h => ⟨_, d, m, h, hm.up up, .inl ⟨k, vs, get_set lr, hk, kn _, hv.up up, rfl⟩⟩, fun {d} h => ⟨_, c, d, hc.up up, h, .inl ⟨k, vs, get_set lr, hk, kn _, hv.up up, rfl⟩⟩, fun {d j} h hj => ⟨_, c, m, hc.up up, hm.up up, .inl ⟨k, vs.set j d, by rw [List.getElem?_set_ne hk]; exact er, hk, get_set lk, ⟨by rw [List.length_set]; exact hv.1, fun v hv' => ?_⟩, rfl⟩⟩, ⟨_, c, m, hc.up up, hm.up up, .inl ⟨k, vs, er, hk, ek, hv.up up, rfl⟩⟩⟩
  rcases List.mem_or_eq_of_mem_set hv' with z | z
  · exact (hv.2 v z).up up
  · rw [z]; exact h
theorem spoilt_run {T : Ths} {r k B : Nat} {c m : Dat} {vs : List Dat} (hB : B0 ≤ B) (er : T[r]? = some (.lst [.ptr k, c, m])) (hk : k ≠ r) (ek : T[k]? = some (.lst vs)) (hc : Okv B c) (hm : Okv B m) (hv : LOk B vs) (g : Rg) : ∃ g' T', N_l_spoilt g r T = some ((), g', T') ∧ ∃ D c' m', RowS T' r (B + 1) D c' m' := by
  obtain ⟨s1, s2, s3, s4, s5⟩ := row_set er hk ek hc hm hv
  obtain ⟨d1, g1, e1, a0, a1⟩ := draw_of g (n := 7) (by decide) (by decide)
  unfold N_l_spoilt
  rw [e1]; simp only [bnd]
  rw [lsD_of er]; simp only [bnd]
  rw [show ixN? [Dat.ptr k, c, m] 0 = some (.ptr k) from ix_nat (j := 0) rfl]; simp only [bnd]
  rw [show asP (.ptr k) = some k from rfl]; simp only [bnd]
  rw [lsD_of ek]; simp only [bnd]
  by_cases h0 : d1 = 0
  · rw [if_pos (decide_eq_true h0)]
    rw [show range1N 3 = some [0, 1, 2] from by decide]; simp only [bnd]
    rw [show capL (([0, 1, 2] : List Int).map fun y7 => (y7, y7)) = some [(0, 0), (1, 1), (2, 2)] from by decide]; simp only [bnd]
    rw [show dictC [(eL (e2 eI eI)) [(0, 0), (1, 1), (2, 2)]] = some dic3 from by rfl]; simp only [bnd]
    obtain ⟨v, g2, e2, hv2⟩ := choice2_of g1 (xs := [(eT eD) vs, eU (), eS (("1,2" : Str)), eI 5, dic3, eB true]) (by simp) (by simp)
    rw [e2]; simp only [bnd]
    rw [show setTN 0 (eD v) T r = some (T.set r (.lst [v, c, m])) from setT_of (j := 0) er (by simp)]
    simp only [bnd]
    refine ⟨g2, _, rfl, s1 ?_⟩
    rcases List.mem_cons.mp hv2 with rfl | z
    · exact .inl ⟨vs, congrArg Dat.tup (List.map_id _), hv.up (Nat.le_succ _)⟩
    · exact .inr z
  · rw [if_neg (by simp [h0])]
    by_cases hz : d1 < 3 ∧ vs.length ≠ 0
    · have x13 : (if (decide (d1 < 3)) = true then some (!decide (vs.length = 0)) else some false) = some true := by
        rw [if_pos (decide_eq_true hz.1), decide_eq_false hz.2]; rfl
      rw [x13]; simp only [bnd, if_true]
      have vl := hv.1
      obtain ⟨d2, g2, e2, b0, b1⟩ := draw_of g1 (n := (vs.length : Int)) (by omega) (by omega)
      rw [e2]; simp only [bnd]
      rw [cat_of (by simp; omega)]; simp only [bnd]
      obtain ⟨y, hy, ey⟩ := ix_mem (xs := ([0] : List Int).map eI ++ vs) (i := d2) b0 (by simp; omega)
      rw [ey]; simp only [bnd]
      have oy : Okv B y := by
        rcases List.mem_append.mp hy with z | z
        · simp only [List.map_cons, List.map_nil, List.mem_cons, List.not_mem_nil, or_false] at z
          rw [z]; exact okv_i (Nat.zero_le _)
        · exact hv.2 y z
      obtain ⟨v, g3, e3, ov⟩ := odd_run hB oy g2
      rw [e3]; simp only [bnd]
      obtain ⟨j, rfl⟩ : ∃ j : Nat, d2 = (j : Int) := ⟨d2.toNat, by omega⟩
      rw [show setTN (j : Int) (eD v) T k = some (T.set k (.lst (vs.set j v))) from setT_of ek (by omega)]
      simp only [bnd]
      exact ⟨g3, _, rfl, s4 ov (by omega)⟩
    · have x13 : (if (decide (d1 < 3)) = true then some (!decide (vs.length = 0)) else some false) = some false := by
        by_cases h3 : d1 < 3
        · have : vs.length = 0 := by
            by_cases q : vs.length = 0
            · exact q
            · exact absurd ⟨h3, q⟩ hz
          rw [if_pos (decide_eq_true h3), decide_eq_true this]; rfl
        · rw [if_neg (by simp; omega)]
      rw [x13]; simp only [bnd, Bool.false_eq_true, if_false]
      by_cases h3 : d1 = 3
      · rw [if_pos (decide_eq_true h3)]
        obtain ⟨v, g2, e2, hv2⟩ := choice2_of g1 (xs := [eI 0, eI 5, eI 7, eI 8, eI 24, eI (-1), eB true, eB false, eU (), eS (("1" : Str)), (Mir.e1 eI) (1), eI 12, eI 6, eI 4, (eL eI) ([1])]) (by simp) (by simp)
        rw [e2]; simp only [bnd]
        rw [show setTN 1 (eD v) T r = some (T.set r (.lst [.ptr k, v, m])) from setT_of (j := 1) er (by simp)]
        simp only [bnd]
        refine ⟨g2, _, rfl, s2 ?_⟩
        unfold B0 at hB
        simp only [List.mem_cons, List.not_mem_nil, or_false] at hv2
        rcases hv2 with rfl | rfl | rfl | rfl | rfl | rfl | rfl | rfl | rfl | rfl | rfl | rfl | rfl | rfl | rfl <;> first | exact okv_i (by omega) | exact .inr (by simp [oth])
      · rw [if_neg (by simp [h3])]
        by_cases h4 : d1 = 4
        · rw [if_pos (decide_eq_true h4)]
          obtain ⟨v, g2, e2, hv2⟩ := choice2_of g1 (xs := [eI (-1), eI 2001, eB true, eB false, eU (), eS (("0" : Str)), eI 1000000000000000000, (Mir.e1 eI) (0), (eL eI) (([] : List Int)), eI 0, eI 2000]) (by simp) (by simp)
          rw [e2]; simp only [bnd]
          rw [show setTN 2 (eD v) T r = some (T.set r (.lst [.ptr k, c, v])) from setT_of (j := 2) er (by simp)]
          simp only [bnd]
          refine ⟨g2, _, rfl, s3 ?_⟩
          unfold B0 at hB
          simp only [List.mem_cons, List.not_mem_nil, or_false] at hv2
          rcases hv2 with rfl | rfl | rfl | rfl | rfl | rfl | rfl | rfl | rfl | rfl | rfl <;> first | exact okv_i (by omega) | exact .inr (by simp [oth])
        · rw [if_neg (by simp [h4])]
          have i2 : ixN? [Dat.ptr k, c, m] 2 = some m := ix_nat (j := 2) rfl
          rw [i2]; simp only [bnd]
          obtain ⟨b, eb, hb⟩ := isI_run (okv_plain hm)
          rw [eb]; simp only [bnd]
          by_cases h5 : d1 = 5
          · rw [if_pos (decide_eq_true h5)]; simp only [bnd]
            cases b with
            | true =>
              obtain ⟨x, ex, hx⟩ := sub_run hm (hb rfl)
              rw [if_pos rfl, ex]; simp only [bnd]
              rw [show setTN 2 (eI x) T r = some (T.set r (.lst [.ptr k, c, eI x])) from setT_of (j := 2) er (by simp)]
              simp only [bnd]
              exact ⟨g1, _, rfl, s3 (okv_i hx)⟩
            | false =>
              rw [if_neg (by simp)]
              exact ⟨g1, _, rfl, s5⟩
          · rw [if_neg (by simp [h5])]; simp only [bnd, Bool.false_eq_true, if_false]
            exact ⟨g1, _, rfl, s5⟩
/-! ### a turn -/
theorem right_b1 {T : Ths} {r B : Nat} {D c m : Dat} (hB : B0 ≤ B) (h : RowS T r B D c m) (x : Rg × Ths) (i : Int) (g : Rg) : ∃ g' T' D' c' m', N_l_right_b1 (r, x) i g T = some (g', T') ∧ RowS T' r (B + 1) D' c' m' := by
  unfold N_l_right_b1
  have hc := h.oc
  have hm := h.om
  rcases h.d with ⟨k, vs, er, hk, ek, hv, rfl⟩ | ⟨er, hd⟩
  · rw [lsD_of er]; simp only [bnd]
    rw [show ixN? [Dat.ptr k, c, m] 0 = some (.ptr k) from ix_nat (j := 0) rfl]; simp only [bnd]
    have e : snap1 T (.ptr k) = .lst vs := by unfold snap1; dsimp only; rw [ek]
    rw [e, show isiB [("NoneType", false), ("bool", false), ("int", false), ("str", false), ("list", true), ("tuple", false), ("dict", false)] [("Curve", false)] (.lst vs) = some true from rfl]
    simp only [bnd, if_true]
    obtain ⟨g', T', es, D', c', m', hr⟩ := spoilt_run hB er hk ek hc hm hv g
    rw [es]
    exact ⟨g', T', D', c', m', rfl, hr⟩
  · rw [lsD_of er]; simp only [bnd]
    rw [show ixN? [D, c, m] 0 = some D from ix_nat (j := 0) rfl]; simp only [bnd]
    obtain ⟨p1, p2⟩ := dok_plain hd
    have e : snap1 T D = D := by cases D <;> first | rfl | cases p1
    have z : isiB [("NoneType", false), ("bool", false), ("int", false), ("str", false), ("list", true), ("tuple", false), ("dict", false)] [("Curve", false)] D = some false := by
      cases D with
      | lst vs => exact absurd rfl (p2 vs)
      | _ => first | rfl | cases p1
    rw [e, z]; simp only [bnd, Bool.false_eq_true, if_false]
    have up : B ≤ B + 1 := Nat.le_succ _
    refine ⟨g, T, D, c, m, rfl, hc.up up, hm.up up, .inr ⟨er, ?_⟩⟩
    rcases hd with ⟨vs, e, hv⟩ | hd
    · exact .inl ⟨vs, e, hv.up up⟩
    · exact .inr hd
theorem fb_lt : ∀ {vs : List Dat} {b : Int} {p q : Nat}, fb vs b p = some q → q < p + vs.length
  | [], _, _, _, h => by cases h
  | v :: r, b, p, q, h => by
    unfold fb at h
    rw [List.length_cons]
    cases hc : cnt v with
    | none => rw [hc] at h; cases h; omega
    | some i =>
      rw [hc] at h
      dsimp only at h
      split at h
      · cases h; omega
      · have := fb_lt h; omega
theorem due_words {D c m : Dat} {s : Str} {i : Nat} (h : due D c m = some (s, i)) : s ∈ words ∧ i < 1000 := by
  unfold due at h
  cases D with
  | lst vs =>
    dsimp only at h
    split at h
    · cases h; exact ⟨by decide, by decide⟩
    · cases hf : fb vs 0 0 with
      | some q =>
        rw [hf] at h
        cases h
        have := fb_lt hf
        exact ⟨by decide, by omega⟩
      | none =>
        rw [hf] at h
        dsimp only at h
        cases hp : perB c vs.length with
        | none => rw [hp] at h; cases h; exact ⟨by decide, by decide⟩
        | some p =>
          rw [hp] at h
          dsimp only at h
          split at h
          · cases h
          · cases h; exact ⟨by decide, by decide⟩
  | _ => cases h; exact ⟨by decide, by decide⟩
theorem word_re {s : Str} (h : s ∈ words) : RpE (.str s) 0 100 := by
  unfold words at h
  simp only [List.mem_cons, List.not_mem_nil, or_false] at h
  rcases h with rfl | rfl | rfl | rfl | rfl <;> exact ⟨_, rfl, by decide +kernel, by decide +kernel, by decide +kernel⟩
theorem due_re (D c m : Dat) : ∃ y, reprE ((eO (e2 eS eI)) (dueI D c m)) = some y := by
  unfold dueI
  cases hd : due D c m with
  | none => exact ⟨_, rfl⟩
  | some x =>
    obtain ⟨s, i⟩ := x
    obtain ⟨h1, h2⟩ := due_words hd
    have r : RpE (.tup [.str s, .int (i : Int)]) 1 200 := (rpe_tup (rpe_cons (word_re h1) (rpe_cons (rpe_int (i := (i : Int)) (m := 10) (by decide) (by decide) (by omega)) (rpe_nil 0)))).up (by decide) (by decide)
    exact reprE_of r (by decide) (by decide)
theorem fltN_due (D c m : Dat) : fltN ((eO (e2 eS eI)) (dueI D c m)) = some () := by
  cases dueI D c m with
  | none => rfl
  | some x => rfl
theorem right_run (g : Rg) (T : Ths) : ∃ g' T', N_l_right g T = some (true, g', T') := by
  obtain ⟨r, g1, T1, D, c, m, e1, h1⟩ := written_run g T
  obtain ⟨d2, g2, e2, a0, a1⟩ := draw_of g1 (n := 5) (by decide) (by decide)
  obtain ⟨v, hv, ev⟩ := ix_mem (xs := ([0, 1, 1, 1, 2] : List Int)) a0 (by simpa using a1)
  have vb : 0 ≤ v ∧ v ≤ 2 := by
    simp only [List.mem_cons, List.not_mem_nil, or_false] at hv
    omega
  unfold N_l_right
  rw [e1]; simp only [bnd]
  rw [e2]; simp only [bnd]
  rw [ev]; simp only [bnd]
  rw [r1_of (by omega) (by omega)]; simp only [bnd]
  obtain ⟨⟨g3, T3⟩, e3, D3, c3, m3, h3⟩ := foldO_invN (b := fun (x13 : Int) (s14 : Rg × Ths) => N_l_right_b1 (r, g1, T1) x13 s14.1 s14.2) (I := fun n s => ∃ D c m, RowS s.2 r (B0 + n) D c m) (rangeI 0 v) (g2, T1) ⟨D, c, m, h1⟩ (by
    rintro n x ⟨g4, T4⟩ hx ⟨D, c, m, h⟩
    obtain ⟨g5, T5, D', c', m', e, h'⟩ := right_b1 (Nat.le_add_right _ _) h (g1, T1) x g4
    exact ⟨_, e, D', c', m', h'⟩)
  rw [e3]; simp only [bnd]
  rw [rangeI_len] at h3
  have hb : B0 + (v - 0).toNat < 10 ^ 24 := by unfold B0; omega
  rw [h3.ls]; simp only [bnd]
  obtain ⟨p1, p2⟩ := h3.pl
  rw [due_run p1 (okv_plain h3.oc) (okv_plain h3.om) p2]; simp only [bnd]
  obtain ⟨z, hz⟩ := h3.re hb
  rw [hz]; simp only [bnd]
  rw [told_run p1 (okv_plain h3.oc) (okv_plain h3.om) p2]; simp only [bnd]
  rw [fltN_due]; simp only [bnd]
  have ry := due_re D3 c3 m3
  obtain ⟨y, hy⟩ := ry
  rw [show reprE (eD ((eO (Mir.e2 eS eI)) (dueI D3 c3 m3))) = some y from hy]; simp only [bnd]
  exact ⟨g3, T3, by simp⟩
/-! ### the law -/
theorem told_at {D c m : Dat} {d : Option (Str × Int)} (hD : plain D = true) (hc : plain c = true) (hm : plain m = true) (hv : ∀ vs, D = .lst vs → ∀ v, v ∈ vs → plain v = true) (e : dueI D c m = d) : N_l_told [D, c, m] = some ((eO (e2 eS eI)) d) := by rw [told_run hD hc hm hv, e]
theorem told_ints {ns : List Int} {c m : Int} {d : Option (Str × Int)} (e : dueI (.lst (ns.map eI)) (eI c) (eI m) = d) : N_l_told [(eL eI) ns, eI c, eI m] = some ((eO (e2 eS eI)) d) :=
  told_at rfl rfl rfl (fun vs z v hv => by
    cases z
    obtain ⟨n, _, rfl⟩ := List.mem_map.mp hv
    rfl) e
theorem law_run (ns : List Int) : ∃ T, N_law ns [] = some (true, T) := by
  unfold N_law
  have n0 : (0 : Int) ≤ max 1 (min 8 (ns.length : Int)) ∧ max 1 (min 8 (ns.length : Int)) ≤ 8 := by omega
  rw [r1_of (by omega) (by omega)]; simp only [bnd]
  have lp : ∀ (its : List Int) (T : Ths), (∀ x, x ∈ its → 0 ≤ x ∧ x < 8) → ∃ T', forL (ρ := Bool × Ths) (fun (x11 : Int) (s12 : Ths) => N_law_b1 ns x11 s12) its T = some (.nx T') := by
    intro its
    induction its with
    | nil => intro T _; exact ⟨T, rfl⟩
    | cons x its ih =>
      intro T h
      obtain ⟨x0, x1⟩ := h x (List.mem_cons_self ..)
      have b1 : ∃ T', N_law_b1 ns x T = some (.nx T') := by
        unfold N_law_b1
        have eg : rngO ns x = some (rngN ns x.toNat) := if_pos ⟨by omega, by omega⟩
        rw [eg]; simp only [bnd]
        rw [r1_of (by decide) (by decide)]; simp only [bnd]
        have mp : ∀ (its : List Int) (g : Rg) (T : Ths), ∃ bs g' T', mapS (fun y6 (s7 : Rg × Ths) => (N_l_right s7.1 s7.2).bind fun x8 => some (x8.1, (x8.2.1, x8.2.2))) its (g, T) = some (bs, (g', T')) ∧ bs.all id = true ∧ bs.length = its.length := by
          intro its
          induction its with
          | nil => intro g T; exact ⟨[], g, T, rfl, rfl, rfl⟩
          | cons y its ih =>
            intro g T
            obtain ⟨g1, T1, e1⟩ := right_run g T
            obtain ⟨bs, g2, T2, e2, hb, hl⟩ := ih g1 T1
            refine ⟨true :: bs, g2, T2, ?_, by simpa using hb, by simp [hl]⟩
            unfold mapS
            rw [e1]; simp only [bnd]
            rw [e2]; simp only [bnd]
        obtain ⟨bs, g', T', e, hb, hl⟩ := mp (rangeI 0 6) (rngN ns x.toNat) T
        rw [e]
        unfold capS
        simp only [bnd]
        rw [if_pos (by rw [hl]; decide)]; simp only [bnd]
        rw [hb]
        exact ⟨T', rfl⟩
      obtain ⟨T1, e1⟩ := b1
      obtain ⟨T2, e2⟩ := ih T1 fun y hy => h y (List.mem_cons_of_mem _ hy)
      refine ⟨T2, ?_⟩
      unfold forL
      rw [e1]; simp only [bnd]
      exact e2
  obtain ⟨T1, e1⟩ := lp (rangeI 0 (max 1 (min 8 (ns.length : Int)))) [] (fun x hx => by
    rw [mem_rangeI] at hx
    omega)
  rw [e1]
  unfold thenL
  simp only [bnd]
  rw [show repN ([0] : List Int) 24 = some (List.replicate 24 0) from by decide]; simp only [bnd]
  rw [show repN ([2000] : List Int) 24 = some (List.replicate 24 2000) from by decide]; simp only [bnd]
  rw [cat_of (by decide)]; simp only [bnd]
  have m1 : mapO (fun y19 => (N_l_told y19).bind fun x20 => some x20) ([[(eL eI) (List.replicate 24 0), eI 12, eI 0], [(eL eI) (List.replicate 24 2000), eI 12, eI 2000], [(eL eI) ([0, 2000]), eI 1, eI 2000], [(eL eI) ([5]), eI 1, eI 0]] ++ [[(eL eI) ([0, 1]), eI 2, eI 0], [(eL eI) ([1, 2]), eI 2, eI 0]]) = some (([none, none, none, none, some ((("gain" : Str), 0)), some ((("gain" : Str), 0))] : List (Option (Str × Int))).map (eO (e2 eS eI))) := by
    have t1 := told_ints (ns := List.replicate 24 0) (c := 12) (m := 0) (d := none) (by decide +kernel)
    have t2 := told_ints (ns := List.replicate 24 2000) (c := 12) (m := 2000) (d := none) (by decide +kernel)
    have t3 := told_ints (ns := [0, 2000]) (c := 1) (m := 2000) (d := none) (by decide +kernel)
    have t4 := told_ints (ns := [5]) (c := 1) (m := 0) (d := none) (by decide +kernel)
    have t5 := told_ints (ns := [0, 1]) (c := 2) (m := 0) (d := some ("gain", 0)) (by decide +kernel)
    have t6 := told_ints (ns := [1, 2]) (c := 2) (m := 0) (d := some ("gain", 0)) (by decide +kernel)
    simp only [List.cons_append, List.nil_append, mapO, t1, t2, t3, t4, t5, t6, bnd, List.map_cons, List.map_nil]
  rw [m1]
  rw [show capO (some (([none, none, none, none, some ((("gain" : Str), 0)), some ((("gain" : Str), 0))] : List (Option (Str × Int))).map (eO (e2 eS eI)))) = some (([none, none, none, none, some ((("gain" : Str), 0)), some ((("gain" : Str), 0))] : List (Option (Str × Int))).map (eO (e2 eS eI))) from by unfold capO; simp only [bnd]; exact cap_of (by decide)]; simp only [bnd]
  rw [show eqB ((eL eD) (([none, none, none, none, some ((("gain" : Str), 0)), some ((("gain" : Str), 0))] : List (Option (Str × Int))).map (eO (e2 eS eI)))) ((eL (eO (e2 eS eI))) ([none, none, none, none, some ((("gain" : Str), 0)), some ((("gain" : Str), 0))])) = some true from by decide +kernel]; simp only [bnd]
  rw [if_neg (by simp)]
  rw [show repN ([1] : List Int) 25 = some (List.replicate 25 1) from by decide]; simp only [bnd]
  have m2 : mapO (fun y24 => (N_l_told y24).bind fun x25 => some x25) ([[(eL eD) ([eI 3, eI 2, eB true]), eI 5, eI (-1)], [(eL eI) (List.replicate 25 1), eI 1, eI 0], [(eL eI) ([1]), eI 2, eI (-1)]]) = some (([((("value" : Str), 1)), ((("count" : Str), 0)), ((("period" : Str), 0))] : List (Str × Int)).map (e2 eS eI)) := by
    have t1 : N_l_told [(eL eD) ([eI 3, eI 2, eB true]), eI 5, eI (-1)] = some ((eO (e2 eS eI)) (some (("value" : Str), 1))) := told_at rfl rfl rfl (fun vs z v hv => by
      cases z
      simp only [List.map_cons, List.map_nil, List.mem_cons, List.not_mem_nil, or_false] at hv
      rcases hv with rfl | rfl | rfl <;> rfl) (by decide +kernel)
    have t2 := told_ints (ns := List.replicate 25 1) (c := 1) (m := 0) (d := some ("count", 0)) (by decide +kernel)
    have t3 := told_ints (ns := [1]) (c := 2) (m := -1) (d := some ("period", 0)) (by decide +kernel)
    simp only [mapO, t1, t2, t3, bnd, List.map_cons, List.map_nil]
    rfl
  rw [m2]
  rw [show capO (some (([((("value" : Str), 1)), ((("count" : Str), 0)), ((("period" : Str), 0))] : List (Str × Int)).map (e2 eS eI))) = some (([((("value" : Str), 1)), ((("count" : Str), 0)), ((("period" : Str), 0))] : List (Str × Int)).map (e2 eS eI)) from by unfold capO; simp only [bnd]; exact cap_of (by decide)]; simp only [bnd]
  rw [show eqB ((eL eD) (([((("value" : Str), 1)), ((("count" : Str), 0)), ((("period" : Str), 0))] : List (Str × Int)).map (e2 eS eI))) ((eL (e2 eS eI)) ([(("value" : Str), 1), (("count" : Str), 0), (("period" : Str), 0)])) = some true from by decide +kernel]; simp only [bnd]
  exact ⟨T1, rfl⟩
theorem law_good (ns : List Int) (h : ns.length ≤ 63) : ∃ T, F_law [.dat (.ro (ns.map .int))] [] = .ok (.bl true) [] T := by
  obtain ⟨T, e⟩ := law_run ns
  exact ⟨T, (n_law e : F_law [.dat ((eR eI) ns)] [] = res_law (true, T))⟩
end K12
theorem PySem.Challenge.cw_dueways_k12_invalid_curves_in_sequence_holds : PySem.Challenge.rw_dueways_k12_invalid_curves_in_sequence.Holds :=
  K12.closed K12.law_good
