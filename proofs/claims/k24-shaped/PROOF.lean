import PyProof.Rows.All
import Wide.All
import OpenK.AllK
import Wide.FinOn
import HandS.ForMost
import HandS.Exc
import HandS.IsInst
import HandS.RaiseMore
import HandS.FStr
import HandS.Deep
import HandS.SortInts
import HandS.Defaults
import HandS.MakeKw
import HandS.MakeKwOnly
import HandS.Property
import HandS.ExcOwn
import HandS.WordsExc
import HandS.OwnEq
import HandS.Ends
import KE.KStateDown
import HandS.Head0
import HandS.Head1
import HandS.Head2
import HandS.HeadEnd
import HandS.HeadHook1
import HandS.HeadHook2
import HandS.ExcInit
import HandS.ExcField
import KE.KExcIs
import HandS.Conv
import HandS.Style
import HandS.ExcIs
import HandS.TryOnly
import HandS.Rev
import KE.GoesEnumKw
import PySem.Challenge.RW_dueways_k24_whole_shaped_records
set_option Elab.async false
set_option linter.all false
set_option maxRecDepth 100000
set_option maxHeartbeats 0
/-! MirA: trees of data, the frame of a running def, and how both stand for slots and heap -/
namespace Mir
open PySem L2

inductive Dat where
  | non
  | bl (b : Bool)
  | int (i : Int)
  | str (x : Str)
  | lst (ds : List Dat)
  | tup (ds : List Dat)
  /-- a list of the caller's that is only read: the script -/
  | ro (ds : List Dat)
  | ins (c : Str) (fs : List (Str × Dat))
  | dic (ks : List (Key × Dat))

/-- where the classes stand; within an except suite: the caught exception, its class, its dict -/
structure CM where
  at_ : Str → Addr
  ex : Option (Addr × Str × Addr) := none
instance : CoeFun CM fun _ => Str → Addr := ⟨CM.at_⟩
mutual
inductive Rp (cm : CM) (K : PySem.W.Frag) (G : Hp) : V → Dat → Prop
  | non : Rp cm K G .non .non
  | bl (b : Bool) : Rp cm K G (.bl b) (.bl b)
  | int (i : Int) : Rp cm K G (.int i) (.int i)
  | str (x : Str) : Rp cm K G (.str x) (.str x)
  | lst {a : Addr} {vs : List V} {ds : List Dat} : G a = some (.lst vs) → RpAll cm K G vs ds → Rp cm K G (.ref a) (.lst ds)
  | ro {a : Addr} {vs : List V} {ds : List Dat} : SqL K G a vs → RpAll cm K G vs ds → Rp cm K G (.ref a) (.ro ds)
  | tup {a : Addr} {vs : List V} {ds : List Dat} : SqT K G a vs → RpAll cm K G vs ds → Rp cm K G (.ref a) (.tup ds)
  | ins {a dx : Addr} {c : Str} {gs : List (Str × V)} {fs : List (Str × Dat)} : G a = some (.ins (cm c) dx gs) → RpF cm K G gs fs → Rp cm K G (.ref a) (.ins c fs)
  | dic {a : Addr} {gs : List (Key × V)} {fs : List (Key × Dat)} : G a = some (.dK gs) → RpK cm K G gs fs → Rp cm K G (.ref a) (.dic fs)
inductive RpAll (cm : CM) (K : PySem.W.Frag) (G : Hp) : List V → List Dat → Prop
  | nil : RpAll cm K G [] []
  | cons {v : V} {d : Dat} {vs : List V} {ds : List Dat} : Rp cm K G v d → RpAll cm K G vs ds → RpAll cm K G (v :: vs) (d :: ds)
inductive RpF (cm : CM) (K : PySem.W.Frag) (G : Hp) : List (Str × V) → List (Str × Dat) → Prop
  | nil : RpF cm K G [] []
  | cons {f : Str} {v : V} {d : Dat} {gs : List (Str × V)} {fs : List (Str × Dat)} : Rp cm K G v d → RpF cm K G gs fs → RpF cm K G ((f, v) :: gs) ((f, d) :: fs)
inductive RpK (cm : CM) (K : PySem.W.Frag) (G : Hp) : List (Key × V) → List (Key × Dat) → Prop
  | nil : RpK cm K G [] []
  | cons {f : Key} {v : V} {d : Dat} {gs : List (Key × V)} {fs : List (Key × Dat)} : Rp cm K G v d → RpK cm K G gs fs → RpK cm K G ((f, v) :: gs) ((f, d) :: fs)
end

theorem sqT_same {K : PySem.W.Frag} {H H' : Hp} {a : Addr} {xs : List V} (e : Same H H') (h : SqT K H a xs) : SqT K H' a xs := by
  rcases h with (h | ⟨o, h⟩) | h
  · exact .inl (.inl (e _ _ h))
  · exact .inl (.inr ⟨o, e _ _ h⟩)
  · exact .inr h

section
variable {cm : CM} {K : PySem.W.Frag} {G G' : Hp}
mutual
theorem Rp.mono (e : Same G G') : ∀ {v : V} {d : Dat}, Rp cm K G v d → Rp cm K G' v d
  | _, _, .non => .non
  | _, _, .bl b => .bl b
  | _, _, .int i => .int i
  | _, _, .str x => .str x
  | _, _, .lst s r => .lst (e _ _ s) (RpAll.mono e r)
  | _, _, .ro s r => .ro (e.seq s) (RpAll.mono e r)
  | _, _, .tup s r => .tup (sqT_same e s) (RpAll.mono e r)
  | _, _, .ins s r => .ins (e _ _ s) (RpF.mono e r)
  | _, _, .dic s r => .dic (e _ _ s) (RpK.mono e r)
theorem RpAll.mono (e : Same G G') : ∀ {vs : List V} {ds : List Dat}, RpAll cm K G vs ds → RpAll cm K G' vs ds
  | _, _, .nil => .nil
  | _, _, .cons a b => .cons (Rp.mono e a) (RpAll.mono e b)
theorem RpF.mono (e : Same G G') : ∀ {vs : List (Str × V)} {ds : List (Str × Dat)}, RpF cm K G vs ds → RpF cm K G' vs ds
  | _, _, .nil => .nil
  | _, _, .cons a b => .cons (Rp.mono e a) (RpF.mono e b)
theorem RpK.mono (e : Same G G') : ∀ {vs : List (Key × V)} {ds : List (Key × Dat)}, RpK cm K G vs ds → RpK cm K G' vs ds
  | _, _, .nil => .nil
  | _, _, .cons a b => .cons (Rp.mono e a) (RpK.mono e b)
end
theorem RpAll.length : ∀ {vs : List V} {ds : List Dat}, RpAll cm K G vs ds → vs.length = ds.length
  | _, _, .nil => rfl
  | _, _, .cons _ b => congrArg Nat.succ (RpAll.length b)
theorem RpAll.get : ∀ {vs : List V} {ds : List Dat}, RpAll cm K G vs ds → ∀ {i : Nat} {d : Dat}, ds[i]? = some d → ∃ v, vs[i]? = some v ∧ Rp cm K G v d
  | _, _, .nil, i, d, e => by simp at e
  | _, _, .cons a b, 0, d, e => ⟨_, rfl, by simp at e; rw [← e]; exact a⟩
  | _, _, .cons a b, i + 1, d, e => RpAll.get b (i := i) (by simpa using e)
theorem RpAll.get' : ∀ {vs : List V} {ds : List Dat}, RpAll cm K G vs ds → ∀ {i : Nat} {v : V}, vs[i]? = some v → ∃ d, ds[i]? = some d ∧ Rp cm K G v d
  | _, _, .nil, i, d, e => by simp at e
  | _, _, .cons a b, 0, d, e => ⟨_, rfl, by simp at e; rw [← e]; exact a⟩
  | _, _, .cons a b, i + 1, d, e => RpAll.get' b (i := i) (by simpa using e)
theorem RpAll.append : ∀ {vs : List V} {ds : List Dat} {us : List V} {es : List Dat}, RpAll cm K G vs ds → RpAll cm K G us es → RpAll cm K G (vs ++ us) (ds ++ es)
  | _, _, _, _, .nil, r => r
  | _, _, _, _, .cons a b, r => .cons a (RpAll.append b r)
theorem RpAll.set {v : V} {d : Dat} (r : Rp cm K G v d) : ∀ {vs : List V} {ds : List Dat} (i : Nat), RpAll cm K G vs ds → RpAll cm K G (vs.set i v) (ds.set i d)
  | _, _, _, .nil => .nil
  | _, _, 0, .cons _ b => .cons r b
  | _, _, i + 1, .cons a b => .cons a (RpAll.set r i b)
theorem RpAll.take : ∀ {vs : List V} {ds : List Dat} (i : Nat), RpAll cm K G vs ds → RpAll cm K G (vs.take i) (ds.take i)
  | _, _, 0, _ => .nil
  | _, _, _ + 1, .nil => .nil
  | _, _, i + 1, .cons a b => .cons a (RpAll.take i b)
theorem RpAll.drop : ∀ {vs : List V} {ds : List Dat} (i : Nat), RpAll cm K G vs ds → RpAll cm K G (vs.drop i) (ds.drop i)
  | _, _, 0, r => r
  | _, _, _ + 1, .nil => .nil
  | _, _, i + 1, .cons a b => RpAll.drop i b
theorem RpAll.ints : ∀ (ns : List Int), RpAll cm K G (ns.map V.int) (ns.map Dat.int)
  | [] => .nil
  | n :: ns => .cons (.int n) (RpAll.ints ns)
theorem RpAll.ints_of : ∀ {vs : List V} {ns : List Int}, RpAll cm K G vs (ns.map Dat.int) → vs = ns.map V.int
  | _, [], .nil => rfl
  | _, n :: ns, .cons (.int _) b => by rw [RpAll.ints_of b]; rfl
theorem RpAll.bools_of : ∀ {vs : List V} {ns : List Bool}, RpAll cm K G vs (ns.map Dat.bl) → vs = ns.map V.bl
  | _, [], .nil => rfl
  | _, n :: ns, .cons (.bl _) b => by rw [RpAll.bools_of b]; rfl
theorem RpAll.strs_of : ∀ {vs : List V} {ns : List Str}, RpAll cm K G vs (ns.map Dat.str) → vs = ns.map V.str
  | _, [], .nil => rfl
  | _, n :: ns, .cons (.str _) b => by rw [RpAll.strs_of b]; rfl
theorem RpF.lookup : ∀ {gs : List (Str × V)} {fs : List (Str × Dat)}, RpF cm K G gs fs → ∀ {f : Str} {d : Dat}, fs.lookup f = some d → ∃ v, gs.lookup f = some v ∧ Rp cm K G v d
  | _, _, .nil, f, d, e => by cases e
  | _, _, .cons (f := g) (v := v) (d := d') (gs := gs) (fs := fs) a b, f, d, e => by
    simp only [List.lookup] at e ⊢
    cases h : (f == g) with
    | true => rw [h] at e; cases e; exact ⟨v, rfl, a⟩
    | false => rw [h] at e; exact RpF.lookup b e
theorem RpF.lookup_none : ∀ {gs : List (Str × V)} {fs : List (Str × Dat)}, RpF cm K G gs fs → ∀ {f : Str}, fs.lookup f = none → gs.lookup f = none
  | _, _, .nil, f, e => rfl
  | _, _, .cons (f := g) (v := v) (d := d') (gs := gs) (fs := fs) a b, f, e => by
    simp only [List.lookup] at e ⊢
    cases h : (f == g) with
    | true => rw [h] at e; cases e
    | false => rw [h] at e; exact RpF.lookup_none b e
theorem RpF.length : ∀ {gs : List (Str × V)} {fs : List (Str × Dat)}, RpF cm K G gs fs → gs.length = fs.length
  | _, _, .nil => rfl
  | _, _, .cons _ b => congrArg Nat.succ (RpF.length b)
end

/-- a field stored, in the trees -/
def putD (f : Str) (d : Dat) : List (Str × Dat) → List (Str × Dat)
  | [] => [(f, d)]
  | (g, e) :: r => if g = f then (g, d) :: r else (g, e) :: putD f d r
theorem RpF.put {cm : CM} {K : PySem.W.Frag} {G : Hp} {f : Str} {v : V} {d : Dat} (r : Rp cm K G v d) : ∀ {gs : List (Str × V)} {fs : List (Str × Dat)}, RpF cm K G gs fs → RpF cm K G (putF f v gs) (putD f d fs)
  | _, _, .nil => .cons r .nil
  | _, _, .cons (f := g) a b => by
    unfold putF putD
    by_cases h : g = f
    · rw [if_pos h, if_pos h]
      first
        | exact .cons r b
        | (subst h; exact .cons r b)
    · rw [if_neg h, if_neg h]
      exact .cons a (RpF.put r b)

/-! ### what is hidden -/
def hid (M : List Addr) (H : Hp) : Hp := fun a => if a ∈ M then none else H a
theorem hid_in {M : List Addr} {H : Hp} {a : Addr} (h : a ∈ M) : hid M H a = none := if_pos h
theorem hid_out {M : List Addr} {H : Hp} {a : Addr} (h : a ∉ M) : hid M H a = H a := if_neg h
theorem hid_le {M : List Addr} {H : Hp} : Same (hid M H) H := fun a o e => by
  by_cases h : a ∈ M
  · rw [hid_in h] at e; cases e
  · rw [hid_out h] at e; exact e
theorem hid_same {M : List Addr} {H H' : Hp} (s : ∀ a o, a ∉ M → H a = some o → H' a = some o) : Same (hid M H) (hid M H') := fun a o e => by
  by_cases h : a ∈ M
  · rw [hid_in h] at e; cases e
  · rw [hid_out h] at e ⊢; exact s a o h e
theorem hid_sub {M M' : List Addr} {H : Hp} (s : ∀ a, a ∈ M' → a ∈ M) : Same (hid M H) (hid M' H) := fun a o e => by
  by_cases h : a ∈ M
  · rw [hid_in h] at e; cases e
  · rw [hid_out h] at e
    rw [hid_out fun z => h (s a z)]; exact e
theorem hid_upd {M : List Addr} {H : Hp} {a : Addr} {o : HO} (h : a ∈ M) : hid M (upd H a o) = hid M H := by
  funext b
  by_cases hb : b ∈ M
  · rw [hid_in hb, hid_in hb]
  · rw [hid_out hb, hid_out hb, upd_ne (a := a) (b := b) (fun z => hb (by rw [z]; exact h))]
theorem same_new {H : Hp} {p : Addr} {o : HO} (h : H p = none) : Same H (upd H p o) := fun b x e => by
  rw [upd_ne (ne_of_none e h)]; exact e

/-! ### slots -/
inductive Own where
  | lst (ds : List Dat)
  | obj (c : Str) (fs : List (Str × Dat))
inductive Slot where
  | no
  | dat (d : Dat)
  /-- a list of the def's own making -/
  | loc (ds : List Dat)
  /-- what the j-th lent parameter holds -/
  | own (j : Nat) (o : Own)
  /-- a caught exception -/
  | exn (c : Str) (fs : List (Str × Dat))
abbrev Sg := List Slot
def Slot.isLoc : Slot → Bool
  | .loc _ => true
  | _ => false
def locs : Sg → St → List Addr
  | .loc _ :: S, some (.ref l) :: σ => l :: locs S σ
  | _ :: S, _ :: σ => locs S σ
  | _, _ => []
def owns : Sg → List Nat
  | .own j _ :: S => j :: owns S
  | _ :: S => owns S
  | [] => []

/-- the frame of a running def: hidden by its callers M, the heap at its entry H0, the addresses lent to it A0; hidden for a while, as they stand: T -/
structure Fm where
  cm : CM
  K : PySem.W.Frag
  M : List Addr
  H0 : Hp
  A0 : List Addr
  T : List (Addr × HO) := []
def vis (F : Fm) (S : Sg) (σ : St) (H : Hp) : Hp := hid (F.M ++ locs S σ) H
inductive OwnOk (cm : CM) (K : PySem.W.Frag) (G H : Hp) (l : Addr) : Own → Prop
  | lst {vs : List V} {ds : List Dat} : H l = some (.lst vs) → RpAll cm K G vs ds → OwnOk cm K G H l (.lst ds)
  | obj {c : Str} {dx : Addr} {gs : List (Str × V)} {fs : List (Str × Dat)} : H l = some (.ins (cm c) dx gs) → RpF cm K G gs fs → OwnOk cm K G H l (.obj c fs)
inductive SlotOk (F : Fm) (G H : Hp) : Slot → Option V → Prop
  | no {v : Option V} : SlotOk F G H .no v
  | dat {d : Dat} {v : V} : Rp F.cm F.K G v d → SlotOk F G H (.dat d) (some v)
  | loc {ds : List Dat} {l : Addr} {vs : List V} : H l = some (.lst vs) → RpAll F.cm F.K G vs ds → SlotOk F G H (.loc ds) (some (.ref l))
  | own {j : Nat} {o : Own} {l : Addr} : F.A0[j]? = some l → OwnOk F.cm F.K G H l o → SlotOk F G H (.own j o) (some (.ref l))
  | exn {c : Str} {fs : List (Str × Dat)} {a dd : Addr} {gs : List (Str × V)} : F.cm.ex = some (a, c, dd) → G dd = some (.xd gs) → RpF F.cm F.K G gs fs → SlotOk F G H (.exn c fs) (some (.ref a))
structure Rel (F : Fm) (S : Sg) (σ : St) (H : Hp) : Prop where
  len : S.length = σ.length
  sl : ∀ (i : Nat) (s : Slot) (v : Option V), S[i]? = some s → σ[i]? = some v → SlotOk F (vis F S σ H) H s v
  nd : (locs S σ).Nodup
  new : ∀ l, l ∈ locs S σ → F.H0 l = none
  ond : (owns S).Nodup
  and_ : F.A0.Nodup
  ain : ∀ a, a ∈ F.A0 → a ∈ F.M
  liv : ∀ a, a ∈ F.M → H a ≠ none
  lom : ∀ l, l ∈ locs S σ → l ∉ F.M
  tmp : ∀ p, p ∈ F.T → H p.1 = some p.2 ∧ p.1 ∈ F.M ∧ p.1 ∉ F.A0
  keep : ∀ a o, F.H0 a = some o → a ∉ F.A0 → H a = some o

theorem OwnOk.mono {cm : CM} {K : PySem.W.Frag} {G G' H H' : Hp} {l : Addr} {o : Own} (g : Same G G') (h : ∀ x, H l = some x → H' l = some x) (x : OwnOk cm K G H l o) : OwnOk cm K G' H' l o := by
  cases x with
  | lst e r => exact .lst (h _ e) (r.mono g)
  | obj e r => exact .obj (h _ e) (r.mono g)
theorem SlotOk.mono {F : Fm} {G G' H H' : Hp} {s : Slot} {v : Option V} (g : Same G G') (h : ∀ l x, v = some (.ref l) → s ≠ .no → (∀ d, s ≠ .dat d) → (∀ c fs, s ≠ .exn c fs) → H l = some x → H' l = some x) (x : SlotOk F G H s v) : SlotOk F G' H' s v := by
  cases x with
  | no => exact .no
  | dat r => exact .dat (r.mono g)
  | loc e r => exact .loc (h _ _ rfl (by intro z; cases z) (by intro d z; cases z) (by intro c fs z; cases z) e) (r.mono g)
  | own e o => exact .own e (o.mono g fun x q => h _ x rfl (by intro z; cases z) (by intro d z; cases z) (by intro c fs z; cases z) q)
  | exn e q r => exact .exn e (g _ _ q) (r.mono g)

theorem mem_locs : ∀ {S : Sg} {σ : St} {l : Addr}, l ∈ locs S σ ↔ ∃ (i : Nat) (ds : List Dat), S[i]? = some (Slot.loc ds) ∧ σ[i]? = some (some (V.ref l))
  | [], σ, l => by simp [locs]
  | s :: S, [], l => by
    have : locs (s :: S) [] = [] := by cases s <;> rfl
    simp [this]
  | s :: S, v :: σ, l => by
    constructor
    · intro h
      have hh : (∃ ds, s = .loc ds ∧ v = some (.ref l)) ∨ l ∈ locs S σ := by
        cases s with
        | loc ds =>
          cases v with
          | none => exact .inr h
          | some v =>
            cases v with
            | ref a =>
              rcases List.mem_cons.mp (show l ∈ a :: locs S σ from h) with e | e
              · exact .inl ⟨ds, rfl, by rw [e]⟩
              · exact .inr e
            | _ => exact .inr h
        | _ => exact .inr (by simpa [locs] using h)
      rcases hh with ⟨ds, rfl, rfl⟩ | h
      · exact ⟨0, ds, rfl, rfl⟩
      · obtain ⟨i, ds, a, b⟩ := mem_locs.mp h
        exact ⟨i + 1, ds, by simpa using a, by simpa using b⟩
    · rintro ⟨i, ds, a, b⟩
      cases i with
      | zero =>
        simp at a b
        subst a; subst b
        exact List.mem_cons_self ..
      | succ i =>
        have h : l ∈ locs S σ := mem_locs.mpr ⟨i, ds, by simpa using a, by simpa using b⟩
        cases s with
        | loc ds =>
          cases v with
          | none => exact h
          | some v =>
            cases v with
            | ref a => exact List.mem_cons_of_mem _ h
            | _ => exact h
        | _ => simpa [locs] using h

/-- one slot changed to what is no list of one's own -/
theorem locs_set_sub : ∀ {S : Sg} {σ : St} {i : Nat} {s : Slot} {v : Option V}, s.isLoc = false → List.Sublist (locs (S.set i s) (σ.set i v)) (locs S σ)
  | [], σ, i, s, v, h => by simp [locs]
  | a :: S, [], i, s, v, h => by
    have : ∀ T : Sg, locs T [] = [] := fun T => by cases T with
      | nil => rfl
      | cons x r => cases x <;> rfl
    simp [this]
  | a :: S, b :: σ, 0, s, v, h => by
    have e : locs ((a :: S).set 0 s) ((b :: σ).set 0 v) = locs S σ := by
      cases s with
      | loc ds => cases h
      | _ => simp [locs]
    rw [e]
    cases a with
    | loc ds =>
      cases b with
      | none => simp [locs]
      | some b =>
        cases b with
        | ref l => exact List.sublist_cons_self _ _
        | _ => simp [locs]
    | _ => simp [locs]
  | a :: S, b :: σ, i + 1, s, v, h => by
    have ih := locs_set_sub (S := S) (σ := σ) (i := i) (s := s) (v := v) h
    show List.Sublist (locs (a :: S.set i s) (b :: σ.set i v)) (locs (a :: S) (b :: σ))
    cases a with
    | loc ds =>
      cases b with
      | none => simpa [locs] using ih
      | some b =>
        cases b with
        | ref l => exact ih.cons_cons l
        | _ => simpa [locs] using ih
    | _ => simpa [locs] using ih
/-- the same list, other items -/
theorem locs_set_same : ∀ {S : Sg} {σ : St} {i : Nat} {ds es : List Dat}, S[i]? = some (.loc ds) → locs (S.set i (.loc es)) σ = locs S σ
  | [], σ, i, ds, es, h => by simp at h
  | a :: S, [], i, ds, es, h => by
    have : ∀ T : Sg, locs T [] = [] := fun T => by cases T with
      | nil => rfl
      | cons x r => cases x <;> rfl
    simp [this]
  | a :: S, b :: σ, 0, ds, es, h => by
    simp at h
    subst h
    cases b with
    | none => rfl
    | some b => cases b <;> rfl
  | a :: S, b :: σ, i + 1, ds, es, h => by
    have ih := locs_set_same (S := S) (σ := σ) (i := i) (ds := ds) (es := es) (by simpa using h)
    show locs (a :: S.set i _) (b :: σ) = locs (a :: S) (b :: σ)
    cases a with
    | loc ds =>
      cases b with
      | none => simpa [locs] using ih
      | some b =>
        cases b with
        | ref l => simp [locs, ih]
        | _ => simpa [locs] using ih
    | _ => simpa [locs] using ih
/-- a new list -/
theorem locs_set_new : ∀ {S : Sg} {σ : St} {i : Nat} {ds : List Dat} {p : Addr}, (locs S σ).Nodup → p ∉ locs S σ → (locs (S.set i (.loc ds)) (σ.set i (some (.ref p)))).Nodup ∧ ∀ l, l ∈ locs (S.set i (.loc ds)) (σ.set i (some (.ref p))) → l = p ∨ l ∈ locs S σ
  | [], σ, i, ds, p, h, hp => by simp [locs]
  | a :: S, [], i, ds, p, h, hp => by
    have : ∀ T : Sg, locs T [] = [] := fun T => by cases T with
      | nil => rfl
      | cons x r => cases x <;> rfl
    simp [this]
  | a :: S, b :: σ, 0, ds, p, h, hp => by
    show (p :: locs S σ).Nodup ∧ ∀ l, l ∈ p :: locs S σ → l = p ∨ l ∈ locs (a :: S) (b :: σ)
    have sub : List.Sublist (locs S σ) (locs (a :: S) (b :: σ)) := by
      cases a with
      | loc ds =>
        cases b with
        | none => simp [locs]
        | some b =>
          cases b with
          | ref l => exact List.sublist_cons_self _ _
          | _ => simp [locs]
      | _ => simp [locs]
    exact ⟨List.nodup_cons.mpr ⟨fun z => hp (sub.subset z), h.sublist sub⟩, fun l hl => (List.mem_cons.mp hl).imp id fun z => sub.subset z⟩
  | a :: S, b :: σ, i + 1, ds, p, h, hp => by
    show (locs (a :: S.set i _) (b :: σ.set i _)).Nodup ∧ ∀ l, l ∈ locs (a :: S.set i _) (b :: σ.set i _) → l = p ∨ l ∈ locs (a :: S) (b :: σ)
    have plain : locs (a :: S) (b :: σ) = locs S σ → (locs (a :: S.set i (.loc ds)) (b :: σ.set i (some (.ref p))) = locs (S.set i (.loc ds)) (σ.set i (some (.ref p)))) →
        (locs (a :: S.set i (.loc ds)) (b :: σ.set i (some (.ref p)))).Nodup ∧ ∀ l, l ∈ locs (a :: S.set i (.loc ds)) (b :: σ.set i (some (.ref p))) → l = p ∨ l ∈ locs (a :: S) (b :: σ) := fun e1 e2 => by
      rw [e2, e1]
      exact locs_set_new (by rw [← e1]; exact h) (by rw [← e1]; exact hp)
    cases a with
    | loc es =>
      cases b with
      | none => exact plain rfl rfl
      | some b =>
        cases b with
        | ref l =>
          have h' : (l :: locs S σ).Nodup := h
          have hp' : p ∉ l :: locs S σ := hp
          obtain ⟨n1, n2⟩ := List.nodup_cons.mp h'
          obtain ⟨r1, r2⟩ := locs_set_new (S := S) (σ := σ) (i := i) (ds := ds) n2 fun z => hp' (List.mem_cons_of_mem _ z)
          show (l :: locs (S.set i _) (σ.set i _)).Nodup ∧ ∀ x, x ∈ l :: locs (S.set i _) (σ.set i _) → x = p ∨ x ∈ l :: locs S σ
          refine ⟨List.nodup_cons.mpr ⟨fun z => ?_, r1⟩, fun x hx => ?_⟩
          · rcases r2 l z with e | e
            · exact hp' (by rw [e]; exact List.mem_cons_self ..)
            · exact n1 e
          · rcases List.mem_cons.mp hx with e | e
            · exact .inr (by rw [e]; exact List.mem_cons_self ..)
            · exact (r2 x e).imp id fun z => List.mem_cons_of_mem _ z
        | _ => exact plain rfl rfl
    | _ => exact plain rfl rfl
/-- a list that is given away -/
theorem locs_set_gone : ∀ {S : Sg} {σ : St} {i : Nat} {ds : List Dat} {l : Addr} {s : Slot}, (locs S σ).Nodup → S[i]? = some (.loc ds) → σ[i]? = some (some (.ref l)) → s.isLoc = false → l ∉ locs (S.set i s) σ
  | [], σ, i, ds, l, s, h, h1, h2, h3 => by simp at h1
  | a :: S, [], i, ds, l, s, h, h1, h2, h3 => by simp at h2
  | a :: S, b :: σ, 0, ds, l, s, h, h1, h2, h3 => by
    simp at h1 h2
    subst h1; subst h2
    have e : locs ((Slot.loc ds :: S).set 0 s) (some (V.ref l) :: σ) = locs S σ := by
      cases s with
      | loc ds => cases h3
      | _ => simp [locs]
    rw [e]
    exact (List.nodup_cons.mp (show (l :: locs S σ).Nodup from h)).1
  | a :: S, b :: σ, i + 1, ds, l, s, h, h1, h2, h3 => by
    show l ∉ locs (a :: S.set i s) (b :: σ)
    have h1' : S[i]? = some (.loc ds) := by simpa using h1
    have h2' : σ[i]? = some (some (.ref l)) := by simpa using h2
    have hin : l ∈ locs S σ := mem_locs.mpr ⟨i, ds, h1', h2'⟩
    cases a with
    | loc es =>
      cases b with
      | none =>
        have := locs_set_gone (S := S) (σ := σ) (s := s) h h1' h2' h3
        simpa [locs] using this
      | some b =>
        cases b with
        | ref x =>
          have h' : (x :: locs S σ).Nodup := h
          obtain ⟨n1, n2⟩ := List.nodup_cons.mp h'
          have := locs_set_gone (S := S) (σ := σ) (s := s) n2 h1' h2' h3
          intro z
          rcases List.mem_cons.mp (show l ∈ x :: locs (S.set i s) σ from z) with e | e
          · exact n1 (by rw [← e]; exact hin)
          · exact this e
        | _ =>
          have := locs_set_gone (S := S) (σ := σ) (s := s) h h1' h2' h3
          simpa [locs] using this
    | _ =>
      have := locs_set_gone (S := S) (σ := σ) (s := s) (by simpa [locs] using h) h1' h2' h3
      simpa [locs] using this

theorem owns_set_sub : ∀ {S : Sg} {i : Nat} {s : Slot}, (∀ j o, s ≠ .own j o) → List.Sublist (owns (S.set i s)) (owns S)
  | [], i, s, h => by simp [owns]
  | a :: S, 0, s, h => by
    have e : owns ((a :: S).set 0 s) = owns S := by
      cases s with
      | own j o => exact absurd rfl (h j o)
      | _ => simp [owns]
    rw [e]
    cases a with
    | own j o => exact List.sublist_cons_self _ _
    | _ => simp [owns]
  | a :: S, i + 1, s, h => by
    have ih := owns_set_sub (S := S) (i := i) (s := s) h
    show List.Sublist (owns (a :: S.set i s)) (owns (a :: S))
    cases a with
    | own j o => exact ih.cons_cons j
    | _ => simpa [owns] using ih
theorem owns_set_same : ∀ {S : Sg} {i j : Nat} {o u : Own}, S[i]? = some (.own j o) → owns (S.set i (.own j u)) = owns S
  | [], i, j, o, u, h => by simp at h
  | a :: S, 0, j, o, u, h => by simp at h; subst h; rfl
  | a :: S, i + 1, j, o, u, h => by
    have ih := owns_set_same (S := S) (i := i) (u := u) (by simpa using h)
    show owns (a :: S.set i _) = owns (a :: S)
    cases a with
    | own j o => simp [owns, ih]
    | _ => simpa [owns] using ih
theorem mem_owns : ∀ {S : Sg} {j : Nat}, (∃ (i : Nat) (o : Own), S[i]? = some (.own j o)) → j ∈ owns S
  | [], j, ⟨i, o, h⟩ => by simp at h
  | a :: S, j, ⟨0, o, h⟩ => by simp at h; subst h; exact List.mem_cons_self ..
  | a :: S, j, ⟨i + 1, o, h⟩ => by
    have ih := mem_owns (S := S) (j := j) ⟨i, o, by simpa using h⟩
    cases a with
    | own j o => exact List.mem_cons_of_mem _ ih
    | _ => simpa [owns] using ih
/-- no two slots hold the same lent thing -/
theorem owns_one : ∀ {S : Sg} {i k j : Nat} {o u : Own}, (owns S).Nodup → S[i]? = some (.own j o) → S[k]? = some (.own j u) → i = k
  | [], i, k, j, o, u, _, h, _ => by simp at h
  | a :: S, 0, 0, j, o, u, _, _, _ => rfl
  | a :: S, 0, k + 1, j, o, u, n, h, h' => by
    simp at h; subst h
    exact absurd (mem_owns ⟨k, u, by simpa using h'⟩) (List.nodup_cons.mp (show (j :: owns S).Nodup from n)).1
  | a :: S, i + 1, 0, j, o, u, n, h, h' => by
    simp at h'; subst h'
    exact absurd (mem_owns ⟨i, o, by simpa using h⟩) (List.nodup_cons.mp (show (j :: owns S).Nodup from n)).1
  | a :: S, i + 1, k + 1, j, o, u, n, h, h' => by
    have n' : (owns S).Nodup := by
      cases a with
      | own j o => exact (List.nodup_cons.mp (show (j :: owns S).Nodup from n)).2
      | _ => simpa [owns] using n
    exact congrArg Nat.succ (owns_one (S := S) (i := i) (k := k) (j := j) (o := o) (u := u) n' (by simpa using h) (by simpa using h'))
end Mir

/-! MirB: how the frame's relation goes on; results, their wishes -/
namespace Mir
open PySem L2

theorem locs_one : ∀ {S : Sg} {σ : St} {i k : Nat} {ds es : List Dat} {l : Addr}, (locs S σ).Nodup → S[i]? = some (.loc ds) → σ[i]? = some (some (.ref l)) → S[k]? = some (.loc es) → σ[k]? = some (some (.ref l)) → i = k := by
  intro S σ i k ds es l n a b c d
  by_cases e : i = k
  · exact e
  · have h1 : l ∉ locs (S.set i .no) σ := locs_set_gone n a b rfl
    exact absurd (mem_locs.mpr ⟨k, es, by rw [List.getElem?_set_ne e]; exact c, d⟩) h1

theorem set_same {α : Type} {xs : List α} {i : Nat} {a : α} (h : xs[i]? = some a) : xs.set i a = xs := by
  refine List.ext_getElem? fun k => ?_
  by_cases ek : i = k
  · subst ek
    have q : i < xs.length := (List.getElem?_eq_some_iff.mp h).1
    rw [List.getElem?_set, if_pos rfl, if_pos q, h]
  · rw [List.getElem?_set_ne ek]
section
variable {F : Fm} {S : Sg} {σ : St} {H H' : Hp}
theorem Rel.locH (R : Rel F S σ H) {l : Addr} (h : l ∈ locs S σ) : ∃ vs, H l = some (.lst vs) := by
  obtain ⟨i, ds, a, b⟩ := mem_locs.mp h
  have q := R.sl i _ _ a b
  cases q with
  | loc e r => exact ⟨_, e⟩
theorem Rel.mlive (R : Rel F S σ H) {a : Addr} (h : a ∈ F.M) : H a ≠ none := R.liv a h
theorem Rel.alv (R : Rel F S σ H) (a : Addr) (h : a ∈ F.A0) : H a ≠ none := R.liv a (R.ain a h)
theorem Rel.hlive (R : Rel F S σ H) {a : Addr} (h : a ∈ F.M ++ locs S σ) : H a ≠ none := by
  rcases List.mem_append.mp h with h | h
  · exact R.mlive h
  · obtain ⟨vs, e⟩ := R.locH h
    rw [e]; simp
theorem Rel.fresh (R : Rel F S σ H) {p : Addr} (h : H p = none) : p ∉ F.M ++ locs S σ := fun z => R.hlive z h
theorem Rel.fresh0 (R : Rel F S σ H) {p : Addr} (h : H p = none) : F.H0 p = none := by
  cases q : F.H0 p with
  | none => rfl
  | some o =>
    by_cases ha : p ∈ F.A0
    · exact absurd h (R.alv p ha)
    · rw [R.keep p o q ha] at h; cases h
theorem Rel.locM (R : Rel F S σ H) {l : Addr} (h : l ∈ locs S σ) : l ∉ F.M := R.lom l h
theorem upd_some {H : Hp} {a l : Addr} {o : HO} (h : H a ≠ none) : upd H l o a ≠ none := by
  by_cases e : a = l
  · rw [e, upd_same]; simp
  · rw [upd_ne e]; exact h
theorem vis_grow (e : Same H H') : Same (vis F S σ H) (vis F S σ H') := hid_same fun a o _ q => e a o q
theorem Rel.grow (R : Rel F S σ H) (e : Same H H') : Rel F S σ H' where
  len := R.len
  sl := fun i s v a b => (R.sl i s v a b).mono (vis_grow e) fun l x _ _ _ _ q => e l x q
  nd := R.nd
  new := R.new
  ond := R.ond
  and_ := R.and_
  ain := R.ain
  liv := fun a h => by
    cases q : H a with
    | none => exact absurd q (R.liv a h)
    | some o => rw [e a o q]; simp
  lom := R.lom
  tmp := fun p h => ⟨e _ _ (R.tmp p h).1, (R.tmp p h).2⟩
  keep := fun a o q n => e a o (R.keep a o q n)
/-- a new object that is nobody's own -/
theorem Rel.vnew (R : Rel F S σ H) {p : Addr} {o : HO} (h : H p = none) : vis F S σ (upd H p o) p = some o := by
  unfold vis
  rw [hid_out (R.fresh h), upd_same]

theorem get_set_cases {α : Type} {xs : List α} {i k : Nat} {a b : α} (h : (xs.set i a)[k]? = some b) : (k = i ∧ b = a) ∨ (k ≠ i ∧ xs[k]? = some b) := by
  by_cases e : k = i
  · subst e
    rw [List.getElem?_set] at h
    simp at h
    exact .inl ⟨rfl, h.2.symm⟩
  · rw [List.getElem?_set_ne fun z => e z.symm] at h
    exact .inr ⟨e, h⟩

/-- a slot gets a value that is nobody's own -/
theorem Rel.set (R : Rel F S σ H) {i : Nat} {s : Slot} {v : Option V} (h1 : s.isLoc = false) (h2 : ∀ j o, s ≠ .own j o) (ok : SlotOk F (vis F S σ H) H s v) :
    Rel F (S.set i s) (σ.set i v) H ∧ Same (vis F S σ H) (vis F (S.set i s) (σ.set i v) H) := by
  have sub := locs_set_sub (S := S) (σ := σ) (i := i) (s := s) (v := v) h1
  have g : Same (vis F S σ H) (vis F (S.set i s) (σ.set i v) H) := hid_sub fun a ha => by
    rcases List.mem_append.mp ha with ha | ha
    · exact List.mem_append_left _ ha
    · exact List.mem_append_right _ (sub.subset ha)
  refine ⟨⟨by rw [List.length_set, List.length_set]; exact R.len, fun k t w a b => ?_, R.nd.sublist sub, fun l hl => R.new l (sub.subset hl), R.ond.sublist (owns_set_sub h2), R.and_, R.ain, R.liv, fun l hl => R.lom l (sub.subset hl), R.tmp, R.keep⟩, g⟩
  rcases get_set_cases a with ⟨e, rfl⟩ | ⟨e, a⟩
  · rcases get_set_cases b with ⟨_, rfl⟩ | ⟨e', _⟩
    · exact ok.mono g fun _ _ _ _ _ _ q => q
    · exact absurd e e'
  · rcases get_set_cases b with ⟨e', _⟩ | ⟨_, b⟩
    · exact absurd e' e
    · exact (R.sl k t w a b).mono g fun _ _ _ _ _ _ q => q
theorem Rel.dat (R : Rel F S σ H) {i : Nat} {v : V} {d : Dat} (r : Rp F.cm F.K (vis F S σ H) v d) :
    Rel F (S.set i (.dat d)) (σ.set i (some v)) H ∧ Same (vis F S σ H) (vis F (S.set i (.dat d)) (σ.set i (some v)) H) := R.set rfl (fun _ _ z => by cases z) (.dat r)
theorem Rel.no (R : Rel F S σ H) {i : Nat} {v : Option V} : Rel F (S.set i .no) (σ.set i v) H ∧ Same (vis F S σ H) (vis F (S.set i .no) (σ.set i v) H) := R.set rfl (fun _ _ z => by cases z) .no
/-- a slot gets a new list of the def's own -/
theorem Rel.newLoc (R : Rel F S σ H) {i : Nat} {p : Addr} {vs : List V} {ds : List Dat} (hp : H p = none) (r : RpAll F.cm F.K (vis F S σ H) vs ds) :
    Rel F (S.set i (.loc ds)) (σ.set i (some (.ref p))) (upd H p (.lst vs)) ∧ Same (vis F S σ H) (vis F (S.set i (.loc ds)) (σ.set i (some (.ref p))) (upd H p (.lst vs))) := by
  have fr := R.fresh hp
  have hpl : p ∉ locs S σ := fun z => fr (List.mem_append_right _ z)
  obtain ⟨n1, n2⟩ := locs_set_new (S := S) (σ := σ) (i := i) (ds := ds) R.nd hpl
  have e : Same H (upd H p (.lst vs)) := same_new hp
  have g : Same (vis F S σ H) (vis F (S.set i (.loc ds)) (σ.set i (some (.ref p))) (upd H p (.lst vs))) := fun a o q => by
    by_cases ha : a ∈ F.M ++ locs S σ
    · unfold vis at q; rw [hid_in ha] at q; cases q
    · unfold vis at q ⊢
      rw [hid_out ha] at q
      rw [hid_out, e a o q]
      intro z
      rcases List.mem_append.mp z with z | z
      · exact ha (List.mem_append_left _ z)
      · rcases n2 a z with y | y
        · rw [y, hp] at q; cases q
        · exact ha (List.mem_append_right _ y)
  refine ⟨⟨by rw [List.length_set, List.length_set]; exact R.len, fun k t w a b => ?_, n1, fun l hl => ?_, R.ond.sublist (owns_set_sub fun _ _ z => by cases z), R.and_, R.ain, fun a h => upd_some (R.liv a h), fun l hl => ?_, fun p h => ⟨e _ _ (R.tmp p h).1, (R.tmp p h).2⟩, fun a o q n => e a o (R.keep a o q n)⟩, g⟩
  · rcases get_set_cases a with ⟨ek, rfl⟩ | ⟨ek, a⟩
    · rcases get_set_cases b with ⟨_, rfl⟩ | ⟨e', _⟩
      · exact .loc upd_same (r.mono g)
      · exact absurd ek e'
    · rcases get_set_cases b with ⟨e', _⟩ | ⟨_, b⟩
      · exact absurd e' ek
      · exact (R.sl k t w a b).mono g fun l x _ _ _ _ q => e l x q
  · rcases n2 l hl with y | y
    · rw [y]; exact R.fresh0 hp
    · exact R.new l y
  · rcases n2 l hl with y | y
    · rw [y]; exact fun z => fr (List.mem_append_left _ z)
    · exact R.lom l y
/-- a list of the def's own changes -/
theorem Rel.setLoc (R : Rel F S σ H) {i : Nat} {l : Addr} {us : List V} {cs ds : List Dat} (hi : S[i]? = some (.loc cs)) (hl : σ[i]? = some (some (.ref l))) (r : RpAll F.cm F.K (vis F S σ H) us ds) :
    Rel F (S.set i (.loc ds)) σ (upd H l (.lst us)) ∧ Same (vis F S σ H) (vis F (S.set i (.loc ds)) σ (upd H l (.lst us))) := by
  have hin : l ∈ locs S σ := mem_locs.mpr ⟨i, cs, hi, hl⟩
  have eL : locs (S.set i (.loc ds)) σ = locs S σ := locs_set_same hi
  have eG : vis F (S.set i (.loc ds)) σ (upd H l (.lst us)) = vis F S σ H := by
    unfold vis
    rw [eL, hid_upd (List.mem_append_right _ hin)]
  have g : Same (vis F S σ H) (vis F (S.set i (.loc ds)) σ (upd H l (.lst us))) := by rw [eG]; exact Same.refl _
  have nl : F.H0 l = none := R.new l hin
  refine ⟨⟨by rw [List.length_set]; exact R.len, fun k t w a b => ?_, by rw [eL]; exact R.nd, fun x hx => R.new x (by rw [← eL]; exact hx), R.ond.sublist (owns_set_sub fun _ _ z => by cases z), R.and_, R.ain, fun a h => upd_some (R.liv a h), fun x hx => R.lom x (by rw [← eL]; exact hx), fun p h => ⟨by rw [upd_ne fun z => R.lom l hin (by rw [← z]; exact (R.tmp p h).2.1)]; exact (R.tmp p h).1, (R.tmp p h).2⟩, fun a o q n => ?_⟩, g⟩
  · rcases get_set_cases a with ⟨ek, rfl⟩ | ⟨ek, a⟩
    · rw [ek, hl] at b
      cases b
      exact .loc upd_same (r.mono g)
    · refine (R.sl k t w a b).mono g fun l' x ew n1 n2 n3 q => ?_
      have hne : l' ≠ l := fun z => by
        rw [z] at ew
        cases t with
        | no => exact n1 rfl
        | dat d => exact n2 d rfl
        | exn c fs => exact n3 c fs rfl
        | loc es => exact ek (locs_one R.nd a (by rw [b, ew]) hi hl)
        | own j o =>
          have y := R.sl k _ w a b
          rw [ew] at y
          cases y with
          | own e0 _ => exact R.lom l hin (R.ain l (List.mem_of_getElem? e0))
      rw [upd_ne hne]; exact q
  · rw [upd_ne fun z => by rw [z, nl] at q; cases q]
    exact R.keep a o q n
/-- what was lent changes -/
theorem Rel.setOwn (R : Rel F S σ H) {i j : Nat} {l : Addr} {o u : Own} {ho : HO} (hi : S[i]? = some (.own j o)) (hl : σ[i]? = some (some (.ref l))) (hj : F.A0[j]? = some l) (r : OwnOk F.cm F.K (vis F S σ H) (upd H l ho) l u) :
    Rel F (S.set i (.own j u)) σ (upd H l ho) ∧ Same (vis F S σ H) (vis F (S.set i (.own j u)) σ (upd H l ho)) := by
  have hA : l ∈ F.A0 := List.mem_of_getElem? hj
  have hM : l ∈ F.M := R.ain l hA
  have sub : List.Sublist (locs (S.set i (.own j u)) σ) (locs S σ) := by
    have := locs_set_sub (S := S) (σ := σ) (i := i) (s := .own j u) (v := some (.ref l)) rfl
    rw [set_same hl] at this
    exact this
  have g : Same (vis F S σ H) (vis F (S.set i (.own j u)) σ (upd H l ho)) := by
    unfold vis
    rw [hid_upd (List.mem_append_left _ hM)]
    exact hid_sub fun a ha => by
      rcases List.mem_append.mp ha with ha | ha
      · exact List.mem_append_left _ ha
      · exact List.mem_append_right _ (sub.subset ha)
  refine ⟨⟨by rw [List.length_set]; exact R.len, fun k t w a b => ?_, R.nd.sublist sub, fun x hx => R.new x (sub.subset hx), by rw [owns_set_same hi]; exact R.ond, R.and_, R.ain, fun a h => upd_some (R.liv a h), fun x hx => R.lom x (sub.subset hx), fun p h => ⟨by rw [upd_ne fun z => (R.tmp p h).2.2 (by rw [z]; exact hA)]; exact (R.tmp p h).1, (R.tmp p h).2⟩, fun a x q n => ?_⟩, g⟩
  · rcases get_set_cases a with ⟨ek, rfl⟩ | ⟨ek, a2⟩
    · rw [ek, hl] at b
      cases b
      exact .own hj (r.mono g fun _ q => q)
    · refine (R.sl k t w a2 b).mono g fun l' x ew n1 n2 n3 q => ?_
      have hne : l' ≠ l := fun z => by
        rw [z] at ew
        cases t with
        | no => exact n1 rfl
        | dat d => exact n2 d rfl
        | exn c fs => exact n3 c fs rfl
        | loc es => exact R.locM (mem_locs.mpr ⟨k, es, a2, by rw [b, ew]⟩) hM
        | own j' o' =>
          have y := R.sl k _ w a2 b
          rw [ew] at y
          cases y with
          | own e0 _ =>
            have ej : j' = j := nd_ix R.and_ e0 hj
            rw [ej] at a2
            exact ek (owns_one R.ond a2 hi)
      rw [upd_ne hne]; exact q
  · rw [upd_ne fun z => n (by rw [z]; exact hA)]
    exact R.keep a x q n
/-- a list of the def's own becomes a value for all -/
theorem Rel.freeze (R : Rel F S σ H) {i : Nat} {l : Addr} {ds : List Dat} (hi : S[i]? = some (.loc ds)) (hl : σ[i]? = some (some (.ref l))) :
    Rel F (S.set i (.dat (.lst ds))) σ H ∧ Same (vis F S σ H) (vis F (S.set i (.dat (.lst ds))) σ H) ∧ Rp F.cm F.K (vis F (S.set i (.dat (.lst ds))) σ H) (.ref l) (.lst ds) := by
  have e : σ.set i (some (.ref l)) = σ := set_same hl
  have sub : List.Sublist (locs (S.set i (.dat (.lst ds))) σ) (locs S σ) := by
    have := locs_set_sub (S := S) (σ := σ) (i := i) (s := .dat (.lst ds)) (v := some (.ref l)) rfl
    rw [e] at this
    exact this
  have g : Same (vis F S σ H) (vis F (S.set i (.dat (.lst ds))) σ H) := hid_sub fun a ha => by
    rcases List.mem_append.mp ha with ha | ha
    · exact List.mem_append_left _ ha
    · exact List.mem_append_right _ (sub.subset ha)
  have y := R.sl i _ _ hi hl
  have hin : l ∈ locs S σ := mem_locs.mpr ⟨i, ds, hi, hl⟩
  cases y with
  | @loc _ _ vs eh r =>
    have out : l ∉ F.M ++ locs (S.set i (.dat (.lst ds))) σ := fun z => by
      rcases List.mem_append.mp z with z | z
      · exact R.locM hin z
      · exact locs_set_gone R.nd hi hl rfl z
    have rp : Rp F.cm F.K (vis F (S.set i (.dat (.lst ds))) σ H) (.ref l) (.lst ds) := .lst (by unfold vis; rw [hid_out out]; exact eh) (r.mono g)
    refine ⟨⟨by rw [List.length_set]; exact R.len, fun k t w a b => ?_, R.nd.sublist sub, fun x hx => R.new x (sub.subset hx), R.ond.sublist (owns_set_sub fun _ _ z => by cases z), R.and_, R.ain, R.liv, fun x hx => R.lom x (sub.subset hx), R.tmp, R.keep⟩, g, rp⟩
    rcases get_set_cases a with ⟨ek, rfl⟩ | ⟨ek, a⟩
    · rw [ek, hl] at b
      cases b
      exact .dat rp
    · exact (R.sl k t w a b).mono g fun _ _ _ _ _ _ q => q
/-- a new thing that is nobody's: hidden for a while -/
def Fm.hide (F : Fm) (p : Addr) (o : HO) : Fm := { F with M := p :: F.M, T := (p, o) :: F.T }
theorem Rel.hide (R : Rel F S σ H) {p : Addr} {o : HO} (hp : H p = none) : Rel (F.hide p o) S σ (upd H p o) ∧ Same (vis F S σ H) (vis (F.hide p o) S σ (upd H p o)) := by
  have fr := R.fresh hp
  have e : Same H (upd H p o) := same_new hp
  have g : Same (vis F S σ H) (vis (F.hide p o) S σ (upd H p o)) := fun a x q => by
    unfold vis at q ⊢
    by_cases ha : a ∈ F.M ++ locs S σ
    · rw [hid_in ha] at q; cases q
    · rw [hid_out ha] at q
      have hne : a ≠ p := ne_of_none q hp
      rw [hid_out fun z => ?_, upd_ne hne]
      · exact q
      · rcases List.mem_cons.mp (show a ∈ p :: (F.M ++ locs S σ) from z) with z | z
        · exact hne z
        · exact ha z
  refine ⟨⟨R.len, fun i s v a b => ?_, R.nd, R.new, R.ond, R.and_, fun a h => List.mem_cons_of_mem _ (R.ain a h), fun a h => ?_, fun l hl z => ?_, fun q h => ?_, fun a x q n => e a x (R.keep a x q n)⟩, g⟩
  · have y := R.sl i s v a b
    have y2 : SlotOk F (vis (F.hide p o) S σ (upd H p o)) (upd H p o) s v := y.mono g fun l x _ _ _ _ q => e l x q
    cases y2 with
    | no => exact .no
    | dat r => exact .dat r
    | loc h r => exact .loc h r
    | own h r => exact .own h r
    | exn e0 q r => exact .exn e0 q r
  · rcases List.mem_cons.mp (show a ∈ p :: F.M from h) with h | h
    · rw [h, upd_same]; simp
    · exact upd_some (R.liv a h)
  · rcases List.mem_cons.mp (show l ∈ p :: F.M from z) with z | z
    · exact fr (by rw [← z]; exact List.mem_append_right _ hl)
    · exact R.lom l hl z
  · rcases List.mem_cons.mp (show q ∈ (p, o) :: F.T from h) with h | h
    · rw [h]; exact ⟨upd_same, List.mem_cons_self .., fun z => R.alv p z hp⟩
    · exact ⟨e _ _ (R.tmp q h).1, List.mem_cons_of_mem _ (R.tmp q h).2.1, (R.tmp q h).2.2⟩
theorem Rel.hidden {p : Addr} {o o' : HO} (R : Rel (F.hide p o) S σ H) (h0 : F.H0 p = none) (ht : ∀ q, q ∈ F.T → q.1 ≠ p) : Rel (F.hide p o') S σ (upd H p o') ∧ vis (F.hide p o') S σ (upd H p o') = vis (F.hide p o) S σ H := by
  have hM : p ∈ (F.hide p o).M := List.mem_cons_self ..
  have ha : p ∉ F.A0 := (R.tmp (p, o) (List.mem_cons_self ..)).2.2
  have eG : vis (F.hide p o') S σ (upd H p o') = vis (F.hide p o) S σ H := by
    show hid ((F.hide p o).M ++ locs S σ) (upd H p o') = hid ((F.hide p o).M ++ locs S σ) H
    rw [hid_upd (List.mem_append_left _ hM)]
  refine ⟨⟨R.len, fun i s v a b => ?_, R.nd, R.new, R.ond, R.and_, R.ain, fun a h => upd_some (R.liv a h), R.lom, fun q h => ?_, fun a x q n => ?_⟩, eG⟩
  · rw [eG]
    have y := (R.sl i s v a b).mono (Same.refl _) (H' := upd H p o') fun l x ev n1 n2 n3 q => by
      have hne : l ≠ p := fun z => by
        rw [z] at ev
        cases s with
        | no => exact n1 rfl
        | dat d => exact n2 d rfl
        | exn c fs => exact n3 c fs rfl
        | loc ds => exact R.lom p (mem_locs.mpr ⟨i, ds, a, by rw [b, ev]⟩) hM
        | own j u =>
          have y := R.sl i _ v a b
          rw [ev] at y
          cases y with
          | own e0 _ => exact ha (List.mem_of_getElem? e0)
      rw [upd_ne hne]; exact q
    cases y with
    | no => exact .no
    | dat r => exact .dat r
    | loc h r => exact .loc h r
    | own h r => exact .own h r
    | exn e0 q r => exact .exn e0 q r
  · rcases List.mem_cons.mp (show q ∈ (p, o') :: F.T from h) with h | h
    · rw [h]; exact ⟨upd_same, hM, ha⟩
    · have t := R.tmp q (List.mem_cons_of_mem _ h)
      exact ⟨by rw [upd_ne (ht q h)]; exact t.1, t.2⟩
  · have hne : a ≠ p := fun z => by
      rw [z] at q
      exact absurd q (by rw [show (F.hide p o').H0 p = none from h0]; simp)
    rw [upd_ne hne]
    exact R.keep a x q n
theorem Rel.unhide {p : Addr} {o : HO} {S0 : Sg} {σ0 : St} {H1 : Hp} (R0 : Rel F S0 σ0 H1) (R : Rel (F.hide p o) S σ H) : Rel F S σ H ∧ Same (vis (F.hide p o) S σ H) (vis F S σ H) := by
  have g : Same (vis (F.hide p o) S σ H) (vis F S σ H) := hid_sub fun a h => List.mem_cons_of_mem _ h
  refine ⟨⟨R.len, fun i s v a b => ?_, R.nd, R.new, R.ond, R.and_, R0.ain, fun a h => R.liv a (List.mem_cons_of_mem _ h), fun l hl z => R.lom l hl (List.mem_cons_of_mem _ z), fun q h => ⟨(R.tmp q (List.mem_cons_of_mem _ h)).1, (R0.tmp q h).2⟩, R.keep⟩, g⟩
  have y := (R.sl i s v a b).mono g fun _ _ _ _ _ _ q => q
  cases y with
  | no => exact .no
  | dat r => exact .dat r
  | loc h r => exact .loc h r
  | own h r => exact .own h r
  | exn e0 q r => exact .exn e0 q r
theorem Rel.tnew (R : Rel F S σ H) {p : Addr} (hp : H p = none) : ∀ q, q ∈ F.T → q.1 ≠ p := fun q h z => by
  have e := (R.tmp q h).1
  rw [z, hp] at e
  cases e
end

/-! ### results -/
inductive Rs (α : Type) where
  | ok (a : α) (S : Sg)
  | exc (c : Str) (fs : List (Str × Dat)) (S : Sg)
  | bad
def Rs.bind {α β : Type} : Rs α → (α → Sg → Rs β) → Rs β
  | .ok a S, k => k a S
  | .exc c fs S, _ => .exc c fs S
  | .bad, _ => .bad
def Rs.of {α : Type} : Option α → Sg → Rs α
  | some a, S => .ok a S
  | none, _ => .bad
@[simp] theorem Rs.bind_ok {α β : Type} (a : α) (S : Sg) (k : α → Sg → Rs β) : (Rs.ok a S).bind k = k a S := rfl
@[simp] theorem Rs.bind_exc {α β : Type} (c : Str) (fs : List (Str × Dat)) (S : Sg) (k : α → Sg → Rs β) : (Rs.exc c fs S).bind k = .exc c fs S := rfl
@[simp] theorem Rs.bind_bad {α β : Type} (k : α → Sg → Rs β) : (Rs.bad : Rs α).bind k = .bad := rfl
@[simp] theorem Rs.of_some {α : Type} (a : α) (S : Sg) : Rs.of (some a) S = .ok a S := rfl
@[simp] theorem Rs.of_none {α : Type} (S : Sg) : Rs.of (none : Option α) S = .bad := rfl

/-- what stands for what, at slots and a visible heap -/
abbrev Rep (β α : Type) := St → Hp → β → α → Prop
def outX (F : Fm) (W : WX) (σ : St) (G : Hp) (c : Str) (fs : List (Str × Dat)) (S : Sg) : Prop :=
  ∀ (da : Addr) (gs : List (Str × V)) (H : Hp), Rel F S σ H → Same G (vis F S σ H) → vis F S σ H da = some (.xd gs) → RpF F.cm F.K (vis F S σ H) gs fs → W (.ref (F.cm c)) (some da) σ H
def out {β α : Type} (F : Fm) (W : WX) (σ : St) (G : Hp) (R : Rep β α) (Q : β → Hp → Prop) : Rs α → Prop
  | .ok a S => ∀ v H, Rel F S σ H → Same G (vis F S σ H) → R σ (vis F S σ H) v a → Q v H
  | .exc c fs S => outX F W σ G c fs S
  | .bad => False
/-- the reading that a mirror gives -/
def tG {β α : Type} (cm : CM) (K : PySem.W.Frag) (W : WX) (R : Rep β α) (m : Sg → Rs α) : St → Hp → (β → Hp → Prop) → Prop := fun σ H Q =>
  ∃ F S, F.cm = cm ∧ F.K = K ∧ Rel F S σ H ∧ out F W σ (vis F S σ H) R Q (m S)
section
variable {F : Fm} {W : WX} {σ : St} {G G' : Hp}
theorem out_same {β α : Type} {R : Rep β α} {Q : β → Hp → Prop} {r : Rs α} (e : Same G G') (h : out F W σ G R Q r) : out F W σ G' R Q r := by
  cases r with
  | ok a S => exact fun v H a b c => h v H a (e.trans b) c
  | exc c fs S => exact fun da gs H a b c d => h da gs H a (e.trans b) c d
  | bad => exact h
theorem out_bind {β α β' α' : Type} {R : Rep β α} {R' : Rep β' α'} {Q : β' → Hp → Prop} {r : Rs α} {k : α → Sg → Rs α'} (h : out F W σ G R' Q (r.bind k)) :
    out F W σ G R (fun x H1 => ∃ a S1, Rel F S1 σ H1 ∧ Same G (vis F S1 σ H1) ∧ R σ (vis F S1 σ H1) x a ∧ out F W σ (vis F S1 σ H1) R' Q (k a S1)) r := by
  cases r with
  | ok a S => exact fun v H x y z => ⟨a, S, x, y, z, out_same y h⟩
  | exc c fs S => exact h
  | bad => exact h
theorem out_imp {β α : Type} {R : Rep β α} {Q Q' : β → Hp → Prop} {r : Rs α} (h : out F W σ G R Q r) (q : ∀ v H, Q v H → Q' v H) : out F W σ G R Q' r := by
  cases r with
  | ok a S => exact fun v H x y z => q v H (h v H x y z)
  | exc c fs S => exact h
  | bad => exact h
end
/-- from a mirror that goes on by k: its first part's reading -/
theorem tG_bind {β α β' α' : Type} {cm : CM} {K : PySem.W.Frag} {W : WX} {R : Rep β α} {R' : Rep β' α'} {m : Sg → Rs α} {k : α → Sg → Rs α'} {σ : St} {H : Hp} {Q : β' → Hp → Prop} {Q' : β → Hp → Prop} {F : Fm} {S : Sg}
    (e1 : F.cm = cm) (e2 : F.K = K) (r : Rel F S σ H) (h : out F W σ (vis F S σ H) R' Q ((m S).bind k))
    (q : ∀ x H1 a S1, Rel F S1 σ H1 → Same (vis F S σ H) (vis F S1 σ H1) → R σ (vis F S1 σ H1) x a → out F W σ (vis F S1 σ H1) R' Q (k a S1) → Q' x H1) : tG cm K W R m σ H Q' :=
  ⟨F, S, e1, e2, r, out_imp (out_bind (R := R) h) fun x H1 ⟨a, S1, a1, a2, a3, a4⟩ => q x H1 a S1 a1 a2 a3 a4⟩

abbrev ME := Sg → Rs Dat
abbrev MT := Sg → Rs Bool
abbrev MA := Sg → Rs (List Dat)
abbrev rE (cm : CM) (K : PySem.W.Frag) : Rep V Dat := fun _ G v d => Rp cm K G v d
abbrev rT : Rep Bool Bool := fun _ _ b c => b = c
abbrev rA (cm : CM) (K : PySem.W.Frag) : Rep (List V) (List Dat) := fun _ G v d => RpAll cm K G v d
abbrev tE (cm : CM) (K : PySem.W.Frag) (W : WX) (m : ME) : TE := tG cm K W (rE cm K) m
abbrev tT (cm : CM) (K : PySem.W.Frag) (W : WX) (m : MT) : TT := tG cm K W rT m
abbrev tA (cm : CM) (K : PySem.W.Frag) (W : WX) (m : MA) : TA := tG cm K W (rA cm K) m

theorem PE.weak {X : Cx} {e : Expr} {t t' : TE} (h : PE X e t) (i : ∀ σ H Q, t' σ H Q → t σ H Q) : PE X e t' := ⟨fun pins s σ H Q I q => h.run pins s σ H Q I (i σ H Q q)⟩
theorem PT.weak {X : Cx} {e : Expr} {t t' : TT} (h : PT X e t) (i : ∀ σ H Q, t' σ H Q → t σ H Q) : PT X e t' := ⟨fun pins s σ H Q I q => h.run pins s σ H Q I (i σ H Q q)⟩
theorem PW.weak {X : Cx} {e : Expr} {t t' : TT} (h : PW X e t) (i : ∀ σ H Q, t' σ H Q → t σ H Q) : PW X e t' := ⟨fun wh pins s σ H Q I q => h.run wh pins s σ H Q I (i σ H Q q)⟩
theorem PA.weak {X : Cx} {es : List Expr} {t t' : TA} (h : PA X es t) (i : ∀ σ H Q, t' σ H Q → t σ H Q) : PA X es t' := ⟨fun pos pins s σ H Q I q => h.run pos pins s σ H Q I (i σ H Q q)⟩
theorem PS.weak {X : Cx} {st : Stmt} {t t' : TS} (h : PS X st t) (i : ∀ D σ H, t' D σ H → t D σ H) : PS X st t' := ⟨fun pins s σ H D I q => h.run pins s σ H D I (i D σ H q)⟩
theorem PSs.weak {X : Cx} {st : List Stmt} {t t' : TS} (h : PSs X st t) (i : ∀ D σ H, t' D σ H → t D σ H) : PSs X st t' := ⟨fun pins s σ H D I q => h.run pins s σ H D I (i D σ H q)⟩
end Mir

/-! MirC: expressions and their mirrors -/
namespace Mir
open PySem L2

def live (M : List Addr) (H : Hp) : Prop := ∀ m, m ∈ M → H m ≠ none
theorem live_fresh {M : List Addr} {H : Hp} {p : Addr} (l : live M H) (h : H p = none) : p ∉ M := fun z => l p z h
theorem hid_new {M : List Addr} {H : Hp} {p : Addr} {o : HO} (l : live M H) (h : H p = none) : hid M (upd H p o) p = some o := by
  rw [hid_out (live_fresh l h), upd_same]
theorem hid_grow {M : List Addr} {H H' : Hp} (e : Same H H') : Same (hid M H) (hid M H') := hid_same fun a o _ q => e a o q
theorem Rel.live {F : Fm} {S : Sg} {σ : St} {H : Hp} (R : Rel F S σ H) : Mir.live (F.M ++ locs S σ) H := fun _ h => R.hlive h

/-- an operation of two values, of one, of a list of them: by what it does to the trees; the heap only grows -/
def rD (cm : CM) (K : PySem.W.Frag) (g : Dat → Dat → Option Dat) : R2 := fun x y H Q =>
  ∃ M a b c, live M H ∧ Rp cm K (hid M H) x a ∧ Rp cm K (hid M H) y b ∧ g a b = some c ∧ ∀ v H', Same H H' → Rp cm K (hid M H') v c → Q v H'
def rU (cm : CM) (K : PySem.W.Frag) (g : Dat → Option Dat) : V → Hp → VK → Prop := fun x H Q =>
  ∃ M a c, live M H ∧ Rp cm K (hid M H) x a ∧ g a = some c ∧ ∀ v H', Same H H' → Rp cm K (hid M H') v c → Q v H'
def rDs (cm : CM) (K : PySem.W.Frag) (g : List Dat → Option Dat) : List V → Hp → VK → Prop := fun vs H Q =>
  ∃ M ds c, live M H ∧ RpAll cm K (hid M H) vs ds ∧ g ds = some c ∧ ∀ v H', Same H H' → Rp cm K (hid M H') v c → Q v H'

/-! ### the mirrors -/
def mC (d : Dat) : ME := fun S => .ok d S
def mVar (i : Nat) : ME := fun S => match S[i]? with
  | some (.dat d) => .ok d S
  | some (.loc ds) => .ok (.lst ds) (S.set i (.dat (.lst ds)))
  | _ => .bad
def m2 (g : Dat → Dat → Option Dat) (ma mb : ME) : ME := fun S => (ma S).bind fun a S1 => (mb S1).bind fun b S2 => Rs.of (g a b) S2
def m1 (g : Dat → Option Dat) (ma : ME) : ME := fun S => (ma S).bind fun a S1 => Rs.of (g a) S1
def mNil : MA := fun S => .ok [] S
def mCons (ma : ME) (mr : MA) : MA := fun S => (ma S).bind fun a S1 => (mr S1).bind fun r S2 => .ok (a :: r) S2
def mCall (g : List Dat → Option Dat) (ma : MA) : ME := fun S => (ma S).bind fun ds S1 => Rs.of (g ds) S1
def mIf (c : MT) (a b : ME) : ME := fun S => (c S).bind fun t S1 => if t = true then a S1 else b S1
def mAnd (a b : ME) : ME := fun S => (a S).bind fun d S1 => match d with
  | .bl true => b S1
  | .bl false => .ok (.bl false) S1
  | _ => .bad
def mOr (a b : ME) : ME := fun S => (a S).bind fun d S1 => match d with
  | .bl true => .ok (.bl true) S1
  | .bl false => b S1
  | _ => .bad
def mNot (a : ME) : ME := fun S => (a S).bind fun d S1 => match d with
  | .bl b => .ok (.bl !b) S1
  | _ => .bad
def cTruth (a : ME) : MT := fun S => (a S).bind fun d S1 => match d with
  | .bl b => .ok b S1
  | _ => .bad
def cAnd (a b : MT) : MT := fun S => (a S).bind fun t S1 => if t = true then b S1 else .ok false S1
def cOr (a b : MT) : MT := fun S => (a S).bind fun t S1 => if t = true then .ok true S1 else b S1
def cNot (a : MT) : MT := fun S => (a S).bind fun t S1 => .ok (!t) S1
/-- a < b < c -/
def mChain (g g' : Dat → Dat → Option Dat) (a b c : ME) : ME := fun S => (a S).bind fun x S1 => (b S1).bind fun y S2 => (Rs.of (g x y) S2).bind fun z S3 => match z with
  | .bl true => (c S3).bind fun w S4 => Rs.of (g' y w) S4
  | .bl false => .ok (.bl false) S3
  | _ => .bad
/-- the largest list made here -/
def lim : Nat := 1000000
theorem lim_line {n : Nat} (h : n ≤ lim) : n ≤ sizeLine := Nat.le_trans h (by decide)
theorem lim_lt {n : Nat} (h : n < lim) : n < sizeLine := Nat.lt_of_lt_of_le h (by decide)
def mkLst (ds : List Dat) : Option Dat := if ds.length ≤ lim then some (.lst ds) else none
def mkTup (ds : List Dat) : Option Dat := if ds.length ≤ lim then some (.tup ds) else none
def mLst (ma : MA) : ME := mCall mkLst ma
def mTup (ma : MA) : ME := mCall mkTup ma

/-! ### the rules -/
section
variable {X : Cx} {cm : CM} {W : WX} {a b c e : Expr} {es : List Expr} {ma mb mc : ME} {mr : MA} {ca cb : MT} {pos : Pos} {g g' : Dat → Dat → Option Dat}

theorem ge_const {v : V} {d : Dat} (h : PE X e (tC v)) (r : ∀ G, Rp cm X.K G v d) : PE X e (tE cm X.K W (mC d)) := PE.weak h fun σ H Q ⟨F, S, e1, e2, R, o⟩ => o v H R (Same.refl _) (r _)
theorem ge_int {i j} : PE X (.Constant (.int i) j pos) (tE cm X.K W (mC (.int i))) := ge_const pe_int fun _ => .int i
theorem ge_str {x j} : PE X (.Constant (.str x) j pos) (tE cm X.K W (mC (.str x))) := ge_const pe_str fun _ => .str x
theorem ge_bl {x j} : PE X (.Constant (.bool x) j pos) (tE cm X.K W (mC (.bl x))) := ge_const pe_bl fun _ => .bl x
theorem ge_non {j} : PE X (.Constant .none j pos) (tE cm X.K W (mC .non)) := ge_const pe_non fun _ => .non
theorem ge_var {i : Nat} (h : PE X e (tVar i)) : PE X e (tE cm X.K W (mVar i)) := PE.weak h fun σ H Q ⟨F, S, e1, e2, R, o⟩ => by
  unfold mVar at o
  cases hs : S[i]? with
  | none => rw [hs] at o; exact False.elim o
  | some s =>
    rw [hs] at o
    have hl : i < σ.length := by rw [← R.len]; exact (List.getElem?_eq_some_iff.mp hs).1
    have hv : σ[i]? = some σ[i] := List.getElem?_eq_getElem hl
    have q := R.sl i s _ hs hv
    cases s with
    | no => exact False.elim o
    | own j u => exact False.elim o
    | exn c fs => exact False.elim o
    | dat d =>
      generalize σ[i] = w at hv q
      cases q with
      | dat r => exact ⟨_, hv, o _ H R (Same.refl _) (by rw [← e1, ← e2]; exact r)⟩
    | loc ds =>
      generalize σ[i] = w at hv q
      cases q with
      | loc eh r =>
        obtain ⟨R', s', r'⟩ := R.freeze hs hv
        exact ⟨_, hv, o _ H R' s' (by rw [← e1, ← e2]; exact r')⟩
theorem out_of {F : Fm} {S : Sg} {σ : St} {H : Hp} {Q : VK} {o : Option Dat} {K : PySem.W.Frag} (R : Rel F S σ H) (h : out F W σ (vis F S σ H) (rE cm K) Q (Rs.of o S)) :
    ∃ d, o = some d ∧ ∀ v H', Same H H' → Rp cm K (hid (F.M ++ locs S σ) H') v d → Q v H' := by
  cases o with
  | none => exact False.elim h
  | some d => exact ⟨d, rfl, fun v H' s r => h v H' (R.grow s) (vis_grow s) r⟩
theorem ge_op {op} (o : OpR X (binaryOp op) (rD cm X.K g)) (ha : PE X a (tE cm X.K W ma)) (hb : PE X b (tE cm X.K W mb)) : PE X (.BinOp a op b pos) (tE cm X.K W (m2 g ma mb)) :=
  PE.weak (pe_op o ha hb) fun σ H Q ⟨F, S, e1, e2, R, h⟩ => tG_bind e1 e2 R h fun x H1 da S1 R1 s1 p1 h1 => tG_bind e1 e2 R1 h1 fun y H2 db S2 R2 s2 p2 h2 => by
    obtain ⟨d, e, q⟩ := out_of R2 h2
    exact ⟨_, da, db, d, R2.live, p1.mono s2, p2, e, q⟩
theorem ge_cmp {op} (o : OpR X (compareOp op) (rD cm X.K g)) (ha : PE X a (tE cm X.K W ma)) (hb : PE X b (tE cm X.K W mb)) (hm : behindInMarks op b = false) : PE X (.Compare a [op] [b] pos) (tE cm X.K W (m2 g ma mb)) :=
  PE.weak (pe_cmpR o ha hb hm) fun σ H Q ⟨F, S, e1, e2, R, h⟩ => tG_bind e1 e2 R h fun x H1 da S1 R1 s1 p1 h1 => tG_bind e1 e2 R1 h1 fun y H2 db S2 R2 s2 p2 h2 => by
    obtain ⟨d, e, q⟩ := out_of R2 h2
    exact ⟨_, da, db, d, R2.live, p1.mono s2, p2, e, q⟩
theorem ge_ix (o : IxR X (rD cm X.K g)) (ha : PE X a (tE cm X.K W ma)) (hb : PE X b (tE cm X.K W mb)) (hm : PlainIx b) : PE X (.Subscript a b pos) (tE cm X.K W (m2 g ma mb)) :=
  PE.weak (pe_ix o ha hb hm) fun σ H Q ⟨F, S, e1, e2, R, h⟩ => tG_bind e1 e2 R h fun x H1 da S1 R1 s1 p1 h1 => tG_bind e1 e2 R1 h1 fun y H2 db S2 R2 s2 p2 h2 => by
    obtain ⟨d, e, q⟩ := out_of R2 h2
    exact ⟨_, da, db, d, R2.live, p1.mono s2, p2, e, q⟩
theorem ge_un {op} {f : Dat → Option Dat} (o : UnR X (unaryOp op) (rU cm X.K f)) (ha : PE X a (tE cm X.K W ma)) : PE X (.UnaryOp op a pos) (tE cm X.K W (m1 f ma)) :=
  PE.weak (pe_un o ha) fun σ H Q ⟨F, S, e1, e2, R, h⟩ => tG_bind e1 e2 R h fun x H1 da S1 R1 s1 p1 h1 => by
    obtain ⟨d, e, q⟩ := out_of R1 h1
    exact ⟨_, da, d, R1.live, p1, e, q⟩
theorem ge_chain {op op'} (o : OpR X (compareOp op) (rD cm X.K g)) (o' : OpR X (compareOp op') (rD cm X.K g')) (ha : PE X a (tE cm X.K W ma)) (hb : PE X b (tE cm X.K W mb)) (hc : PE X c (tE cm X.K W mc))
    (hm : lastMarks [op, op'] [b, c] = false := by rfl) (hbl : ∀ x y z, g x y = some z → ∃ t, z = .bl t := by intro x y z h; cases x <;> cases y <;> first | cases h | (cases h; exact ⟨_, rfl⟩)) : PE X (.Compare a [op, op'] [b, c] pos) (tE cm X.K W (mChain g g' ma mb mc)) :=
  PE.weak (pe_chain o o' ha hb hc hm) fun σ H Q ⟨F, S, e1, e2, R, h⟩ => tG_bind e1 e2 R h fun x H1 da S1 R1 s1 p1 h1 => tG_bind e1 e2 R1 h1 fun y H2 db S2 R2 s2 p2 h2 => by
    cases hg : g da db with
    | none => rw [hg] at h2; exact False.elim h2
    | some z =>
      rw [hg] at h2
      obtain ⟨t, rfl⟩ := hbl _ _ _ hg
      refine ⟨_, da, db, .bl t, R2.live, p1.mono s2, p2, hg, fun v H3 s3 r3 => ?_⟩
      cases r3
      refine ⟨t, rfl, ?_⟩
      have R3 := R2.grow s3
      cases t with
      | false => exact h2 _ H3 R3 (vis_grow s3) (.bl false)
      | true =>
        refine tG_bind e1 e2 R3 (out_same (vis_grow s3) h2) fun w H4 dw S4 R4 s4 p4 h4 => ?_
        obtain ⟨d, e, q⟩ := out_of R4 h4
        exact ⟨_, db, dw, d, R4.live, (p2.mono (vis_grow s3)).mono s4, p4, e, q⟩
theorem ga_nil : PA X [] (tA cm X.K W mNil) := PA.weak pa_nil fun σ H Q ⟨F, S, e1, e2, R, h⟩ => h [] H R (Same.refl _) .nil
theorem ga_cons (ha : PE X e (tE cm X.K W ma)) (hr : PA X es (tA cm X.K W mr)) (hs : starEach (e :: es) X.env = (false, eval e X.env) :: starEach es X.env := by rfl) : PA X (e :: es) (tA cm X.K W (mCons ma mr)) :=
  PA.weak (pa_cons ha hr hs) fun σ H Q ⟨F, S, e1, e2, R, h⟩ => tG_bind e1 e2 R h fun x H1 da S1 R1 s1 p1 h1 => tG_bind e1 e2 R1 h1 fun y H2 db S2 R2 s2 p2 h2 => h2 _ H2 R2 (Same.refl _) (.cons (p1.mono s2) p2)
theorem ge_callB {x : Str} {p : Pos} {id : String} {f : List Dat → Option Dat} (hc : CallR X (.builtin id) (rDs cm X.K f)) (hg : Gl X x) (hm : X.mg x = none) (hv : bootBuiltins x = some (.builtin id)) (ha : PA X (e :: es) (tA cm X.K W mr))
    (hn : x ≠ "__name__" := by decide) (hdb : (x == ("__debug__" : Str)) = false := by decide) (he : starEach (e :: es) X.env = (false, eval e X.env) :: starEach es X.env := by rfl) (hpl : (backTo pos (starEach es X.env)).any (·.1) = false := by rfl) :
    PE X (.Call (.Name x p) (e :: es) [] pos) (tE cm X.K W (mCall f mr)) :=
  PE.weak (pe_callB hc hg hm hv ha hn hdb he hpl) fun σ H Q ⟨F, S, e1, e2, R, h⟩ => tG_bind e1 e2 R h fun x H1 da S1 R1 s1 p1 h1 => by
    obtain ⟨d, e, q⟩ := out_of R1 h1
    exact ⟨_, da, d, R1.live, p1, e, q⟩
theorem ge_callTy {x : Str} {p : Pos} {T : String} {f : List Dat → Option Dat} (hc : CallR X (.type T) (rDs cm X.K f)) (hg : Gl X x) (hm : X.mg x = none) (hv : bootBuiltins x = some (.type T)) (ha : PA X (e :: es) (tA cm X.K W mr))
    (hn : x ≠ "__name__" := by decide) (hdb : (x == ("__debug__" : Str)) = false := by decide) (he : starEach (e :: es) X.env = (false, eval e X.env) :: starEach es X.env := by rfl) (hpl : (backTo pos (starEach es X.env)).any (·.1) = false := by rfl) :
    PE X (.Call (.Name x p) (e :: es) [] pos) (tE cm X.K W (mCall f mr)) :=
  PE.weak (pe_callTy hc hg hm hv ha hn hdb he hpl) fun σ H Q ⟨F, S, e1, e2, R, h⟩ => tG_bind e1 e2 R h fun x H1 da S1 R1 s1 p1 h1 => by
    obtain ⟨d, e, q⟩ := out_of R1 h1
    exact ⟨_, da, d, R1.live, p1, e, q⟩
theorem ge_lst (ha : PA X es (tA cm X.K W mr)) : PE X (.List es pos) (tE cm X.K W (mLst mr)) :=
  PE.weak (pe_lst ha) fun σ H Q ⟨F, S, e1, e2, R, h⟩ => tG_bind e1 e2 R h fun x H1 da S1 R1 s1 p1 h1 => by
    obtain ⟨d, e, q⟩ := out_of R1 h1
    unfold mkLst at e
    by_cases hl : da.length ≤ lim
    · rw [if_pos hl] at e
      cases e
      refine ⟨by rw [RpAll.length p1]; exact lim_line hl, fun p hp => q _ _ (same_new hp) (.lst (hid_new R1.live hp) (RpAll.mono (hid_grow (same_new hp)) p1))⟩
    · rw [if_neg hl] at e; cases e
theorem ge_tup {k} (ha : PA X es (tA cm X.K W mr)) : PE X (.Tuple es k pos) (tE cm X.K W (mTup mr)) :=
  PE.weak (pe_tup ha) fun σ H Q ⟨F, S, e1, e2, R, h⟩ => tG_bind e1 e2 R h fun x H1 da S1 R1 s1 p1 h1 => by
    obtain ⟨d, e, q⟩ := out_of R1 h1
    unfold mkTup at e
    by_cases hl : da.length ≤ lim
    · rw [if_pos hl] at e
      cases e
      refine ⟨by rw [RpAll.length p1]; exact lim_line hl, fun p hp => q _ _ (same_new hp) (.tup (SqT.of (hid_new R1.live hp)) (RpAll.mono (hid_grow (same_new hp)) p1))⟩
    · rw [if_neg hl] at e; cases e
/-! ### tests -/
theorem gt_val (h : PE X e (tE cm X.K W ma)) (he : ∀ whole, isTrue e X.env whole = (do let v ← whole; standAt e.pos; holding [v] (truthy v)) := by intro _; rfl) : PT X e (tT cm X.K W (cTruth ma)) :=
  PT.weak (pt_val h he) fun σ H Q ⟨F, S, e1, e2, R, h⟩ => tG_bind e1 e2 R h fun x H1 da S1 R1 s1 p1 h1 => by
    cases p1 with
    | bl t => exact ⟨t, rfl, h1 t H1 R1 (Same.refl _) rfl⟩
    | _ => exact False.elim h1
theorem gt_not (h : PT X e (tT cm X.K W ca)) : PT X (.UnaryOp .Not e pos) (tT cm X.K W (cNot ca)) :=
  PT.weak (pt_not h) fun σ H Q ⟨F, S, e1, e2, R, h⟩ => tG_bind e1 e2 R h fun x H1 da S1 R1 s1 p1 h1 => by
    cases p1
    exact h1 _ H1 R1 (Same.refl _) rfl
theorem gw_and1 (h : PT X e (tT cm X.K W ca)) : PW X (.BoolOp .And [e] pos) (tT cm X.K W ca) := pw_and1 h
theorem gw_or1 (h : PT X e (tT cm X.K W ca)) : PW X (.BoolOp .Or [e] pos) (tT cm X.K W ca) := pw_or1 h
theorem gw_and (ha : PT X a (tT cm X.K W ca)) (hb : PW X (.BoolOp .And (b :: es) pos) (tT cm X.K W cb)) : PW X (.BoolOp .And (a :: b :: es) pos) (tT cm X.K W (cAnd ca cb)) :=
  PW.weak (pw_and ha hb) fun σ H Q ⟨F, S, e1, e2, R, h⟩ => tG_bind e1 e2 R h fun x H1 da S1 R1 s1 p1 h1 => by
    cases p1
    cases x with
    | true => exact ⟨F, S1, e1, e2, R1, h1⟩
    | false => exact h1 _ H1 R1 (Same.refl _) rfl
theorem gw_or (ha : PT X a (tT cm X.K W ca)) (hb : PW X (.BoolOp .Or (b :: es) pos) (tT cm X.K W cb)) : PW X (.BoolOp .Or (a :: b :: es) pos) (tT cm X.K W (cOr ca cb)) :=
  PW.weak (pw_or ha hb) fun σ H Q ⟨F, S, e1, e2, R, h⟩ => tG_bind e1 e2 R h fun x H1 da S1 R1 s1 p1 h1 => by
    cases p1
    cases x with
    | false => exact ⟨F, S1, e1, e2, R1, h1⟩
    | true => exact h1 _ H1 R1 (Same.refl _) rfl
theorem ge_and (ha : PE X a (tE cm X.K W ma)) (hb : PE X (.BoolOp .And (b :: es) pos) (tE cm X.K W mb)) : PE X (.BoolOp .And (a :: b :: es) pos) (tE cm X.K W (mAnd ma mb)) :=
  PE.weak (pe_and ha hb) fun σ H Q ⟨F, S, e1, e2, R, h⟩ => tG_bind e1 e2 R h fun x H1 da S1 R1 s1 p1 h1 => by
    cases p1 with
    | bl t =>
      refine ⟨t, rfl, ?_⟩
      cases t with
      | true => exact ⟨F, S1, e1, e2, R1, h1⟩
      | false => exact h1 _ H1 R1 (Same.refl _) (.bl false)
    | _ => exact False.elim h1
theorem ge_or (ha : PE X a (tE cm X.K W ma)) (hb : PE X (.BoolOp .Or (b :: es) pos) (tE cm X.K W mb)) : PE X (.BoolOp .Or (a :: b :: es) pos) (tE cm X.K W (mOr ma mb)) :=
  PE.weak (pe_or ha hb) fun σ H Q ⟨F, S, e1, e2, R, h⟩ => tG_bind e1 e2 R h fun x H1 da S1 R1 s1 p1 h1 => by
    cases p1 with
    | bl t =>
      refine ⟨t, rfl, ?_⟩
      cases t with
      | false => exact ⟨F, S1, e1, e2, R1, h1⟩
      | true => exact h1 _ H1 R1 (Same.refl _) (.bl true)
    | _ => exact False.elim h1
theorem ge_one {op} (h : PE X a (tE cm X.K W ma)) : PE X (.BoolOp op [a] pos) (tE cm X.K W ma) := pe_one h
theorem ge_not (ha : PE X a (tE cm X.K W ma)) : PE X (.UnaryOp .Not a pos) (tE cm X.K W (mNot ma)) :=
  PE.weak (pe_not ha) fun σ H Q ⟨F, S, e1, e2, R, h⟩ => tG_bind e1 e2 R h fun x H1 da S1 R1 s1 p1 h1 => by
    cases p1 with
    | bl t => exact ⟨t, rfl, h1 _ H1 R1 (Same.refl _) (.bl _)⟩
    | _ => exact False.elim h1
theorem ge_if (hc : PT X c (tT cm X.K W ca)) (ha : PE X a (tE cm X.K W ma)) (hb : PE X b (tE cm X.K W mb)) : PE X (.IfExp c a b pos) (tE cm X.K W (mIf ca ma mb)) :=
  PE.weak (pe_ifExp hc ha hb) fun σ H Q ⟨F, S, e1, e2, R, h⟩ => tG_bind e1 e2 R h fun x H1 da S1 R1 s1 p1 h1 => by
    cases p1
    cases x with
    | true => exact ⟨F, S1, e1, e2, R1, h1⟩
    | false => exact ⟨F, S1, e1, e2, R1, h1⟩
end
end Mir

/-! MirD: what the operators and built-ins do to the trees -/
namespace Mir
open PySem L2

def intD (f : Int → Int → Option Dat) : Dat → Dat → Option Dat
  | .int i, .int j => f i j
  | _, _ => none
def addD : Dat → Dat → Option Dat
  | .int i, .int j => some (.int (i + j))
  | .str x, .str y => if x.length + y.length ≤ lim then some (.str (x ++ y)) else none
  | .lst xs, .lst ys => if xs.length + ys.length ≤ lim then some (.lst (xs ++ ys)) else none
  | .tup xs, .tup ys => if xs ≠ [] ∧ xs.length + ys.length ≤ lim then some (.tup (xs ++ ys)) else none
  | _, _ => none
abbrev subD := intD fun i j => some (.int (i - j))
def small64 (i : Int) : Bool := decide (-(2 ^ 64) < i) && decide (i < 2 ^ 64)
def mulI (i j : Int) : Option Dat := if small64 i || small64 j then some (.int (i * j)) else none
def mulD : Dat → Dat → Option Dat
  | .int i, .int j => mulI i j
  | .lst xs, .int j => if -(2 ^ 63) ≤ j ∧ j < 2 ^ 63 ∧ xs.length * j.toNat ≤ lim then some (.lst (List.replicate j.toNat xs).flatten) else none
  | _, _ => none
abbrev modD := intD fun i j => if 0 < j then some (.int (i % j)) else none
abbrev fdivD := intD fun i j => if 0 < j ∧ j < 1073741824 then some (.int (i / j)) else none
abbrev powD := intD fun i j => if 0 ≤ j ∧ j ≤ 1000000 ∧ i.natAbs < 2 ^ 64 then some (.int (i ^ j.toNat)) else none
abbrev ltD := intD fun i j => some (.bl (decide (i < j)))
abbrev leD := intD fun i j => some (.bl (decide (i ≤ j)))
abbrev gtD := intD fun i j => some (.bl (decide (j < i)))
abbrev geD := intD fun i j => some (.bl (decide (j ≤ i)))
def isND (a b : Dat) : Option Dat := match b with
  | .non => match a with
    | .non => some (.bl true)
    | _ => some (.bl false)
  | _ => none
def notND (a b : Dat) : Option Dat := match b with
  | .non => match a with
    | .non => some (.bl false)
    | _ => some (.bl true)
  | _ => none
def negD : Dat → Option Dat
  | .int i => some (.int (-i))
  | _ => none
mutual
def toPy : Dat → Option PyData
  | .non => some .none
  | .bl b => some (.bool b)
  | .int i => some (.int i)
  | .str x => some (.str x)
  | .lst ds => match toPyAll ds with
    | some ps => some (.list ps)
    | none => none
  | .tup ds => match toPyAll ds with
    | some ps => some (.tuple ps)
    | none => none
  | .ro ds => match toPyAll ds with
    | some ps => some (.list ps)
    | none => none
  | .ins _ _ => none
  | .dic _ => none
def toPyAll : List Dat → Option (List PyData)
  | [] => some []
  | d :: ds => match toPy d, toPyAll ds with
    | some p, some ps => some (p :: ps)
    | _, _ => none
end
def eqP (a b : Dat) : Option Bool := match toPy a, toPy b with
  | some p, some q => if SeqAt.shaped p && SeqAt.shaped q then some (PyData.eqv p q) else none
  | _, _ => none
def eqB : Dat → Dat → Option Bool
  | .int i, .int j => some (decide (i = j))
  | .str x, .str y => some (decide (x = y))
  | .bl x, .bl y => some (decide (x = y))
  | .non, .non => some true
  | a, b => eqP a b
def eqD (a b : Dat) : Option Dat := (eqB a b).map Dat.bl
def neD (a b : Dat) : Option Dat := (eqB a b).map fun t => Dat.bl (!t)
def ixD : Dat → Dat → Option Dat
  | .lst ds, .int i => atI ds i
  | .tup ds, .int i => atI ds i
  | .ro ds, .int i => atI ds i
  | .str x, .int i => if x.length ≤ lim then (atI x.cps.toList i).map fun c => Dat.str ⟨#[c]⟩ else none
  | _, _ => none
def flatD : Dat → Option V
  | .non => some .non
  | .bl b => some (.bl b)
  | .int i => some (.int i)
  | .str x => some (.str x)
  | _ => none
def flatAll : List Dat → Option (List V)
  | [] => some []
  | d :: ds => match flatD d, flatAll ds with
    | some v, some vs => some (v :: vs)
    | _, _ => none
def inB (a b : Dat) : Option Bool := match flatD a with
  | none => none
  | some v => match b with
    | .lst ds => (flatAll ds).map fun vs => inV v vs
    | .tup ds => (flatAll ds).map fun vs => inV v vs
    | _ => none
def inD (a b : Dat) : Option Dat := (inB a b).map Dat.bl
def notInD (a b : Dat) : Option Dat := (inB a b).map fun t => Dat.bl (!t)
/-! calls -/
def intsOf : List Dat → Option (List Int)
  | [] => some []
  | .int i :: ds => match intsOf ds with
    | some r => some (i :: r)
    | none => none
  | _ => none
def boolsOf : List Dat → Option (List Bool)
  | [] => some []
  | .bl i :: ds => match boolsOf ds with
    | some r => some (i :: r)
    | none => none
  | _ => none
def strsOf : List Dat → Option (List Str)
  | [] => some []
  | .str i :: ds => match strsOf ds with
    | some r => some (i :: r)
    | none => none
  | _ => none
def maxI : List Int → Int
  | [] => 0
  | [x] => x
  | x :: r => max x (maxI r)
def minI : List Int → Int
  | [] => 0
  | [x] => x
  | x :: r => min x (minI r)
def lenC : List Dat → Option Dat
  | [.lst ds] => some (.int ds.length)
  | [.tup ds] => some (.int ds.length)
  | [.ro ds] => some (.int ds.length)
  | [.str x] => if x.length ≤ lim then some (.int x.length) else none
  | _ => none
def absC : List Dat → Option Dat
  | [.int i] => some (.int (if i < 0 then -i else i))
  | _ => none
def maxC : List Dat → Option Dat
  | [.int i, .int j] => some (.int (if j > i then j else i))
  | [.lst ds] => match intsOf ds with
    | some (n :: r) => some (.int (maxI (n :: r)))
    | _ => none
  | _ => none
def minC : List Dat → Option Dat
  | [.int i, .int j] => some (.int (if j < i then j else i))
  | [.lst ds] => match intsOf ds with
    | some (n :: r) => some (.int (minI (n :: r)))
    | _ => none
  | _ => none
def sumC : List Dat → Option Dat
  | [.lst ds] => (intsOf ds).map fun ns => .int ns.sum
  | _ => none
def allC : List Dat → Option Dat
  | [.lst ds] => (boolsOf ds).map fun ns => .bl (ns.all id)
  | _ => none
def anyC : List Dat → Option Dat
  | [.lst ds] => (boolsOf ds).map fun ns => .bl (ns.any id)
  | _ => none
def intC : List Dat → Option Dat
  | [.int i] => some (.int i)
  | [.bl b] => some (.int (if b = true then 1 else 0))
  | _ => none
def divmodC : List Dat → Option Dat
  | [.int i, .int j] => if 0 < j ∧ j < 1073741824 then some (.tup [.int (i / j), .int (i % j)]) else none
  | _ => none
def listC : List Dat → Option Dat
  | [.lst ds] => some (.lst ds)
  | [.tup ds] => some (.lst ds)
  | [.ro ds] => some (.lst ds)
  | _ => none
def tupleC : List Dat → Option Dat
  | [.lst ds] => some (.tup ds)
  | [.ro ds] => some (.tup ds)
  | [.tup ds] => some (.tup ds)
  | _ => none
/-- the text of a number is short enough -/
def showI (i : Int) : Bool := decide (i.natAbs.log2 < 1920)
def strC : List Dat → Option Dat
  | [.int i] => if showI i then some (.str (toString i)) else none
  | [.str x] => some (.str x)
  | [.non] => some (.str "None")
  | [.bl b] => some (.str (if b then "True" else "False"))
  | _ => none
def showP (p : PyData) : Option Str := if p.showable && !p.hasDict && decide (p.depth ≤ 60) && decide (p.shown.length ≤ sizeLine) then some p.shown else none
def reprS (d : Dat) : Option Str := match toPy d with
  | some p => showP p
  | none => none
def reprC : List Dat → Option Dat
  | [d] => (reprS d).map Dat.str
  | _ => none

section
variable {X : Cx} {cm : CM}
theorem o_int {f : Value → Value → Sem Value} {C : Int → Int → Prop} {g : Int → Int → V} {h : Int → Int → Option Dat} (o : OpR X f (rI C g)) (k : ∀ i j d, h i j = some d → C i j ∧ ∀ G, Rp cm X.K G (g i j) d) : OpR X f (rD cm X.K (intD h)) := by
  rintro pins s σ H x y v u Q I rx ry ⟨M, a, b, c, lv, pa, pb, e, q⟩
  cases a with
  | int i =>
    cases b with
    | int j =>
      cases pa
      cases pb
      obtain ⟨k1, k2⟩ := k i j c e
      exact o pins s σ H _ _ v u Q I rx ry ⟨i, j, rfl, rfl, k1, q _ H (Same.refl _) (k2 _)⟩
    | _ => cases e
  | _ => cases e
theorem o_int0 {f : Value → Value → Sem Value} {g : Int → Int → V} {h : Int → Int → Option Dat} (o : OpR X f (rI0 g)) (k : ∀ i j d, h i j = some d → ∀ G, Rp cm X.K G (g i j) d) : OpR X f (rD cm X.K (intD h)) := by
  rintro pins s σ H x y v u Q I rx ry ⟨M, a, b, c, lv, pa, pb, e, q⟩
  cases a with
  | int i =>
    cases b with
    | int j =>
      cases pa
      cases pb
      exact o pins s σ H _ _ v u Q I rx ry ⟨i, j, rfl, rfl, q _ H (Same.refl _) (k i j c e _)⟩
    | _ => cases e
  | _ => cases e
theorem o_add : OpR X (binaryOp .Add) (rD cm X.K addD) := by
  rintro pins s σ H x y v u Q I rx ry ⟨M, a, b, c, lv, pa, pb, e, q⟩
  cases a with
  | int i =>
    cases b with
    | int j =>
      cases pa; cases pb; cases e
      exact op_add pins s σ H _ _ v u Q I rx ry ⟨i, j, rfl, rfl, q _ H (Same.refl _) (.int _)⟩
    | _ => cases e
  | str i =>
    cases b with
    | str j =>
      cases pa; cases pb
      unfold addD at e
      by_cases hz : i.length + j.length ≤ lim
      · dsimp only at e
        rw [if_pos hz] at e; cases e
        exact op_add_str pins s σ H _ _ v u Q I rx ry ⟨i, j, rfl, rfl, lim_line hz, q _ H (Same.refl _) (.str _)⟩
      · dsimp only at e
        rw [if_neg hz] at e; cases e
    | _ => cases e
  | lst i =>
    cases b with
    | lst j =>
      unfold addD at e
      by_cases hz : i.length + j.length ≤ lim
      · dsimp only at e
        rw [if_pos hz] at e; cases e
        cases pa with
        | lst ha ra =>
          cases pb with
          | lst hb rb =>
            refine op_cat pins s σ H _ _ v u Q I rx ry ⟨_, _, _, _, rfl, rfl, hid_le _ _ ha, hid_le _ _ hb, ?_, fun p hp => q _ _ (same_new hp) (.lst (hid_new lv hp) ((ra.append rb).mono (hid_grow (same_new hp))))⟩
            rw [ra.length, rb.length]; exact lim_line hz
      · dsimp only at e
        rw [if_neg hz] at e; cases e
    | _ => cases e
  | tup i =>
    cases b with
    | tup j =>
      unfold addD at e
      by_cases hz : i ≠ [] ∧ i.length + j.length ≤ lim
      · dsimp only at e
        rw [if_pos hz] at e; cases e
        cases pa with
        | tup ha ra =>
          cases pb with
          | tup hb rb =>
            refine op_catT pins s σ H _ _ v u Q I rx ry ⟨_, _, _, _, rfl, rfl, sqT_same hid_le ha, sqT_same hid_le hb, fun z => hz.1 ?_, ?_, fun z => q _ _ (Same.refl _) ?_, fun _ p hp => q _ _ (same_new hp) (.tup (SqT.of (hid_new lv hp)) ((ra.append rb).mono (hid_grow (same_new hp))))⟩
            · have l := ra.length
              rw [z] at l
              cases i with
              | nil => rfl
              | cons _ _ => cases l
            · rw [ra.length, rb.length]; exact lim_line hz.2
            · subst z
              cases rb
              rw [List.append_nil]
              exact .tup ha ra
      · dsimp only at e
        rw [if_neg hz] at e; cases e
    | _ => cases e
  | _ => cases e
theorem o_sub : OpR X (binaryOp .Sub) (rD cm X.K subD) := o_int0 op_sub fun i j d e G => by cases e; exact .int _
theorem o_mul : OpR X (binaryOp .Mult) (rD cm X.K mulD) := by
  rintro pins s σ H x y v u Q I rx ry ⟨M, a, b, c, lv, pa, pb, e, q⟩
  cases a with
  | int i =>
    cases b with
    | int j =>
      cases pa; cases pb
      have e' : mulI i j = some c := e
      unfold mulI small64 at e'
      by_cases hz : (decide (-(2 ^ 64) < i) && decide (i < 2 ^ 64) || decide (-(2 ^ 64) < j) && decide (j < 2 ^ 64)) = true
      · rw [if_pos hz] at e'; cases e'
        simp only [Bool.or_eq_true, Bool.and_eq_true, decide_eq_true_eq] at hz
        exact op_mul pins s σ H _ _ v u Q I rx ry ⟨i, j, rfl, rfl, hz, q _ H (Same.refl _) (.int _)⟩
      · rw [if_neg hz] at e'; cases e'
    | _ => cases e
  | lst i =>
    cases b with
    | int j =>
      cases pb
      unfold mulD at e
      by_cases hz : -(2 ^ 63) ≤ j ∧ j < 2 ^ 63 ∧ i.length * j.toNat ≤ lim
      · dsimp only at e
        rw [if_pos hz] at e; cases e
        cases pa with
        | lst ha ra =>
          have rr : ∀ n : Nat, RpAll cm X.K (hid M H) (List.replicate n _).flatten (List.replicate n i).flatten := fun n => by
            induction n with
            | zero => exact .nil
            | succ n ih => rw [List.replicate_succ, List.replicate_succ, List.flatten_cons, List.flatten_cons]; exact ra.append ih
          refine op_rep pins s σ H _ _ v u Q I rx ry ⟨_, j, _, rfl, rfl, hid_le _ _ ha, hz.1, hz.2.1, ?_, fun p hp => q _ _ (same_new hp) (.lst (hid_new lv hp) ((rr _).mono (hid_grow (same_new hp))))⟩
          rw [ra.length]; exact lim_line hz.2.2
      · dsimp only at e
        rw [if_neg hz] at e; cases e
    | _ => cases e
  | _ => cases e
theorem o_mod : OpR X (binaryOp .Mod) (rD cm X.K modD) := o_int op_mod fun i j d e => by
  by_cases hz : 0 < j
  · rw [if_pos hz] at e; cases e; exact ⟨hz, fun _ => .int _⟩
  · rw [if_neg hz] at e; cases e
theorem o_fdiv : OpR X (binaryOp .FloorDiv) (rD cm X.K fdivD) := o_int op_fdiv fun i j d e => by
  by_cases hz : 0 < j ∧ j < 1073741824
  · rw [if_pos hz] at e; cases e; exact ⟨hz, fun _ => .int _⟩
  · rw [if_neg hz] at e; cases e
theorem o_pow : OpR X (binaryOp .Pow) (rD cm X.K powD) := o_int op_pow fun i j d e => by
  by_cases hz : 0 ≤ j ∧ j ≤ 1000000 ∧ i.natAbs < 2 ^ 64
  · rw [if_pos hz] at e; cases e; exact ⟨hz, fun _ => .int _⟩
  · rw [if_neg hz] at e; cases e
theorem o_lt : OpR X (compareOp .Lt) (rD cm X.K ltD) := o_int0 op_lt fun i j d e G => by cases e; exact .bl _
theorem o_le : OpR X (compareOp .LtE) (rD cm X.K leD) := o_int0 op_le fun i j d e G => by cases e; exact .bl _
theorem o_gt : OpR X (compareOp .Gt) (rD cm X.K gtD) := o_int0 op_gt fun i j d e G => by cases e; exact .bl _
theorem o_ge : OpR X (compareOp .GtE) (rD cm X.K geD) := o_int0 op_ge fun i j d e G => by cases e; exact .bl _
theorem rp_non {K : PySem.W.Frag} {G : Hp} {x : V} {a : Dat} (p : Rp cm K G x a) : (decide (x = .non)) = (match a with | .non => true | _ => false) := by
  cases p <;> rfl
theorem o_isN : OpR X (compareOp .Is) (rD cm X.K isND) := by
  rintro pins s σ H x y v u Q I rx ry ⟨M, a, b, c, lv, pa, pb, e, q⟩
  cases b with
  | non =>
    cases pb
    have d := rp_non pa
    refine op_isN pins s σ H _ _ v u Q I rx ry ⟨rfl, ?_⟩
    rw [d]
    cases a <;> (cases e; exact q _ H (Same.refl _) (.bl _))
  | _ => cases e
theorem o_notN : OpR X (compareOp .IsNot) (rD cm X.K notND) := by
  rintro pins s σ H x y v u Q I rx ry ⟨M, a, b, c, lv, pa, pb, e, q⟩
  cases b with
  | non =>
    cases pb
    have d := rp_non pa
    refine op_notN pins s σ H _ _ v u Q I rx ry ⟨rfl, ?_⟩
    rw [d]
    cases a <;> (cases e; exact q _ H (Same.refl _) (.bl _))
  | _ => cases e
theorem u_neg : UnR X (unaryOp .USub) (rU cm X.K negD) := by
  rintro pins s σ H x v Q I rx ⟨M, a, c, lv, pa, e, q⟩
  cases a with
  | int i =>
    cases pa; cases e
    exact un_neg pins s σ H _ v Q I rx ⟨i, rfl, q _ H (Same.refl _) (.int _)⟩
  | _ => cases e
mutual
theorem dp_of {K : PySem.W.Frag} {G : Hp} : ∀ {v : V} {d : Dat} {p : PyData}, Rp cm K G v d → toPy d = some p → Dp K G v p
  | _, _, _, .non, e => by cases e; exact .non
  | _, _, _, .bl b, e => by cases e; exact .bl b
  | _, _, _, .int b, e => by cases e; exact .int b
  | _, _, _, .str b, e => by cases e; exact .str b
  | _, _, p, .lst (ds := ds) s r, e => by
    rw [toPy] at e
    cases h : toPyAll ds with
    | none => rw [h] at e; cases e
    | some ps => rw [h] at e; cases e; exact .lst (SqL.of s) (dpAll_of r h)
  | _, _, p, .ro (ds := ds) s r, e => by
    rw [toPy] at e
    cases h : toPyAll ds with
    | none => rw [h] at e; cases e
    | some ps => rw [h] at e; cases e; exact .lst s (dpAll_of r h)
  | _, _, p, .tup (ds := ds) s r, e => by
    rw [toPy] at e
    cases h : toPyAll ds with
    | none => rw [h] at e; cases e
    | some ps => rw [h] at e; cases e; exact .tup s (dpAll_of r h)
  | _, _, _, .ins s r, e => by rw [toPy] at e; cases e
  | _, _, _, .dic s r, e => by rw [toPy] at e; cases e
theorem dpAll_of {K : PySem.W.Frag} {G : Hp} : ∀ {vs : List V} {ds : List Dat} {ps : List PyData}, RpAll cm K G vs ds → toPyAll ds = some ps → DpAll K G vs ps
  | _, _, _, .nil, e => by rw [toPyAll] at e; cases e; exact .nil
  | _, _, _, .cons (d := d) (ds := ds) a b, e => by
    rw [toPyAll] at e
    cases h : toPy d with
    | none => rw [h] at e; cases e
    | some p =>
      cases h2 : toPyAll ds with
      | none => rw [h, h2] at e; cases e
      | some ps => rw [h, h2] at e; cases e; exact .cons (dp_of a h) (dpAll_of b h2)
end
theorem eqP_eq {t : Bool} {M : List Addr} {H : Hp} {x y : V} {a b : Dat} (pa : Rp cm X.K (hid M H) x a) (pb : Rp cm X.K (hid M H) y b) (e : eqP a b = some t) :
    ∃ d f, Dp X.K H x d ∧ Dp X.K H y f ∧ SeqAt.shaped d = true ∧ SeqAt.shaped f = true ∧ PyData.eqv d f = t := by
  unfold eqP at e
  cases ha : toPy a with
  | none => rw [ha] at e; cases e
  | some p =>
    cases hb : toPy b with
    | none => rw [ha, hb] at e; cases e
    | some r =>
      rw [ha, hb] at e
      dsimp only at e
      by_cases hz : (SeqAt.shaped p && SeqAt.shaped r) = true
      · rw [if_pos hz] at e
        cases e
        rw [Bool.and_eq_true] at hz
        exact ⟨p, r, dp_of (pa.mono hid_le) ha, dp_of (pb.mono hid_le) hb, hz.1, hz.2, rfl⟩
      · rw [if_neg hz] at e; cases e
/-- == of plain data -/
theorem eqB_cases {t : Bool} {M : List Addr} {H : Hp} {x y : V} {a b : Dat} (pa : Rp cm X.K (hid M H) x a) (pb : Rp cm X.K (hid M H) y b) (e : eqB a b = some t) :
    (scal x y = true ∧ decide (x = y) = t) ∨ ∃ d f, Dp X.K H x d ∧ Dp X.K H y f ∧ SeqAt.shaped d = true ∧ SeqAt.shaped f = true ∧ PyData.eqv d f = t := by
  have gen : eqP a b = some t → (scal x y = true ∧ decide (x = y) = t) ∨ ∃ d f, Dp X.K H x d ∧ Dp X.K H y f ∧ SeqAt.shaped d = true ∧ SeqAt.shaped f = true ∧ PyData.eqv d f = t := fun e => .inr (eqP_eq pa pb e)
  cases a with
  | int i =>
    cases b with
    | int j => cases pa; cases pb; cases e; exact .inl ⟨rfl, by simp⟩
    | _ => exact gen (by simpa [eqB] using e)
  | str i =>
    cases b with
    | str j => cases pa; cases pb; cases e; exact .inl ⟨rfl, by simp⟩
    | _ => exact gen (by simpa [eqB] using e)
  | bl i =>
    cases b with
    | bl j => cases pa; cases pb; cases e; exact .inl ⟨rfl, by simp⟩
    | _ => exact gen (by simpa [eqB] using e)
  | non =>
    cases b with
    | non => cases pa; cases pb; cases e; exact .inl ⟨rfl, by simp⟩
    | _ => exact gen (by simpa [eqB] using e)
  | _ => exact gen (by simpa [eqB] using e)
theorem o_eq (hu : X.A.units + 64 < cLine) : OpR X (compareOp .Eq) (rD cm X.K eqD) := by
  rintro pins s σ H x y v u Q I rx ry ⟨M, a, b, c, lv, pa, pb, e, q⟩
  unfold eqD at e
  cases h : eqB a b with
  | none => rw [h] at e; cases e
  | some t =>
    rw [h] at e
    cases e
    rcases eqB_cases pa pb h with ⟨h1, rfl⟩ | ⟨d, f, h1, h2, h3, h4, rfl⟩
    · exact op_eq pins s σ H _ _ v u Q I rx ry ⟨h1, q _ H (Same.refl _) (.bl _)⟩
    · exact op_eqD hu pins s σ H _ _ v u Q I rx ry ⟨d, f, h1, h2, h3, h4, q _ H (Same.refl _) (.bl _)⟩
theorem o_ne (hu : X.A.units + 64 < cLine) : OpR X (compareOp .NotEq) (rD cm X.K neD) := by
  rintro pins s σ H x y v u Q I rx ry ⟨M, a, b, c, lv, pa, pb, e, q⟩
  unfold neD at e
  cases h : eqB a b with
  | none => rw [h] at e; cases e
  | some t =>
    rw [h] at e
    cases e
    rcases eqB_cases pa pb h with ⟨h1, rfl⟩ | ⟨d, f, h1, h2, h3, h4, rfl⟩
    · exact op_ne pins s σ H _ _ v u Q I rx ry ⟨h1, q _ H (Same.refl _) (.bl _)⟩
    · exact op_neD hu pins s σ H _ _ v u Q I rx ry ⟨d, f, h1, h2, h3, h4, q _ H (Same.refl _) (.bl _)⟩
theorem at_rp {K : PySem.W.Frag} {G : Hp} {vs : List V} {ds : List Dat} {i : Int} {d : Dat} (r : RpAll cm K G vs ds) (e : atI ds i = some d) : ∃ v, atI vs i = some v ∧ Rp cm K G v d := by
  unfold atI at e ⊢
  rw [r.length]
  cases h : ixN ds.length i with
  | none => rw [h] at e; cases e
  | some j => rw [h] at e; exact r.get e
theorem i_ix : IxR X (rD cm X.K ixD) := by
  rintro ve vs pins s σ H x y v u Q I rx ry ⟨M, a, b, c, lv, pa, pb, e, q⟩ hp
  cases b with
  | int i =>
    cases pb
    cases a with
    | lst ds =>
      cases pa with
      | lst ha ra =>
        obtain ⟨w, e1, e2⟩ := at_rp ra e
        exact ix_list ve vs pins s σ H _ _ v u Q I rx ry ⟨_, _, i, w, rfl, rfl, SqL.of (hid_le _ _ ha), e1, q _ H (Same.refl _) e2⟩ hp
    | ro ds =>
      cases pa with
      | ro ha ra =>
        obtain ⟨w, e1, e2⟩ := at_rp ra e
        exact ix_list ve vs pins s σ H _ _ v u Q I rx ry ⟨_, _, i, w, rfl, rfl, Same.seq hid_le ha, e1, q _ H (Same.refl _) e2⟩ hp
    | tup ds =>
      cases pa with
      | tup ha ra =>
        obtain ⟨w, e1, e2⟩ := at_rp ra e
        exact ix_tup ve vs pins s σ H _ _ v u Q I rx ry ⟨_, _, i, w, rfl, rfl, sqT_same hid_le ha, e1, q _ H (Same.refl _) e2⟩ hp
    | str z =>
      cases pa
      unfold ixD at e
      dsimp only at e
      by_cases hz : z.length ≤ lim
      · rw [if_pos hz] at e
        cases h : atI z.cps.toList i with
        | none => rw [h] at e; cases e
        | some n =>
          rw [h] at e; cases e
          exact ix_str ve vs pins s σ H _ _ v u Q I rx ry ⟨z, i, n, rfl, rfl, lim_line hz, h, q _ H (Same.refl _) (.str _)⟩ hp
      · rw [if_neg hz] at e; cases e
    | _ => cases e
  | _ => cases a <;> cases e
theorem flat_rp {K : PySem.W.Frag} {G : Hp} {v w : V} {d : Dat} (r : Rp cm K G v d) (e : flatD d = some w) : v = w ∧ flatV v = true := by
  cases r <;> cases e <;> exact ⟨rfl, rfl⟩
theorem flatAll_rp {K : PySem.W.Frag} {G : Hp} : ∀ {vs : List V} {ds : List Dat} {ws : List V}, RpAll cm K G vs ds → flatAll ds = some ws → vs = ws ∧ vs.all flatV = true
  | _, _, _, .nil, e => by cases e; exact ⟨rfl, rfl⟩
  | _, _, _, .cons (d := d) (ds := ds) a b, e => by
    unfold flatAll at e
    cases h : flatD d with
    | none => rw [h] at e; cases e
    | some p =>
      cases h2 : flatAll ds with
      | none => rw [h, h2] at e; cases e
      | some ps =>
        rw [h, h2] at e; cases e
        obtain ⟨e1, f1⟩ := flat_rp a h
        obtain ⟨e2, f2⟩ := flatAll_rp b h2
        subst e1; subst e2
        exact ⟨rfl, by rw [List.all_cons, f1, f2]; rfl⟩
theorem inB_rp {t : Bool} {M : List Addr} {H : Hp} {x y : V} {a b : Dat} (pa : Rp cm X.K (hid M H) x a) (pb : Rp cm X.K (hid M H) y b) (e : inB a b = some t) :
    ∃ p xs, y = .ref p ∧ (SqL X.K H p xs ∨ SqT X.K H p xs) ∧ flatV x = true ∧ xs.all flatV = true ∧ inV x xs = t := by
  unfold inB at e
  cases ha : flatD a with
  | none => rw [ha] at e; cases e
  | some w =>
    rw [ha] at e
    obtain ⟨rfl, f1⟩ := flat_rp pa ha
    cases b with
    | lst ds =>
      cases pb with
      | lst hb rb =>
        dsimp only at e
        cases h : flatAll ds with
        | none => rw [h] at e; cases e
        | some ws =>
          rw [h] at e; cases e
          obtain ⟨rfl, f2⟩ := flatAll_rp rb h
          exact ⟨_, _, rfl, .inl (SqL.of (hid_le _ _ hb)), f1, f2, rfl⟩
    | tup ds =>
      cases pb with
      | tup hb rb =>
        dsimp only at e
        cases h : flatAll ds with
        | none => rw [h] at e; cases e
        | some ws =>
          rw [h] at e; cases e
          obtain ⟨rfl, f2⟩ := flatAll_rp rb h
          exact ⟨_, _, rfl, .inr (sqT_same hid_le hb), f1, f2, rfl⟩
    | _ => cases e
theorem o_in : OpR X (compareOp .In) (rD cm X.K inD) := by
  rintro pins s σ H x y v u Q I rx ry ⟨M, a, b, c, lv, pa, pb, e, q⟩
  unfold inD at e
  cases h : inB a b with
  | none => rw [h] at e; cases e
  | some t =>
    rw [h] at e; cases e
    obtain ⟨p, xs, e1, e2, e3, e4, rfl⟩ := inB_rp pa pb h
    exact op_in_seq pins s σ H _ _ v u Q I rx ry ⟨p, xs, e1, e2, e3, e4, q _ H (Same.refl _) (.bl _)⟩
theorem o_notIn : OpR X (compareOp .NotIn) (rD cm X.K notInD) := by
  rintro pins s σ H x y v u Q I rx ry ⟨M, a, b, c, lv, pa, pb, e, q⟩
  unfold notInD at e
  cases h : inB a b with
  | none => rw [h] at e; cases e
  | some t =>
    rw [h] at e; cases e
    obtain ⟨p, xs, e1, e2, e3, e4, rfl⟩ := inB_rp pa pb h
    exact op_notIn_seq pins s σ H _ _ v u Q I rx ry ⟨p, xs, e1, e2, e3, e4, q _ H (Same.refl _) (.bl _)⟩
end
end Mir

/-! MirE: built-in functions -/
namespace Mir
open PySem L2
section
variable {X : Cx} {cm : CM}
theorem ints_rp {K : PySem.W.Frag} {G : Hp} : ∀ {vs : List V} {ds : List Dat} {ns : List Int}, RpAll cm K G vs ds → intsOf ds = some ns → vs = ns.map V.int
  | _, _, _, .nil, e => by cases e; rfl
  | _, _, _, .cons (d := d) (ds := ds) a b, e => by
    cases d with
    | int i =>
      cases a
      unfold intsOf at e
      cases h : intsOf ds with
      | none => rw [h] at e; cases e
      | some r => rw [h] at e; cases e; rw [ints_rp b h]; rfl
    | _ => cases e
theorem bools_rp {K : PySem.W.Frag} {G : Hp} : ∀ {vs : List V} {ds : List Dat} {ns : List Bool}, RpAll cm K G vs ds → boolsOf ds = some ns → vs = ns.map V.bl
  | _, _, _, .nil, e => by cases e; rfl
  | _, _, _, .cons (d := d) (ds := ds) a b, e => by
    cases d with
    | bl i =>
      cases a
      unfold boolsOf at e
      cases h : boolsOf ds with
      | none => rw [h] at e; cases e
      | some r => rw [h] at e; cases e; rw [bools_rp b h]; rfl
    | _ => cases e
theorem strs_rp {K : PySem.W.Frag} {G : Hp} : ∀ {vs : List V} {ds : List Dat} {ns : List Str}, RpAll cm K G vs ds → strsOf ds = some ns → vs = ns.map V.str
  | _, _, _, .nil, e => by cases e; rfl
  | _, _, _, .cons (d := d) (ds := ds) a b, e => by
    cases d with
    | str i =>
      cases a
      unfold strsOf at e
      cases h : strsOf ds with
      | none => rw [h] at e; cases e
      | some r => rw [h] at e; cases e; rw [strs_rp b h]; rfl
    | _ => cases e
theorem maxI_mem : ∀ (n : Int) (r : List Int), maxI (n :: r) ∈ n :: r ∧ ∀ y ∈ n :: r, y ≤ maxI (n :: r)
  | n, [] => ⟨List.mem_singleton.mpr rfl, fun y h => by rw [List.mem_singleton.mp h]; exact Int.le_refl _⟩
  | n, m :: r => by
    obtain ⟨h1, h2⟩ := maxI_mem m r
    show max n (maxI (m :: r)) ∈ _ ∧ ∀ y ∈ _, y ≤ max n (maxI (m :: r))
    refine ⟨?_, fun y hy => ?_⟩
    · by_cases h : n ≤ maxI (m :: r)
      · rw [Int.max_eq_right h]; exact List.mem_cons_of_mem _ h1
      · rw [Int.max_eq_left (by omega)]; exact List.mem_cons_self ..
    · rcases List.mem_cons.mp hy with e | e
      · rw [e]; exact Int.le_max_left _ _
      · exact Int.le_trans (h2 y e) (Int.le_max_right _ _)
theorem minI_mem : ∀ (n : Int) (r : List Int), minI (n :: r) ∈ n :: r ∧ ∀ y ∈ n :: r, minI (n :: r) ≤ y
  | n, [] => ⟨List.mem_singleton.mpr rfl, fun y h => by rw [List.mem_singleton.mp h]; exact Int.le_refl _⟩
  | n, m :: r => by
    obtain ⟨h1, h2⟩ := minI_mem m r
    show min n (minI (m :: r)) ∈ _ ∧ ∀ y ∈ _, min n (minI (m :: r)) ≤ y
    refine ⟨?_, fun y hy => ?_⟩
    · by_cases h : n ≤ minI (m :: r)
      · rw [Int.min_eq_left h]; exact List.mem_cons_self ..
      · rw [Int.min_eq_right (by omega)]; exact List.mem_cons_of_mem _ h1
    · rcases List.mem_cons.mp hy with e | e
      · rw [e]; exact Int.min_le_left _ _
      · exact Int.le_trans (Int.min_le_right _ _) (h2 y e)
theorem c_len : CallR X (.builtin "len") (rDs cm X.K lenC) := by
  rintro pins s σ H xs us Q I r ⟨M, ds, c, lv, pa, e, q⟩
  cases pa with
  | nil => cases e
  | cons p1 p2 =>
    cases p2 with
    | cons _ _ => cases p1 <;> cases e
    | nil =>
      cases p1 with
      | lst ha ra => cases e; exact call_len pins s σ H _ us Q I r ⟨_, _, rfl, .inl ⟨_, SqL.of (hid_le _ _ ha), ra.length.symm⟩, q _ H (Same.refl _) (.int _)⟩
      | ro ha ra => cases e; exact call_len pins s σ H _ us Q I r ⟨_, _, rfl, .inl ⟨_, Same.seq hid_le ha, ra.length.symm⟩, q _ H (Same.refl _) (.int _)⟩
      | tup ha ra => cases e; exact call_len pins s σ H _ us Q I r ⟨_, _, rfl, .inr ⟨_, sqT_same hid_le ha, ra.length.symm⟩, q _ H (Same.refl _) (.int _)⟩
      | str z =>
        unfold lenC at e
        dsimp only at e
        by_cases hz : z.length ≤ lim
        · rw [if_pos hz] at e; cases e
          exact call_len pins s σ H _ us Q I r ⟨_, _, rfl, ⟨lim_line hz, rfl⟩, q _ H (Same.refl _) (.int _)⟩
        · rw [if_neg hz] at e; cases e
      | _ => cases e
theorem c_abs : CallR X (.builtin "abs") (rDs cm X.K absC) := by
  rintro pins s σ H xs us Q I r ⟨M, ds, c, lv, pa, e, q⟩
  cases pa with
  | nil => cases e
  | cons p1 p2 =>
    cases p2 with
    | cons _ _ => cases p1 <;> cases e
    | nil =>
      cases p1 with
      | int i => cases e; exact call_abs pins s σ H _ us Q I r ⟨i, rfl, q _ H (Same.refl _) (.int _)⟩
      | _ => cases e
theorem c_max (hc : X.calm = true) : CallR X (.builtin "max") (rDs cm X.K maxC) := by
  rintro pins s σ H xs us Q I r ⟨M, ds, c, lv, pa, e, q⟩
  cases pa with
  | nil => cases e
  | cons p1 p2 =>
    cases p2 with
    | cons p2 p3 =>
      cases p3 with
      | cons _ _ => cases p1 <;> cases p2 <;> cases e
      | nil =>
        cases p1 with
        | int i =>
          cases p2 with
          | int j => cases e; exact call_max2 hc pins s σ H _ us Q I r ⟨i, j, rfl, q _ H (Same.refl _) (.int _)⟩
          | _ => cases e
        | _ => cases e
    | nil =>
      cases p1 with
      | @lst a vs ds ha ra =>
        have e' : (match intsOf ds with | some (n :: r) => some (Dat.int (maxI (n :: r))) | _ => none) = some c := e
        cases h : intsOf ds with
        | none => rw [h] at e'; cases e'
        | some ns =>
          rw [h] at e'
          cases ns with
          | nil => cases e'
          | cons n r' =>
            cases e'
            have z := ints_rp ra h
            subst z
            obtain ⟨m1, m2⟩ := maxI_mem n r'
            refine cr_max hc pins s σ H _ us Q I r ⟨_, n :: r', rfl, SqL.of (hid_le _ _ ha), Nat.succ_pos _, fun m hm hle => ?_⟩
            rw [Int.le_antisymm (m2 m hm) (hle _ m1)]
            exact q _ H (Same.refl _) (.int _)
      | _ => cases e
theorem c_min (hc : X.calm = true) : CallR X (.builtin "min") (rDs cm X.K minC) := by
  rintro pins s σ H xs us Q I r ⟨M, ds, c, lv, pa, e, q⟩
  cases pa with
  | nil => cases e
  | cons p1 p2 =>
    cases p2 with
    | cons p2 p3 =>
      cases p3 with
      | cons _ _ => cases p1 <;> cases p2 <;> cases e
      | nil =>
        cases p1 with
        | int i =>
          cases p2 with
          | int j => cases e; exact call_min2 hc pins s σ H _ us Q I r ⟨i, j, rfl, q _ H (Same.refl _) (.int _)⟩
          | _ => cases e
        | _ => cases e
    | nil =>
      cases p1 with
      | @lst a vs ds ha ra =>
        have e' : (match intsOf ds with | some (n :: r) => some (Dat.int (minI (n :: r))) | _ => none) = some c := e
        cases h : intsOf ds with
        | none => rw [h] at e'; cases e'
        | some ns =>
          rw [h] at e'
          cases ns with
          | nil => cases e'
          | cons n r' =>
            cases e'
            have z := ints_rp ra h
            subst z
            obtain ⟨m1, m2⟩ := minI_mem n r'
            refine cr_min hc pins s σ H _ us Q I r ⟨_, n :: r', rfl, SqL.of (hid_le _ _ ha), Nat.succ_pos _, fun m hm hle => ?_⟩
            rw [Int.le_antisymm (hle _ m1) (m2 m hm)]
            exact q _ H (Same.refl _) (.int _)
      | _ => cases e
theorem c_sum (hc : X.calm = true) : CallR X (.builtin "sum") (rDs cm X.K sumC) := by
  rintro pins s σ H xs us Q I r ⟨M, ds, c, lv, pa, e, q⟩
  cases pa with
  | nil => cases e
  | cons p1 p2 =>
    cases p2 with
    | cons _ _ => cases p1 <;> cases e
    | nil =>
      cases p1 with
      | @lst a vs ds ha ra =>
        have e' : (intsOf ds).map (fun ns => Dat.int ns.sum) = some c := e
        cases h : intsOf ds with
        | none => rw [h] at e'; cases e'
        | some ns =>
          rw [h] at e'; cases e'
          have z := ints_rp ra h
          subst z
          exact cr_sum hc pins s σ H _ us Q I r ⟨_, ns, rfl, SqL.of (hid_le _ _ ha), q _ H (Same.refl _) (.int _)⟩
      | _ => cases e
theorem c_all (hc : X.calm = true) : CallR X (.builtin "all") (rDs cm X.K allC) := by
  rintro pins s σ H xs us Q I r ⟨M, ds, c, lv, pa, e, q⟩
  cases pa with
  | nil => cases e
  | cons p1 p2 =>
    cases p2 with
    | cons _ _ => cases p1 <;> cases e
    | nil =>
      cases p1 with
      | @lst a vs ds ha ra =>
        have e' : (boolsOf ds).map (fun ns => Dat.bl (ns.all id)) = some c := e
        cases h : boolsOf ds with
        | none => rw [h] at e'; cases e'
        | some ns =>
          rw [h] at e'; cases e'
          have z := bools_rp ra h
          subst z
          exact cr_all hc pins s σ H _ us Q I r ⟨_, ns, rfl, SqL.of (hid_le _ _ ha), q _ H (Same.refl _) (.bl _)⟩
      | _ => cases e
theorem c_any (hc : X.calm = true) : CallR X (.builtin "any") (rDs cm X.K anyC) := by
  rintro pins s σ H xs us Q I r ⟨M, ds, c, lv, pa, e, q⟩
  cases pa with
  | nil => cases e
  | cons p1 p2 =>
    cases p2 with
    | cons _ _ => cases p1 <;> cases e
    | nil =>
      cases p1 with
      | @lst a vs ds ha ra =>
        have e' : (boolsOf ds).map (fun ns => Dat.bl (ns.any id)) = some c := e
        cases h : boolsOf ds with
        | none => rw [h] at e'; cases e'
        | some ns =>
          rw [h] at e'; cases e'
          have z := bools_rp ra h
          subst z
          exact cr_any hc pins s σ H _ us Q I r ⟨_, ns, rfl, SqL.of (hid_le _ _ ha), q _ H (Same.refl _) (.bl _)⟩
      | _ => cases e
theorem c_int : CallR X (.type "int") (rDs cm X.K intC) := by
  rintro pins s σ H xs us Q I r ⟨M, ds, c, lv, pa, e, q⟩
  cases pa with
  | nil => cases e
  | cons p1 p2 =>
    cases p2 with
    | cons _ _ => cases p1 <;> cases e
    | nil =>
      cases p1 with
      | int i => cases e; exact call_int1 pins s σ H _ us Q I r (.inl ⟨i, rfl, q _ H (Same.refl _) (.int _)⟩)
      | bl i => cases e; exact call_int1 pins s σ H _ us Q I r (.inr ⟨i, rfl, q _ H (Same.refl _) (.int _)⟩)
      | _ => cases e
theorem c_divmod : CallR X (.builtin "divmod") (rDs cm X.K divmodC) := by
  rintro pins s σ H xs us Q I r ⟨M, ds, c, lv, pa, e, q⟩
  cases pa with
  | nil => cases e
  | cons p1 p2 =>
    cases p2 with
    | nil => cases p1 <;> cases e
    | cons p2 p3 =>
      cases p3 with
      | cons _ _ => cases p1 <;> cases p2 <;> cases e
      | nil =>
        cases p1 with
        | int i =>
          cases p2 with
          | int j =>
            unfold divmodC at e
            dsimp only at e
            by_cases hz : 0 < j ∧ j < 1073741824
            · rw [if_pos hz] at e; cases e
              exact call_divmod pins s σ H _ us Q I r ⟨i, j, rfl, hz, fun p hp => q _ _ (same_new hp) (.tup (SqT.of (hid_new lv hp)) (.cons (.int _) (.cons (.int _) .nil)))⟩
            · rw [if_neg hz] at e; cases e
          | _ => cases e
        | _ => cases e
theorem c_list : CallR X (.type "list") (rDs cm X.K listC) := by
  rintro pins s σ H xs us Q I r ⟨M, ds, c, lv, pa, e, q⟩
  cases pa with
  | nil => cases e
  | cons p1 p2 =>
    cases p2 with
    | cons _ _ => cases p1 <;> cases e
    | nil =>
      cases p1 with
      | lst ha ra => cases e; exact call_list_of pins s σ H _ us Q I r ⟨_, _, rfl, .inl (SqL.of (hid_le _ _ ha)), fun p hp => q _ _ (same_new hp) (.lst (hid_new lv hp) (ra.mono (hid_grow (same_new hp))))⟩
      | ro ha ra => cases e; exact call_list_of pins s σ H _ us Q I r ⟨_, _, rfl, .inl (Same.seq hid_le ha), fun p hp => q _ _ (same_new hp) (.lst (hid_new lv hp) (ra.mono (hid_grow (same_new hp))))⟩
      | tup ha ra => cases e; exact call_list_of pins s σ H _ us Q I r ⟨_, _, rfl, .inr (sqT_same hid_le ha), fun p hp => q _ _ (same_new hp) (.lst (hid_new lv hp) (ra.mono (hid_grow (same_new hp))))⟩
      | _ => cases e
theorem c_tuple : CallR X (.type "tuple") (rDs cm X.K tupleC) := by
  rintro pins s σ H xs us Q I r ⟨M, ds, c, lv, pa, e, q⟩
  cases pa with
  | nil => cases e
  | cons p1 p2 =>
    cases p2 with
    | cons _ _ => cases p1 <;> cases e
    | nil =>
      cases p1 with
      | lst ha ra => cases e; exact call_tuple_of pins s σ H _ us Q I r ⟨_, _, rfl, .inl ⟨SqL.of (hid_le _ _ ha), fun p hp => q _ _ (same_new hp) (.tup (SqT.of (hid_new lv hp)) (ra.mono (hid_grow (same_new hp))))⟩⟩
      | ro ha ra => cases e; exact call_tuple_of pins s σ H _ us Q I r ⟨_, _, rfl, .inl ⟨Same.seq hid_le ha, fun p hp => q _ _ (same_new hp) (.tup (SqT.of (hid_new lv hp)) (ra.mono (hid_grow (same_new hp))))⟩⟩
      | tup ha ra => cases e; exact call_tuple_of pins s σ H _ us Q I r ⟨_, _, rfl, .inr ⟨sqT_same hid_le ha, q _ H (Same.refl _) (.tup ha ra)⟩⟩
      | _ => cases e
theorem c_str : CallR X (.type "str") (rDs cm X.K strC) := by
  rintro pins s σ H xs us Q I r ⟨M, ds, c, lv, pa, e, q⟩
  cases pa with
  | nil => cases e
  | cons p1 p2 =>
    cases p2 with
    | cons _ _ => cases p1 <;> cases e
    | nil =>
      cases p1 with
      | int i =>
        unfold strC at e
        dsimp only at e
        by_cases hz : showI i = true
        · rw [if_pos hz] at e; cases e
          exact call_str_int pins s σ H _ us Q I r ⟨i, rfl, of_decide_eq_true hz, q _ H (Same.refl _) (.str _)⟩
        · rw [if_neg hz] at e; cases e
      | str x => cases e; exact SkE.call_str_str pins s σ H _ us Q I r ⟨x, rfl, q _ H (Same.refl _) (.str _)⟩
      | non =>
        cases e
        obtain ⟨u, rfl, rx⟩ := vals1 r
        obtain rfl : u = Value.none := rx
        exact PySem.P.str_of_none ⟨.str _, H, I.tok _, ⟨_, rfl⟩, q _ H (Same.refl _) (.str _)⟩
      | bl b =>
        cases e
        obtain ⟨u, rfl, rx⟩ := vals1 r
        obtain rfl : u = Value.bool b := rx
        exact PySem.P.str_of_bool ⟨.str _, H, I.tok _, ⟨_, rfl⟩, q _ H (Same.refl _) (.str _)⟩
      | _ => cases e
theorem showP_ok {p : PyData} {x : Str} (e : showP p = some x) : p.showable = true ∧ p.hasDict = false ∧ p.depth ≤ 60 ∧ p.shown.length ≤ sizeLine ∧ x = p.shown := by
  unfold showP at e
  by_cases hz : (p.showable && !p.hasDict && decide (p.depth ≤ 60) && decide (p.shown.length ≤ sizeLine)) = true
  · rw [if_pos hz] at e
    cases e
    simp only [Bool.and_eq_true, decide_eq_true_eq, Bool.not_eq_true'] at hz
    exact ⟨hz.1.1.1, hz.1.1.2, hz.1.2, hz.2, rfl⟩
  · rw [if_neg hz] at e; cases e
/-- the text of a value, by whatever way of showing it -/
theorem repr_ok {pins : List (Addr × Obj)} {s : Shared} {σ : St} {H : Hp} {Q : VK} {M : List Addr} {x : V} {u : Value} {d : Dat} {z : Str} (I : L2.Inv X pins σ H s) (hg : X.A.guards = some []) (hu : X.A.units + 64 < cLine) (p : Rp cm X.K (hid M H) x d) (rx : RelV x u) (e : reprS d = some z)
    (q : Q (.str z) H) : wpAny (model X.prog X.w) X.A (call (.builtin "repr") [u]) (EP X pins σ Q) X.xe s := by
  unfold reprS at e
  cases hp : toPy d with
  | none => rw [hp] at e; cases e
  | some py =>
    rw [hp] at e
    obtain ⟨h1, h2, h3, h4, rfl⟩ := showP_ok e
    have dp := dp_of (p.mono hid_le) hp
    obtain ⟨as, rd⟩ := Dp.reads I py x u dp rx
    have ref : ∀ a, u = .ref a → wpAny (model X.prog X.w) X.A (call (.builtin "repr") [u]) (EP X pins σ Q) X.xe s := fun a ea => by
      subst ea
      exact repr_of_reads' rd h1 (PyData.noDict_hsm h2) hg (by omega) (fun _ _ z => z) (fun h' t tk k => ⟨.str py.shown, H, I.kept k, ⟨_, rfl⟩, q⟩) h4
    cases dp with
    | non =>
      obtain rfl : u = Value.none := rx
      exact PySem.P.repr_of_none ⟨.str _, H, I.tok _, ⟨_, rfl⟩, q⟩
    | bl b =>
      obtain rfl : u = Value.bool b := rx
      have eb : PyData.shown (.bool b) = if b = true then Str.ofString "True" else Str.ofString "False" := by cases b <;> rfl
      rw [eb] at q
      exact PySem.P.repr_of_bool ⟨.str _, H, I.tok _, ⟨_, rfl⟩, q⟩
    | int i =>
      obtain ⟨t, rfl⟩ := rx
      exact PySem.P.repr_of_int (of_decide_eq_true (by simpa [PyData.showable] using h1)) ⟨.str _, H, I.tok _, ⟨_, rfl⟩, q⟩
    | str i =>
      obtain ⟨t, rfl⟩ := rx
      exact PySem.P.repr_of_str ⟨.str _, H, I.tok _, ⟨_, rfl⟩, q⟩ h4
    | lst hs _ =>
      obtain rfl : u = Value.ref _ := rx
      exact ref _ rfl
    | tup hs _ =>
      obtain rfl : u = Value.ref _ := rx
      exact ref _ rfl
theorem c_repr (hg : X.A.guards = some []) (hu : X.A.units + 64 < cLine) : CallR X (.builtin "repr") (rDs cm X.K reprC) := by
  rintro pins s σ H xs us Q I r ⟨M, ds, c, lv, pa, e, q⟩
  cases pa with
  | nil => cases e
  | @cons v d vs ds p1 p2 =>
    cases p2 with
    | cons _ _ => cases p1 <;> cases e
    | nil =>
      obtain ⟨u, rfl, rx⟩ := vals1 r
      have e' : (reprS d).map Dat.str = some c := e
      cases h : reprS d with
      | none => rw [h] at e'; cases e'
      | some z =>
        rw [h] at e'; cases e'
        exact repr_ok I hg hu p1 rx h (q _ H (Same.refl _) (.str _))
end
end Mir

/-! MirF: statements and their mirrors -/
namespace Mir
open PySem L2

inductive Fl where
  | nx
  | rt (d : Dat)
  | bk
  | ct
abbrev MS := Sg → Rs Fl
def outS (F : Fm) (W : WX) (G : Hp) (D : Ends) : Rs Fl → Prop
  | .ok .nx S => ∀ σ H, Rel F S σ H → Same G (vis F S σ H) → D.nx σ H
  | .ok (.rt d) S => ∀ v σ H, Rel F S σ H → Same G (vis F S σ H) → Rp F.cm F.K (vis F S σ H) v d → D.rt v H
  | .ok .bk S => ∀ σ H, Rel F S σ H → Same G (vis F S σ H) → D.bk σ H
  | .ok .ct S => ∀ σ H, Rel F S σ H → Same G (vis F S σ H) → D.ct σ H
  | .exc c fs S => ∀ σ, outX F W σ G c fs S
  | .bad => False
def tS (cm : CM) (K : PySem.W.Frag) (W : WX) (m : MS) : TS := fun D σ H => ∃ F S, F.cm = cm ∧ F.K = K ∧ Rel F S σ H ∧ outS F W (vis F S σ H) D (m S)
theorem outS_same {F : Fm} {W : WX} {G G' : Hp} {D : Ends} {r : Rs Fl} (e : Same G G') (h : outS F W G D r) : outS F W G' D r := by
  cases r with
  | ok a S =>
    cases a with
    | nx => exact fun σ H a b => h σ H a (e.trans b)
    | rt d => exact fun v σ H a b c => h v σ H a (e.trans b) c
    | bk => exact fun σ H a b => h σ H a (e.trans b)
    | ct => exact fun σ H a b => h σ H a (e.trans b)
  | exc c fs S => exact fun σ da gs H a b c d => h σ da gs H a (e.trans b) c d
  | bad => exact h
/-- an expression first, then what a statement does with it -/
theorem tG_bindS {β α : Type} {cm : CM} {K : PySem.W.Frag} {W : WX} {R : Rep β α} {m : Sg → Rs α} {k : α → Sg → Rs Fl} {σ : St} {H : Hp} {D : Ends} {Q' : β → Hp → Prop} {F : Fm} {S : Sg}
    (e1 : F.cm = cm) (e2 : F.K = K) (r : Rel F S σ H) (h : outS F W (vis F S σ H) D ((m S).bind k))
    (q : ∀ x H1 a S1, Rel F S1 σ H1 → Same (vis F S σ H) (vis F S1 σ H1) → R σ (vis F S1 σ H1) x a → outS F W (vis F S1 σ H1) D (k a S1) → Q' x H1) : tG cm K W R m σ H Q' := by
  refine ⟨F, S, e1, e2, r, ?_⟩
  cases hm : m S with
  | ok a S1 => rw [hm] at h; exact fun v H1 a1 a2 a3 => q v H1 a S1 a1 a2 a3 (outS_same a2 h)
  | exc c fs S1 => rw [hm] at h; exact h σ
  | bad => rw [hm] at h; exact h

/-- behind a store -/
def outT (F : Fm) (W : WX) (G : Hp) (Q : St → Hp → Prop) : Rs Unit → Prop
  | .ok _ S => ∀ σ H, Rel F S σ H → Same G (vis F S σ H) → Q σ H
  | .exc c fs S => ∀ σ, outX F W σ G c fs S
  | .bad => False
theorem outT_same {F : Fm} {W : WX} {G G' : Hp} {Q : St → Hp → Prop} {r : Rs Unit} (e : Same G G') (h : outT F W G Q r) : outT F W G' Q r := by
  cases r with
  | ok a S => exact fun σ H a b => h σ H a (e.trans b)
  | exc c fs S => exact fun σ da gs H a b c d => h σ da gs H a (e.trans b) c d
  | bad => exact h
theorem tG_bindT {β α : Type} {cm : CM} {K : PySem.W.Frag} {W : WX} {R : Rep β α} {m : Sg → Rs α} {k : α → Sg → Rs Unit} {σ : St} {H : Hp} {Q : St → Hp → Prop} {Q' : β → Hp → Prop} {F : Fm} {S : Sg}
    (e1 : F.cm = cm) (e2 : F.K = K) (r : Rel F S σ H) (h : outT F W (vis F S σ H) Q ((m S).bind k))
    (q : ∀ x H1 a S1, Rel F S1 σ H1 → Same (vis F S σ H) (vis F S1 σ H1) → R σ (vis F S1 σ H1) x a → outT F W (vis F S1 σ H1) Q (k a S1) → Q' x H1) : tG cm K W R m σ H Q' := by
  refine ⟨F, S, e1, e2, r, ?_⟩
  cases hm : m S with
  | ok a S1 => rw [hm] at h; exact fun v H1 a1 a2 a3 => q v H1 a S1 a1 a2 a3 (outT_same a2 h)
  | exc c fs S1 => rw [hm] at h; exact h σ
  | bad => rw [hm] at h; exact h

/-! ### mirrors -/
def mNext : MS := fun S => .ok .nx S
def mSeq (a b : MS) : MS := fun S => match a S with
  | .ok .nx S1 => b S1
  | r => r
def mRet (m : ME) : MS := fun S => (m S).bind fun d S1 => .ok (.rt d) S1
def mRetN : MS := fun S => .ok (.rt .non) S
def mDrop (m : ME) : MS := fun S => (m S).bind fun _ S1 => .ok .nx S1
def mIfS (c : MT) (a b : MS) : MS := fun S => (c S).bind fun t S1 => if t = true then a S1 else b S1
def mBreak : MS := fun S => .ok .bk S
def mCont : MS := fun S => .ok .ct S
def mNever : MS := fun _ => .bad
/-- targets: the value, the state behind -/
abbrev MG := Dat → Sg → Rs Unit
abbrev MGs := List Dat → Sg → Rs Unit
def gNm (i : Nat) : MG := fun d S => .ok () (S.set i (.dat d))
def gNl : MGs := fun ds S => match ds with
  | [] => .ok () S
  | _ => .bad
def gCs (g : MG) (r : MGs) : MGs := fun ds S => match ds with
  | d :: ds => (g d S).bind fun _ S1 => r ds S1
  | [] => .bad
def gTp (r : MGs) : MG := fun d S => match d with
  | .tup ds => r ds S
  | _ => .bad
/-- x[i] = .., x a list of one's own or lent -/
def setAt (i : Nat) (k : Int) (d : Dat) (S : Sg) : Rs Unit := match S[i]? with
  | some (.loc ds) => match ixN ds.length k with
    | some j => .ok () (S.set i (.loc (ds.set j d)))
    | none => .bad
  | some (.own n (.lst ds)) => match ixN ds.length k with
    | some j => .ok () (S.set i (.own n (.lst (ds.set j d))))
    | none => .bad
  | _ => .bad
def mAsg (m : ME) (g : MG) : MS := fun S => (m S).bind fun d S1 => (g d S1).bind fun _ S2 => .ok .nx S2
/-- a new list, the def's own -/
def mSetL (i : Nat) (ma : MA) : MS := fun S => (ma S).bind fun ds S1 => if ds.length ≤ lim then .ok .nx (S1.set i (.loc ds)) else .bad
def appAt (i : Nat) (d : Dat) (S : Sg) : Rs Fl := match S[i]? with
  | some (.loc ds) => if ds.length < lim then .ok .nx (S.set i (.loc (ds ++ [d]))) else .bad
  | some (.own n (.lst ds)) => if ds.length < lim then .ok .nx (S.set i (.own n (.lst (ds ++ [d])))) else .bad
  | _ => .bad
def isMut (i : Nat) (S : Sg) : Bool := match S[i]? with
  | some (.loc _) => true
  | some (.own _ (.lst _)) => true
  | _ => false
def gIx (i : Nat) (mi : ME) : MG := fun d S => if isMut i S then (mi S).bind fun k S1 => match k with
  | .int k => if isMut i S1 then setAt i k d S1 else .bad
  | _ => .bad else .bad
def mApp (i : Nat) (m : ME) : MS := fun S => if isMut i S then (m S).bind fun d S1 => if isMut i S1 then appAt i d S1 else .bad else .bad
def mPar (i j : Nat) (ma : MA) : MS := fun S => (ma S).bind fun ds S1 => match ds with
  | [a, b] => .ok .nx ((S1.set i (.dat a)).set j (.dat b))
  | _ => .bad
def mAug (i : Nat) (g : Dat → Dat → Option Dat) (m : ME) : MS := fun S => match S[i]? with
  | some (.dat a) => (m S).bind fun b S1 => (Rs.of (g a b) S1).bind fun c S2 => .ok .nx (S2.set i (.dat c))
  | _ => .bad
/-- the items one after another -/
def loopS (g : MG) (b : MS) : List Dat → MS
  | [], S => .ok .nx S
  | d :: ds, S => (g d S).bind fun _ S1 => match b S1 with
    | .ok .nx S2 => loopS g b ds S2
    | .ok .ct S2 => loopS g b ds S2
    | .ok .bk S2 => .ok .nx S2
    | r => r
def mFor (mi : Sg → Rs (List Dat)) (g : MG) (b : MS) : MS := fun S => (mi S).bind fun ds S1 => loopS g b ds S1
def whileN (c : MT) (b : MS) : Nat → MS
  | 0, _ => .bad
  | n + 1, S => (c S).bind fun t S1 => if t = true then (match b S1 with
    | .ok .nx S2 => whileN c b n S2
    | .ok .ct S2 => whileN c b n S2
    | .ok .bk S2 => .ok .nx S2
    | r => r) else .ok .nx S1
open Classical in
/-- as many turns as it takes -/
noncomputable def mWhile (c : MT) (b : MS) : MS := fun S => if h : ∃ n, whileN c b n S ≠ .bad then whileN c b (choose h) S else .bad

/-! ### rules -/
def rIt (cm : CM) (K : PySem.W.Frag) : Rep It (List Dat) := fun _ G J ds =>
  (∀ (i : Nat) (H : Hp), Same G H → i < ds.length → J.go i H) ∧ (∀ H : Hp, Same G H → J.stop ds.length H) ∧
    ∀ (i : Nat) (H : Hp) (x : V) (H' : Hp) (M : List Addr), Same G (hid M H) → live M H → J.yld i H x H' → i < ds.length → Same H H' ∧ ∃ d, ds[i]? = some d ∧ Rp cm K (hid M H') x d
def tGt (cm : CM) (K : PySem.W.Frag) (W : WX) (g : MG) : TG := fun v σ H Q => ∃ F S d, F.cm = cm ∧ F.K = K ∧ Rel F S σ H ∧ Rp cm K (vis F S σ H) v d ∧ outT F W (vis F S σ H) Q (g d S)
def tGts (cm : CM) (K : PySem.W.Frag) (W : WX) (g : MGs) : TGs := fun vs σ H Q => ∃ F S ds, F.cm = cm ∧ F.K = K ∧ Rel F S σ H ∧ RpAll cm K (vis F S σ H) vs ds ∧ outT F W (vis F S σ H) Q (g ds S)
theorem PG.weak {X : Cx} {e : Expr} {t t' : TG} (h : PG X e t) (i : ∀ v σ H Q, t' v σ H Q → t v σ H Q) : PG X e t' := ⟨fun pins s σ H v u Q I r q => h.run pins s σ H v u Q I r (i v σ H Q q)⟩
theorem PGs.weak {X : Cx} {e : List Expr} {t t' : TGs} (h : PGs X e t) (i : ∀ v σ H Q, t' v σ H Q → t v σ H Q) : PGs X e t' := ⟨fun pins s σ H v u Q I r q => h.run pins s σ H v u Q I r (i v σ H Q q)⟩
theorem PI.weak {X : Cx} {tg e : Expr} {t t' : TI} (h : PI X tg e t) (i : ∀ σ H Q, t' σ H Q → t σ H Q) : PI X tg e t' := ⟨fun pins s σ H Q I q => h.run pins s σ H Q I (i σ H Q q)⟩
section
variable {X : Cx} {cm : CM} {W : WX} {a b c e tg : Expr} {es : List Expr} {ma mb mc : ME} {mr : MA} {ca cb : MT} {pos : Pos} {st : Stmt} {sts sts' : List Stmt} {s1 s2 : MS} {g : MG} {gs : MGs}
theorem gs_nil : PSs X [] (tS cm X.K W mNext) := PSs.weak pss_nil fun D σ H ⟨F, S, e1, e2, R, h⟩ => h σ H R (Same.refl _)
theorem gs_cons (h1 : PS X st (tS cm X.K W s1)) (h2 : PSs X sts (tS cm X.K W s2)) : PSs X (st :: sts) (tS cm X.K W (mSeq s1 s2)) :=
  PSs.weak (pss_cons h1 h2) fun D σ H ⟨F, S, e1, e2, R, h⟩ => ⟨F, S, e1, e2, R, by
    unfold mSeq at h
    cases hm : s1 S with
    | bad => rw [hm] at h; exact h
    | exc c fs S1 => rw [hm] at h; exact h
    | ok f S1 =>
      rw [hm] at h
      cases f with
      | nx => exact fun σ' H' R' s' => ⟨F, S1, e1, e2, R', outS_same s' h⟩
      | rt d => exact h
      | bk => exact h
      | ct => exact h⟩
theorem gs_one (h1 : PS X st (tS cm X.K W s1)) : PSs X [st] (tS cm X.K W s1) := pss_one h1
theorem gs_ret (h : PE X e (tE cm X.K W ma)) : PS X (.Return (some e) pos) (tS cm X.K W (mRet ma)) :=
  PS.weak (ps_ret h) fun D σ H ⟨F, S, e1, e2, R, h⟩ => tG_bindS e1 e2 R h fun x H1 da S1 R1 s1 p1 h1 => h1 x σ H1 R1 (Same.refl _) (by rw [e1, e2]; exact p1)
theorem gs_retN : PS X (.Return none pos) (tS cm X.K W mRetN) := PS.weak ps_retN fun D σ H ⟨F, S, e1, e2, R, h⟩ => h .non σ H R (Same.refl _) .non
theorem gs_expr (h : PE X e (tE cm X.K W ma)) (hs : swapsWith e none pos.line X.env = pure false := by rfl) : PS X (.Expr e pos) (tS cm X.K W (mDrop ma)) :=
  PS.weak (ps_expr h hs) fun D σ H ⟨F, S, e1, e2, R, h⟩ => tG_bindS e1 e2 R h fun x H1 da S1 R1 s1 p1 h1 => h1 σ H1 R1 (Same.refl _)
theorem gs_pass : PS X (.Pass pos) (tS cm X.K W mNext) := PS.weak ps_pass fun D σ H ⟨F, S, e1, e2, R, h⟩ => h σ H R (Same.refl _)
theorem gs_break : PS X (.Break pos) (tS cm X.K W mBreak) := PS.weak ps_break fun D σ H ⟨F, S, e1, e2, R, h⟩ => h σ H R (Same.refl _)
theorem gs_cont : PS X (.Continue pos) (tS cm X.K W mCont) := PS.weak ps_continue fun D σ H ⟨F, S, e1, e2, R, h⟩ => h σ H R (Same.refl _)
theorem gs_never : PS X st (tS cm X.K W mNever) := PS.weak ps_never fun D σ H ⟨F, S, e1, e2, R, h⟩ => h
theorem gs_if (hc : PT X c (tT cm X.K W ca)) (h1 : PSs X sts (tS cm X.K W s1)) (h2 : PSs X sts' (tS cm X.K W s2)) : PS X (.If c sts sts' pos) (tS cm X.K W (mIfS ca s1 s2)) :=
  PS.weak (ps_if hc h1 h2) fun D σ H ⟨F, S, e1, e2, R, h⟩ => tG_bindS e1 e2 R h fun x H1 da S1 R1 s1 p1 h1 => by
    cases p1
    cases x with
    | true => exact ⟨F, S1, e1, e2, R1, h1⟩
    | false => exact ⟨F, S1, e1, e2, R1, h1⟩
/-! targets -/
theorem gg_name {i : Nat} (h : PG X tg (L2.gName i)) : PG X tg (tGt cm X.K W (gNm i)) := PG.weak h fun v σ H Q ⟨F, S, d, e1, e2, R, p, h⟩ => by
  obtain ⟨R', s'⟩ := R.dat (i := i) (v := v) (d := d) (by rw [e1, e2]; exact p)
  exact h _ H R' s'
theorem ggs_nil : PGs X [] (tGts cm X.K W gNl) := PGs.weak pgs_nil fun v σ H Q ⟨F, S, d, e1, e2, R, p, h⟩ => by
  cases p with
  | nil => exact ⟨rfl, h σ H R (Same.refl _)⟩
  | cons _ _ => exact False.elim h
theorem ggs_cons (h1 : PG X e (tGt cm X.K W g)) (h2 : PGs X es (tGts cm X.K W gs)) (hs : (assignEach (e :: es) X.env).map (·.2) = assign e X.env :: (assignEach es X.env).map (·.2) := by rfl) : PGs X (e :: es) (tGts cm X.K W (gCs g gs)) :=
  PGs.weak (pgs_cons h1 h2 hs) fun v σ H Q ⟨F, S, d, e1, e2, R, p, h⟩ => by
    cases p with
    | nil => exact False.elim h
    | @cons v d vs ds pv pr =>
      refine ⟨v, vs, rfl, F, S, d, e1, e2, R, pv, ?_⟩
      have h' : outT F W (vis F S σ H) Q ((g d S).bind fun _ S1 => gs ds S1) := h
      cases hg : g d S with
      | bad => rw [hg] at h'; exact h'
      | exc c fs S1 => rw [hg] at h'; exact h'
      | ok u S1 =>
        rw [hg, Rs.bind_ok] at h'
        exact fun σ' H' R' s' => ⟨F, S1, ds, e1, e2, R', pr.mono s', outT_same s' h'⟩
theorem gg_tup {k n : Nat} (hc : X.calm = true) (h : PGs X es (tGts cm X.K W gs)) (hn : (assignEach es X.env).length = n := by rfl) (hst : (assignEach es X.env).findIdx? (·.1) = none := by rfl)
    (hl : ∀ ds S, ds.length ≠ n → gs ds S = .bad) : PG X (.Tuple es k pos) (tGt cm X.K W (gTp gs)) :=
  PG.weak (pg_tup hc h hn hst) fun v σ H Q ⟨F, S, d, e1, e2, R, p, h⟩ => by
    cases p with
    | @tup a vs ds hs hr =>
      have h' : outT F W (vis F S σ H) Q (gs ds S) := h
      refine ⟨a, vs, rfl, sqT_same hid_le hs, ?_, F, S, ds, e1, e2, R, hr, h'⟩
      by_cases hz : ds.length = n
      · rw [hr.length]; exact hz
      · rw [hl ds S hz] at h'; exact h'.elim
    | _ => exact False.elim h
/-- the list that a slot holds, its own or lent -/
theorem slot_mut {F : Fm} {S : Sg} {σ : St} {H : Hp} {i : Nat} (R : Rel F S σ H) (h : isMut i S = true) : ∃ l vs ds, σ[i]? = some (some (.ref l)) ∧ H l = some (.lst vs) ∧ RpAll F.cm F.K (vis F S σ H) vs ds ∧ (S[i]? = some (.loc ds) ∨ ∃ j, S[i]? = some (.own j (.lst ds)) ∧ F.A0[j]? = some l) := by
  unfold isMut at h
  cases hs : S[i]? with
  | none => rw [hs] at h; cases h
  | some s =>
    rw [hs] at h
    have hl : i < σ.length := by rw [← R.len]; exact (List.getElem?_eq_some_iff.mp hs).1
    have hv : σ[i]? = some σ[i] := List.getElem?_eq_getElem hl
    have q := R.sl i s _ hs hv
    generalize σ[i] = w at hv q
    cases s with
    | no => cases h
    | dat d => cases h
    | exn c fs => cases h
    | loc ds =>
      cases q with
      | loc eh r => exact ⟨_, _, ds, hv, eh, r, .inl rfl⟩
    | own j o =>
      cases o with
      | obj c fs => cases h
      | lst ds =>
        cases q with
        | own e0 ok =>
          cases ok with
          | lst eh r => exact ⟨_, _, ds, hv, eh, r, .inr ⟨j, rfl, e0⟩⟩
/-- and that list changed -/
theorem slot_set {F : Fm} {S : Sg} {σ : St} {H : Hp} {i : Nat} {l : Addr} {ds es : List Dat} {us : List V} (R : Rel F S σ H) (hl : σ[i]? = some (some (.ref l))) (r : RpAll F.cm F.K (vis F S σ H) us es) (h : S[i]? = some (.loc ds) ∨ ∃ j, S[i]? = some (.own j (.lst ds)) ∧ F.A0[j]? = some l) :
    ∃ s', (S[i]? = some (.loc ds) → s' = .loc es) ∧ (∀ j, S[i]? = some (.own j (.lst ds)) → s' = .own j (.lst es)) ∧ Rel F (S.set i s') σ (upd H l (.lst us)) ∧ Same (vis F S σ H) (vis F (S.set i s') σ (upd H l (.lst us))) := by
  rcases h with h | ⟨j, h, hj⟩
  · obtain ⟨a, b⟩ := R.setLoc h hl r
    exact ⟨_, fun _ => rfl, fun j z => (by rw [h] at z; cases z), a, b⟩
  · obtain ⟨a, b⟩ := R.setOwn (ho := .lst us) h hl hj (.lst upd_same r)
    exact ⟨_, fun z => (by rw [h] at z; cases z), fun k z => (by rw [h] at z; cases z; rfl), a, b⟩
theorem gg_ix {i : Nat} {o : Expr} (ho : PE X o (tVar i)) (hi : PE X e (tE cm X.K W ma)) (ha : ∀ v, assign (.Subscript o e pos) X.env v = (do
      let ov ← holding [v] (eval o X.env)
      let iv ← holding [v, ov] (eval e X.env)
      standAt pos
      holding [v, ov, iv] (setItem ov iv v)
      release [v, ov, iv] []) := by intro _; rfl) : PG X (.Subscript o e pos) (tGt cm X.K W (gIx i ma)) :=
  PG.weak (pg_sub ho hi set_list ha) fun v σ H Q ⟨F, S, d, e1, e2, R, p, h⟩ => by
    unfold gIx at h
    by_cases hz : isMut i S = true
    · rw [if_pos hz] at h
      obtain ⟨l, vs, ds, hl, _, _, _⟩ := slot_mut R hz
      refine ⟨_, hl, tG_bindT e1 e2 R h fun x H1 k S1 R1 s1 p1 h1 => ?_⟩
      cases p1 with
      | int k =>
        dsimp only at h1
        by_cases hz1 : isMut i S1 = true
        · rw [if_pos hz1] at h1
          obtain ⟨l', vs, ds, hl', eh, r, hs⟩ := slot_mut R1 hz1
          rw [hl] at hl'
          cases hl'
          unfold setAt at h1
          have core : ∀ j, ixN ds.length k = some j → ∃ s', (S1[i]? = some (.loc ds) → s' = .loc (ds.set j d)) ∧ (∀ n, S1[i]? = some (.own n (.lst ds)) → s' = .own n (.lst (ds.set j d))) ∧ Rel F (S1.set i s') σ (upd H1 l (.lst (vs.set j v))) ∧ Same (vis F S1 σ H1) (vis F (S1.set i s') σ (upd H1 l (.lst (vs.set j v)))) := fun j hj =>
            slot_set R1 hl (r.set (by rw [e1, e2]; exact p.mono s1) j) hs
          have fin : ∀ j, ixN ds.length k = some j → (∀ s', (S1[i]? = some (.loc ds) → s' = .loc (ds.set j d)) → (∀ n, S1[i]? = some (.own n (.lst ds)) → s' = .own n (.lst (ds.set j d))) → outT F W (vis F S1 σ H1) Q (.ok () (S1.set i s'))) →
              rSetL (.ref l) (.int k) v H1 fun H3 => Q σ H3 := fun j hj ho => by
            obtain ⟨s', h1, h2, h3, h4⟩ := core j hj
            exact ⟨l, vs, k, j, rfl, rfl, eh, by rw [r.length]; exact hj, ho s' h1 h2 σ _ h3 h4⟩
          rcases hs with hs | ⟨n, hs, _⟩
          · rw [hs] at h1
            dsimp only at h1
            cases hj : ixN ds.length k with
            | none => rw [hj] at h1; exact h1.elim
            | some j =>
              rw [hj] at h1
              exact fin j hj fun s' a _ => by rw [a hs]; exact h1
          · rw [hs] at h1
            dsimp only at h1
            cases hj : ixN ds.length k with
            | none => rw [hj] at h1; exact h1.elim
            | some j =>
              rw [hj] at h1
              exact fin j hj fun s' _ a => by rw [a n hs]; exact h1
        · rw [if_neg hz1] at h1; exact h1.elim
      | _ => exact False.elim h1
    · rw [if_neg hz] at h; exact h.elim
theorem gs_asg (he : PE X e (tE cm X.K W ma)) (hg : PG X tg (tGt cm X.K W g)) (hs : swapsWithSole [tg] e pos.line X.env = pure false := by rfl) (hw : swappedStores [tg] e X.env = pure none := by rfl)
    (h1 : (assignEach [tg] X.env).map (·.2) = [assign tg X.env] := by rfl) : PS X (.Assign [tg] e pos) (tS cm X.K W (mAsg ma g)) :=
  PS.weak (ps_asg he hg hs hw h1) fun D σ H ⟨F, S, e1, e2, R, h⟩ => tG_bindS e1 e2 R h fun x H1 da S1 R1 s1 p1 h1 => ⟨F, S1, da, e1, e2, R1, p1, by
    cases hg : g da S1 with
    | bad => rw [hg] at h1; exact h1
    | exc c fs S2 => rw [hg] at h1; exact h1
    | ok u S2 => rw [hg] at h1; exact h1⟩
theorem gs_set {i : Nat} {x : Str} {pos' : Pos} (hN : X.N.Nodup) (hi : X.N[i]? = some x) (hx : L2.Loc X.env.scope x) (he : PE X e (tE cm X.K W ma)) (hs : swapsWith e (some (.Name x pos')) pos.line X.env = pure false := by rfl)
    (hf : X.fn x = true ∨ X.env.scope.names.lookup x = some .local := by first | exact .inl rfl | exact .inr rfl | assumption) : PS X (.Assign [.Name x pos'] e pos) (tS cm X.K W (mAsg ma (gNm i))) :=
  PS.weak (ps_set hN hi hx he hs hf) fun D σ H ⟨F, S, e1, e2, R, h⟩ => tG_bindS e1 e2 R h fun x H1 da S1 R1 s1 p1 h1 => by
    obtain ⟨R', s'⟩ := R1.dat (i := i) (v := x) (d := da) (by rw [e1, e2]; exact p1)
    exact h1 _ H1 R' s'
/-- x = [..], the def's own list -/
theorem gs_setL {i : Nat} {x : Str} {pos' p2 : Pos} (hN : X.N.Nodup) (hi : X.N[i]? = some x) (hx : L2.Loc X.env.scope x) (ha : PA X es (tA cm X.K W mr)) (hs : swapsWith (.List es p2) (some (.Name x pos')) pos.line X.env = pure false := by rfl)
    (hf : X.fn x = true ∨ X.env.scope.names.lookup x = some .local := by first | exact .inl rfl | exact .inr rfl | assumption) : PS X (.Assign [.Name x pos'] (.List es p2) pos) (tS cm X.K W (mSetL i mr)) :=
  PS.weak (ps_set hN hi hx (pe_lst ha) hs hf) fun D σ H ⟨F, S, e1, e2, R, h⟩ => tG_bindS e1 e2 R h fun x H1 da S1 R1 s1 p1 h1 => by
    by_cases hl : da.length ≤ lim
    · rw [if_pos hl] at h1
      refine ⟨by rw [RpAll.length p1]; exact lim_line hl, fun p hp => ?_⟩
      obtain ⟨R', s'⟩ := R1.newLoc (i := i) (ds := da) hp (by rw [e1, e2]; exact p1)
      exact h1 _ _ R' s'
    · rw [if_neg hl] at h1; exact h1.elim
theorem gs_par {i j : Nat} {x y : Str} {px py pt : Pos} {kt k2 : Nat} {pt2 : Pos} (hc : X.calm = true) (hN : X.N.Nodup) (hi : X.N[i]? = some x) (hj : X.N[j]? = some y) (hij : i ≠ j)
    (hx : X.env.scope.names.lookup x = some .local) (hy : X.env.scope.names.lookup y = some .local) (ha : PA X [a, b] (tA cm X.K W mr))
    (hw : swappedStores [.Tuple [.Name x px, .Name y py] kt pt] (.Tuple [a, b] k2 pt2) X.env = pure (some [x, y])) (hs : swapsWithSole [.Tuple [.Name x px, .Name y py] kt pt] (.Tuple [a, b] k2 pt2) pos.line X.env = pure false := by rfl) :
    PS X (.Assign [.Tuple [.Name x px, .Name y py] kt pt] (.Tuple [a, b] k2 pt2) pos) (tS cm X.K W (mPar i j mr)) :=
  PS.weak (ps_par hc hN hi hj hij hx hy ha hw hs) fun D σ H ⟨F, S, e1, e2, R, h⟩ => tG_bindS e1 e2 R h fun x H1 da S1 R1 s1 p1 h1 => by
    cases p1 with
    | nil => exact False.elim h1
    | @cons v1 d1 _ _ q1 p2 =>
      cases p2 with
      | nil => exact False.elim h1
      | @cons v2 d2 _ _ q2 p3 =>
        cases p3 with
        | cons _ _ => exact False.elim h1
        | nil =>
          obtain ⟨R2, t2⟩ := R1.dat (i := i) (v := v1) (d := d1) (by rw [e1, e2]; exact q1)
          obtain ⟨R3, t3⟩ := R2.dat (i := j) (v := v2) (d := d2) (by rw [e1, e2]; exact q2.mono t2)
          exact ⟨v1, v2, rfl, h1 _ H1 R3 (t2.trans t3)⟩
theorem gs_app {i : Nat} {o : Expr} {apos cpos : Pos} (ho : PE X o (tVar i)) (he : PE X e (tE cm X.K W ma)) (hab : attributeBase o "append" X.env (eval o X.env) = eval o X.env := by rfl)
    (hst : starEach [e] X.env = (false, eval e X.env) :: starEach [] X.env := by rfl) (hln : (apos.endLine == cpos.line) = true := by rfl) (hs : swapsWith (.Call (.Attribute o "append" apos) [e] [] cpos) none pos.line X.env = pure false := by rfl)
    (h4 : (((backTo cpos (starEach [e] X.env)).all fun x => !x.1) && ((backToKw cpos (keywordEach [] X.env)).all fun x => x.1.isSome) && decide (([e].length + ([] : List Keyword).length + if ([] : List Keyword).isEmpty = true then 0 else 1) < 30)) = true := by rfl) :
    PS X (.Expr (.Call (.Attribute o "append" apos) [e] [] cpos) pos) (tS cm X.K W (mApp i ma)) :=
  PS.weak (ps_expr (pe_bm PySem.F.plainAttrs_list PySem.F.slot_list_append PySem.F.type_list_append mt_append ho (pa_cons he pa_nil hst) hab h4 hln hst (by rfl)) hs) fun D σ H ⟨F, S, e1, e2, R, h⟩ => by
    unfold mApp at h
    by_cases hz : isMut i S = true
    · rw [if_pos hz] at h
      obtain ⟨l, vs, ds, hl, eh, _, _⟩ := slot_mut R hz
      refine ⟨_, hl, .inl ⟨rfl, _, SqL.of eh⟩, tG_bindS e1 e2 R h fun x H1 d S1 R1 s1 p1 h1 => ?_⟩
      by_cases hz1 : isMut i S1 = true
      · rw [if_pos hz1] at h1
        obtain ⟨l', vs, ds, hl', eh, r, hs⟩ := slot_mut R1 hz1
        rw [hl] at hl'
        cases hl'
        obtain ⟨s', a1, a2, a3, a4⟩ := slot_set R1 hl (r.append (.cons (by rw [e1, e2]; exact p1) .nil)) hs
        have fin : ds.length < lim → outS F W (vis F S1 σ H1) D (.ok .nx (S1.set i s')) → rAppend (.ref l) [x] H1 fun _ H3 => D.nx σ H3 := fun hz ho => ⟨l, vs, x, rfl, rfl, eh, by rw [r.length]; exact lim_lt hz, ho σ _ a3 a4⟩
        unfold appAt at h1
        rcases hs with hs | ⟨n, hs, _⟩
        · rw [hs] at h1
          dsimp only at h1
          by_cases hz : ds.length < lim
          · rw [if_pos hz] at h1
            rw [a1 hs] at fin
            exact fin hz h1
          · rw [if_neg hz] at h1; exact h1.elim
        · rw [hs] at h1
          dsimp only at h1
          by_cases hz : ds.length < lim
          · rw [if_pos hz] at h1
            rw [a2 n hs] at fin
            exact fin hz h1
          · rw [if_neg hz] at h1; exact h1.elim
      · rw [if_neg hz1] at h1; exact h1.elim
    · rw [if_neg hz] at h; exact h.elim
/-! loops -/
theorem gs_for {mi : Sg → Rs (List Dat)} {iter : Expr} (hp : PassesOwn (model X.prog X.w) X.A X.env X.xe) (hc : X.calm = true) (hi : PI X tg iter (tG cm X.K W (rIt cm X.K) mi)) (hg : PG X tg (tGt cm X.K W g)) (hb : PSs X sts (tS cm X.K W s1))
    (hs : ∀ x, foldedSetIterable iter X.env x = pure x := by intro _; rfl) : PS X (.For tg iter sts [] pos) (tS cm X.K W (mFor mi g s1)) :=
  PS.weak (ps_for hp hc hi hg hb hs) fun D σ H ⟨F, S, e1, e2, R, h⟩ => tG_bindS e1 e2 R h fun J H1 ds S1 R1 s1' p1 h1 => by
    obtain ⟨j1, j2, j3⟩ := p1
    refine ⟨fun i m σ' H' => i + m = ds.length ∧ ∃ S', Rel F S' σ' H' ∧ Same (vis F S1 σ H1) (vis F S' σ' H') ∧ outS F W (vis F S' σ' H') D (loopS g s1 (ds.drop i) S'), ⟨ds.length, by omega, S1, R1, Same.refl _, h1⟩, ?_⟩
    rintro i m σ' H' ⟨em, S', R', s', h'⟩
    have sH : Same (vis F S1 σ H1) H' := s'.trans hid_le
    by_cases hi : i < ds.length
    · refine .inr ⟨j1 i H' sH hi, fun σ2 H2 => ∃ S2, Rel F S2 σ2 H2 ∧ Same (vis F S1 σ H1) (vis F S2 σ2 H2) ∧ outS F W (vis F S2 σ2 H2) D (loopS g s1 (ds.drop (i + 1)) S2), fun σ2 H2 ⟨S2, b1, b2, b3⟩ => ⟨m - 1, by omega, by omega, S2, b1, b2, b3⟩, fun x H2 hy => ?_⟩
      obtain ⟨sy, d, hd, pd⟩ := j3 i H' x H2 _ s' R'.live hy hi
      have R2 := R'.grow sy
      have s2 : Same (vis F S' σ' H') (vis F S' σ' H2) := vis_grow sy
      have e3 : ds.drop i = d :: ds.drop (i + 1) := by
        rw [List.drop_eq_getElem_cons hi]
        rw [List.getElem?_eq_getElem hi] at hd
        rw [Option.some.inj hd]
      rw [e3] at h'
      refine ⟨F, S', d, e1, e2, R2, pd, ?_⟩
      have h2 : outS F W (vis F S' σ' H2) D ((g d S').bind fun _ S1 => match s1 S1 with
        | .ok .nx S2 => loopS g s1 (ds.drop (i + 1)) S2
        | .ok .ct S2 => loopS g s1 (ds.drop (i + 1)) S2
        | .ok .bk S2 => .ok .nx S2
        | r => r) := outS_same s2 h'
      cases hgd : g d S' with
      | bad => rw [hgd] at h2; exact h2
      | exc c fs S3 => rw [hgd] at h2; exact h2
      | ok u S3 =>
        rw [hgd, Rs.bind_ok] at h2
        intro σ3 H3 R3 s3
        refine ⟨F, S3, e1, e2, R3, ?_⟩
        have h3 := outS_same s3 h2
        have st : Same (vis F S1 σ H1) (vis F S3 σ3 H3) := (s'.trans s2).trans s3
        cases hb : s1 S3 with
        | bad => rw [hb] at h3; exact h3
        | exc c fs S4 => rw [hb] at h3; exact h3
        | ok f S4 =>
          rw [hb] at h3
          cases f with
          | nx => exact fun σ4 H4 R4 s4 => ⟨S4, R4, st.trans s4, outS_same s4 h3⟩
          | ct => exact fun σ4 H4 R4 s4 => ⟨S4, R4, st.trans s4, outS_same s4 h3⟩
          | bk => exact h3
          | rt d => exact h3
    · have ei : i = ds.length := by omega
      refine .inl ⟨by rw [ei]; exact j2 H' sH, ?_⟩
      rw [List.drop_of_length_le (by omega)] at h'
      exact h' σ' H' R' (Same.refl _)
theorem whileN_more {c : MT} {b : MS} : ∀ {n k : Nat} {S : Sg}, n ≤ k → whileN c b n S ≠ .bad → whileN c b k S = whileN c b n S
  | 0, k, S, _, h => absurd rfl h
  | n + 1, 0, S, h, _ => by omega
  | n + 1, k + 1, S, hk, h => by
    cases hc : c S with
    | bad => simp only [whileN, hc, Rs.bind_bad]
    | exc _ _ _ => simp only [whileN, hc, Rs.bind_exc]
    | ok t S1 =>
      cases t with
      | false => simp only [whileN, hc, Rs.bind_ok]; rfl
      | true =>
        simp only [whileN, hc, Rs.bind_ok, if_pos] at h ⊢
        cases hb : b S1 with
        | bad => rfl
        | exc _ _ _ => rfl
        | ok f S2 =>
          rw [hb] at h
          cases f with
          | nx => exact whileN_more (by omega) h
          | ct => exact whileN_more (by omega) h
          | bk => rfl
          | rt d => rfl
open Classical in
theorem mWhile_of {c : MT} {b : MS} {n : Nat} {S : Sg} (h : whileN c b n S ≠ .bad) : mWhile c b S = whileN c b n S := by
  have hx : ∃ n, whileN c b n S ≠ .bad := ⟨n, h⟩
  unfold mWhile
  rw [dif_pos hx]
  have hy := choose_spec hx
  rcases Nat.le_total (choose hx) n with z | z
  · exact (whileN_more z hy).symm
  · exact whileN_more z h
open Classical in
theorem mWhile_is {c : MT} {b : MS} {S : Sg} (h : mWhile c b S ≠ .bad) : ∃ n, mWhile c b S = whileN c b n S := by
  unfold mWhile at h ⊢
  by_cases hx : ∃ n, whileN c b n S ≠ .bad
  · rw [dif_pos hx]; exact ⟨_, rfl⟩
  · rw [dif_neg hx] at h; exact absurd rfl h
theorem gs_while (hp : PassesOwn (model X.prog X.w) X.A X.env X.xe) (hc : PT X c (tT cm X.K W ca)) (hb : PSs X sts (tS cm X.K W s1)) : PS X (.While c sts [] pos) (tS cm X.K W (mWhile ca s1)) :=
  PS.weak (ps_while hp hc hb) fun D σ H ⟨F, S, e1, e2, R, h⟩ => by
    have nb : mWhile ca s1 S ≠ .bad := fun z => by rw [z] at h; exact h
    obtain ⟨n, hn⟩ := mWhile_is nb
    rw [hn] at h
    refine ⟨fun m σ' H' => ∃ S', Rel F S' σ' H' ∧ outS F W (vis F S' σ' H') D (whileN ca s1 m S'), ⟨n, S, R, h⟩, ?_⟩
    rintro m σ' H' ⟨S', R', h'⟩
    cases m with
    | zero => exact False.elim h'
    | succ m =>
      unfold whileN at h'
      refine tG_bindS e1 e2 R' h' fun x H1 t S1 R1 t1 p1 h1 => ?_
      cases p1
      cases x with
      | false => exact h1 σ' H1 R1 (Same.refl _)
      | true =>
        rw [if_pos rfl] at h1 ⊢
        refine ⟨fun σ2 H2 => ∃ S2, Rel F S2 σ2 H2 ∧ outS F W (vis F S2 σ2 H2) D (whileN ca s1 m S2), fun σ2 H2 q => ⟨m, Nat.lt_succ_self m, q⟩, F, S1, e1, e2, R1, ?_⟩
        cases hb : s1 S1 with
        | bad => rw [hb] at h1; exact h1
        | exc c fs S4 => rw [hb] at h1; exact h1
        | ok f S4 =>
          rw [hb] at h1
          cases f with
          | nx => exact fun σ4 H4 R4 s4 => ⟨S4, R4, outS_same s4 h1⟩
          | ct => exact fun σ4 H4 R4 s4 => ⟨S4, R4, outS_same s4 h1⟩
          | bk => exact h1
          | rt d => exact h1
end
end Mir

/-! MirG: what is walked; comprehensions -/
namespace Mir
open PySem L2

/-! ### iterables -/
def itemsD : Dat → Option (List Dat)
  | .lst ds => some ds
  | .ro ds => some ds
  | .tup ds => some ds
  | _ => none
def range1 : List Dat → Option (List Dat)
  | [.int j] => if -(2 ^ 62) ≤ j ∧ j < 2 ^ 62 then some ((List.range j.toNat).map fun (k : Nat) => Dat.int (0 + (k : Int))) else none
  | _ => none
def range2 : List Dat → Option (List Dat)
  | [.int i, .int j] => if -(2 ^ 62) ≤ i ∧ i < 2 ^ 62 ∧ -(2 ^ 62) ≤ j ∧ j < 2 ^ 62 then some ((List.range (j - i).toNat).map fun (k : Nat) => Dat.int (i + (k : Int))) else none
  | _ => none
def enumFrom (n : Nat) : List Dat → List Dat
  | [] => []
  | d :: ds => .tup [.int (n : Int), d] :: enumFrom (n + 1) ds
def enumD : List Dat → Option (List Dat)
  | [.lst ds] => some (enumFrom 0 ds)
  | _ => none
def zipD : List Dat → Option (List Dat)
  | [.lst xs, .lst ys] => some (List.zipWith (fun x y => Dat.tup [x, y]) xs ys)
  | _ => none
def mItems (m : ME) : Sg → Rs (List Dat) := fun S => (m S).bind fun d S1 => Rs.of (itemsD d) S1
def mIts (f : List Dat → Option (List Dat)) (m : MA) : Sg → Rs (List Dat) := fun S => (m S).bind fun d S1 => Rs.of (f d) S1

section
variable {X : Cx} {cm : CM} {W : WX} {a b e tg : Expr} {es : List Expr} {ma : ME} {mr : MA} {p pos : Pos}
theorem out_of' {F : Fm} {S : Sg} {σ : St} {H : Hp} {β α : Type} {R : Rep β α} {Q : β → Hp → Prop} {o : Option α} (h : out F W σ (vis F S σ H) R Q (Rs.of o S)) : ∃ d, o = some d ∧ out F W σ (vis F S σ H) R Q (.ok d S) := by
  cases o with
  | none => exact False.elim h
  | some d => exact ⟨d, rfl, h⟩
theorem it_list {σ : St} {G : Hp} {a : Addr} {vs : List V} {ds : List Dat} {K : PySem.W.Frag} (h : SqL K G a vs) (r : RpAll cm K G vs ds) : rIt cm K σ G (Itl K a) ds := by
  refine ⟨fun i H s hi => ?_, fun H s => ⟨vs, s.seq h, by rw [r.length]; exact Nat.le_refl _⟩, fun i H x H' M s lv y hi => ?_⟩
  · have hi' : i < vs.length := by rw [r.length]; exact hi
    exact ⟨vs, vs[i], s.seq h, List.getElem?_eq_getElem hi'⟩
  · obtain ⟨rfl, y⟩ := y
    obtain ⟨d, e1, e2⟩ := r.get' (y vs ((s.trans hid_le).seq h))
    exact ⟨Same.refl _, d, e1, e2.mono s⟩
theorem it_tup {σ : St} {G : Hp} {a : Addr} {vs : List V} {ds : List Dat} {K : PySem.W.Frag} (h : SqT K G a vs) (r : RpAll cm K G vs ds) : rIt cm K σ G (Itt K a) ds := by
  refine ⟨fun i H s hi => ?_, fun H s => ⟨vs, sqT_same s h, by rw [r.length]; exact Nat.le_refl _⟩, fun i H x H' M s lv y hi => ?_⟩
  · have hi' : i < vs.length := by rw [r.length]; exact hi
    exact ⟨vs, vs[i], sqT_same s h, List.getElem?_eq_getElem hi'⟩
  · obtain ⟨rfl, y⟩ := y
    obtain ⟨d, e1, e2⟩ := r.get' (y vs (sqT_same (s.trans hid_le) h))
    exact ⟨Same.refl _, d, e1, e2.mono s⟩
theorem it_range {σ : St} {G : Hp} {K : PySem.W.Frag} (lo : Int) (n : Nat) : rIt cm K σ G (Itr lo n) ((List.range n).map fun (k : Nat) => Dat.int (lo + (k : Int))) := by
  have el : ((List.range n).map fun (k : Nat) => Dat.int (lo + (k : Int))).length = n := by rw [List.length_map, List.length_range]
  refine ⟨fun i H s hi => by rw [el] at hi; exact hi, fun H s => by rw [el]; exact Nat.le_refl _, fun i H x H' M s lv y hi => ?_⟩
  obtain ⟨rfl, rfl⟩ := y
  rw [el] at hi
  exact ⟨Same.refl _, .int (lo + (i : Int)), by rw [List.getElem?_map, List.getElem?_range hi]; rfl, .int _⟩
theorem tG_bind' {β α β' α' : Type} {cm : CM} {K : PySem.W.Frag} {W : WX} {R : Rep β α} {R' : Rep β' α'} {m : Sg → Rs α} {k : α → Sg → Rs α'} {σ : St} {H : Hp} {Q : β' → Hp → Prop} {Q' : β → Hp → Prop} {F : Fm} {S : Sg}
    (e1 : F.cm = cm) (e2 : F.K = K) (r : Rel F S σ H) (h : out F W σ (vis F S σ H) R' Q ((m S).bind k))
    (q : ∀ x H1 a S1, m S = .ok a S1 → Rel F S1 σ H1 → Same (vis F S σ H) (vis F S1 σ H1) → R σ (vis F S1 σ H1) x a → out F W σ (vis F S1 σ H1) R' Q (k a S1) → Q' x H1) : tG cm K W R m σ H Q' := by
  refine ⟨F, S, e1, e2, r, ?_⟩
  cases hm : m S with
  | ok a S1 => rw [hm] at h; exact fun v H1 a1 a2 a3 => q v H1 a S1 hm a1 a2 a3 (out_same a2 h)
  | exc c fs S1 => rw [hm] at h; exact h
  | bad => rw [hm] at h; exact h
theorem gi_seq (h : PE X e (tE cm X.K W ma)) : PI X tg e (tG cm X.K W (rIt cm X.K) (mItems ma)) := by
  refine ⟨fun pins s σ H R I ⟨F, S, e1, e2, Rl, ho⟩ => ?_⟩
  by_cases ht : ∃ ds S1, ma S = .ok (.tup ds) S1
  · obtain ⟨ds, S1, ht⟩ := ht
    refine (pi_tup h).run pins s σ H R I (tG_bind' e1 e2 Rl ho fun x H1 da S2 hm R1 s1 p1 h1 => ?_)
    rw [ht] at hm
    cases hm
    cases p1 with
    | tup hs hr => exact ⟨_, rfl, ⟨_, sqT_same hid_le hs⟩, h1 _ H1 R1 (Same.refl _) (it_tup hs hr)⟩
  · refine (pi_list h).run pins s σ H R I (tG_bind' e1 e2 Rl ho fun x H1 da S2 hm R1 s1 p1 h1 => ?_)
    obtain ⟨d, hd, h1⟩ := out_of' h1
    cases p1 with
    | lst hs hr => cases hd; exact ⟨_, rfl, ⟨_, SqL.of (hid_le _ _ hs)⟩, h1 _ H1 R1 (Same.refl _) (it_list (SqL.of hs) hr)⟩
    | ro hs hr => cases hd; exact ⟨_, rfl, ⟨_, Same.seq hid_le hs⟩, h1 _ H1 R1 (Same.refl _) (it_list hs hr)⟩
    | tup hs hr => exact absurd ⟨_, _, hm⟩ ht
    | _ => cases hd
theorem gi_range1 (hg : Gl X "range") (hm : X.mg "range" = none) (ha : PA X [a] (tA cm X.K W mr)) (hs : starEach [a] X.env = [(false, eval a X.env)] := by rfl) : PI X tg (.Call (.Name "range" p) [a] [] pos) (tG cm X.K W (rIt cm X.K) (mIts range1 mr)) :=
  PI.weak (pi_range1 hg hm ha hs) fun σ H Q ⟨F, S, e1, e2, R, h⟩ => tG_bind' e1 e2 R h fun x H1 da S2 hm R1 s1 p1 h1 => by
    obtain ⟨d, hd, h1⟩ := out_of' h1
    cases p1 with
    | nil => cases hd
    | cons q1 q2 =>
      cases q2 with
      | cons _ _ => cases q1 <;> cases hd
      | nil =>
        cases q1 with
        | int j =>
          unfold range1 at hd
          dsimp only at hd
          by_cases hz : -(2 ^ 62) ≤ j ∧ j < 2 ^ 62
          · rw [if_pos hz] at hd; cases hd
            exact ⟨j, rfl, hz.1, hz.2, h1 _ H1 R1 (Same.refl _) (it_range 0 j.toNat)⟩
          · rw [if_neg hz] at hd; cases hd
        | _ => cases hd
theorem gi_range2 (hg : Gl X "range") (hm : X.mg "range" = none) (ha : PA X [a, b] (tA cm X.K W mr)) (hs : starEach [a, b] X.env = [(false, eval a X.env), (false, eval b X.env)] := by rfl) (hs2 : starEach [b] X.env = [(false, eval b X.env)] := by rfl) :
    PI X tg (.Call (.Name "range" p) [a, b] [] pos) (tG cm X.K W (rIt cm X.K) (mIts range2 mr)) :=
  PI.weak (pi_range2 hg hm ha hs hs2) fun σ H Q ⟨F, S, e1, e2, R, h⟩ => tG_bind' e1 e2 R h fun x H1 da S2 hm R1 s1 p1 h1 => by
    obtain ⟨d, hd, h1⟩ := out_of' h1
    cases p1 with
    | nil => cases hd
    | cons q1 q2 =>
      cases q2 with
      | nil => cases q1 <;> cases hd
      | cons q2 q3 =>
        cases q3 with
        | cons _ _ => cases q1 <;> cases q2 <;> cases hd
        | nil =>
          cases q1 with
          | int i =>
            cases q2 with
            | int j =>
              unfold range2 at hd
              dsimp only at hd
              by_cases hz : -(2 ^ 62) ≤ i ∧ i < 2 ^ 62 ∧ -(2 ^ 62) ≤ j ∧ j < 2 ^ 62
              · rw [if_pos hz] at hd; cases hd
                exact ⟨i, j, rfl, hz, h1 _ H1 R1 (Same.refl _) (it_range i (j - i).toNat)⟩
              · rw [if_neg hz] at hd; cases hd
            | _ => cases hd
          | _ => cases hd
theorem enum_get : ∀ (ds : List Dat) (n i : Nat) (d : Dat), ds[i]? = some d → (enumFrom n ds)[i]? = some (.tup [.int ((n + i : Nat) : Int), d])
  | [], n, i, d, h => by simp at h
  | x :: ds, n, 0, d, h => by simp at h; subst h; rfl
  | x :: ds, n, i + 1, d, h => by
    have q := enum_get ds (n + 1) i d (by simpa using h)
    show (enumFrom (n + 1) ds)[i]? = _
    rw [q, show n + 1 + i = n + (i + 1) by omega]
theorem enum_len : ∀ (ds : List Dat) (n : Nat), (enumFrom n ds).length = ds.length
  | [], n => rfl
  | x :: ds, n => congrArg Nat.succ (enum_len ds (n + 1))
theorem gi_enum {elts : List Expr} {kk : Nat} {tpos : Pos} (hg : Gl X "enumerate") (hm : X.mg "enumerate" = none) (ha : PA X [e] (tA cm X.K W mr)) (hs : starEach [e] X.env = [(false, eval e X.env)] := by rfl) :
    PI X (.Tuple elts kk tpos) (.Call (.Name "enumerate" p) [e] [] pos) (tG cm X.K W (rIt cm X.K) (mIts enumD mr)) :=
  PI.weak (pi_enum hg hm ha hs) fun σ H Q ⟨F, S, e1, e2, R, h⟩ => tG_bind' e1 e2 R h fun x H1 da S2 hm R1 s1 p1 h1 => by
    obtain ⟨d, hd, h1⟩ := out_of' h1
    cases p1 with
    | nil => cases hd
    | cons q1 q2 =>
      cases q2 with
      | cons _ _ => cases q1 <;> cases hd
      | nil =>
        cases q1 with
        | @lst a vs ds hs hr =>
          cases hd
          refine ⟨_, _, rfl, SqL.of (hid_le _ _ hs), h1 _ H1 R1 (Same.refl _) ⟨fun i H' s hi => ?_, fun H' s => ⟨vs, s.seq (SqL.of hs), by rw [hr.length, enum_len]; exact Nat.le_refl _⟩, fun i H' x H2 M s lv y hi => ?_⟩⟩
          · have hi' : i < vs.length := by rw [hr.length]; rw [enum_len] at hi; exact hi
            exact ⟨vs, vs[i], s.seq (SqL.of hs), List.getElem?_eq_getElem hi'⟩
          · obtain ⟨T, z, rfl, nT, rfl, y⟩ := y
            obtain ⟨d, k1, k2⟩ := hr.get' (y vs ((s.trans hid_le).seq (SqL.of hs)))
            refine ⟨same_new nT, _, enum_get ds 0 i d k1, .tup (SqT.of (hid_new lv nT)) (.cons ?_ (.cons ((k2.mono s).mono (hid_grow (same_new nT))) .nil))⟩
            rw [Nat.zero_add]
            exact .int _
        | _ => cases hd
theorem gi_zip {e2' : Expr} {elts : List Expr} {kk : Nat} {tpos : Pos} (hg : Gl X "zip") (hm : X.mg "zip" = none) (ha : PA X [e, e2'] (tA cm X.K W mr)) (hs : starEach [e, e2'] X.env = (false, eval e X.env) :: starEach [e2'] X.env := by rfl) (hpl : (backTo pos (starEach [e2'] X.env)).any (·.1) = false := by rfl) :
    PI X (.Tuple elts kk tpos) (.Call (.Name "zip" p) [e, e2'] [] pos) (tG cm X.K W (rIt cm X.K) (mIts zipD mr)) :=
  PI.weak (pi_zip hg hm ha hs hpl) fun σ H Q ⟨F, S, e1, e2, R, h⟩ => tG_bind' e1 e2 R h fun x H1 da S2 hm R1 s1 p1 h1 => by
    obtain ⟨d, hd, h1⟩ := out_of' h1
    cases p1 with
    | nil => cases hd
    | cons q1 q2 =>
      cases q2 with
      | nil => cases q1 <;> cases hd
      | cons q2 q3 =>
        cases q3 with
        | cons _ _ => cases q1 <;> cases q2 <;> cases hd
        | nil =>
          cases q1 with
          | @lst a vs ds hs hr =>
            cases q2 with
            | @lst b us cs ks kr =>
              cases hd
              have el : (List.zipWith (fun x y => Dat.tup [x, y]) ds cs).length = min vs.length us.length := by rw [List.length_zipWith, hr.length, kr.length]
              refine ⟨_, _, _, _, rfl, SqL.of (hid_le _ _ hs), SqL.of (hid_le _ _ ks), h1 _ H1 R1 (Same.refl _) ⟨fun i H' s hi => ?_, fun H' s => ⟨vs, us, s.seq (SqL.of hs), s.seq (SqL.of ks), by rw [el]; omega⟩, fun i H' x H2 M s lv y hi => ?_⟩⟩
              · rw [el] at hi
                exact ⟨vs, us, vs[i]'(by omega), us[i]'(by omega), s.seq (SqL.of hs), s.seq (SqL.of ks), List.getElem?_eq_getElem _, List.getElem?_eq_getElem _⟩
              · obtain ⟨T, z, z', rfl, nT, rfl, y, y'⟩ := y
                obtain ⟨d, k1, k2⟩ := hr.get' (y vs ((s.trans hid_le).seq (SqL.of hs)))
                obtain ⟨d', k1', k2'⟩ := kr.get' (y' us ((s.trans hid_le).seq (SqL.of ks)))
                refine ⟨same_new nT, .tup [d, d'], by rw [List.getElem?_zipWith, k1, k1'], .tup (SqT.of (hid_new lv nT)) (.cons ((k2.mono s).mono (hid_grow (same_new nT))) (.cons ((k2'.mono s).mono (hid_grow (same_new nT))) .nil))⟩
            | _ => cases hd
          | _ => cases hd
end

/-! ### comprehensions -/
def wipeS (S : Sg) : List Nat → Sg
  | [] => S
  | v :: vs => (wipeS S vs).set v .no
def Rs.calm {α : Type} : Rs α → Rs α
  | .exc _ _ _ => .bad
  | r => r
@[simp] theorem Rs.calm_ok {α : Type} (a : α) (S : Sg) : (Rs.ok a S).calm = .ok a S := rfl
@[simp] theorem Rs.calm_bad {α : Type} : (Rs.bad : Rs α).calm = .bad := rfl
def loopC (g : Dat → Sg → Option Sg) (c : MT) (e : ME) (vs : List Nat) : List Dat → List Dat → Sg → Rs (List Dat)
  | [], acc, S => .ok acc S
  | d :: ds, acc, S => (Rs.of (g d S) S).bind fun S1 _ => (c S1).calm.bind fun t S2 => if t = true then (e S2).calm.bind fun y S3 => if acc.length < lim then loopC g c e vs ds (acc ++ [y]) (wipeS S3 vs) else .bad else loopC g c e vs ds acc (wipeS S2 vs)
def mLc (mi : Sg → Rs (List Dat)) (g : Dat → Sg → Option Sg) (c : MT) (e : ME) (vs : List Nat) : ME := fun S => (mi S).bind fun ds S1 => (loopC g c e vs ds [] (wipeS S1 vs)).bind fun acc S2 => .ok (.lst acc) S2
def cYes : MT := fun S => .ok true S
def cgN (j : Nat) : Dat → Sg → Option Sg := fun d S => some (S.set j (.dat d))
def cgT2 (i j : Nat) : Dat → Sg → Option Sg := fun d S => match d with
  | .tup [a, b] => some ((S.set i (.dat a)).set j (.dat b))
  | _ => none
def cgT3 (i j k : Nat) : Dat → Sg → Option Sg := fun d S => match d with
  | .tup [a, b, c] => some (((S.set i (.dat a)).set j (.dat b)).set k (.dat c))
  | _ => none
abbrev W0 : WX := fun _ _ _ _ => False

section
variable {F : Fm} {S : Sg} {σ : St} {H : Hp}
theorem Rel.wipe (R : Rel F S σ H) : ∀ vs : List Nat, Rel F (wipeS S vs) (L2.wipe σ vs) H ∧ Same (vis F S σ H) (vis F (wipeS S vs) (L2.wipe σ vs) H)
  | [] => ⟨R, Same.refl _⟩
  | v :: vs => by
    obtain ⟨a, b⟩ := Rel.wipe R vs
    obtain ⟨c, d⟩ := a.no (i := v) (v := none)
    exact ⟨c, b.trans d⟩
theorem wipeS_no : ∀ (vs : List Nat) {v : Nat} {s : Slot}, v ∈ vs → (wipeS S vs)[v]? = some s → s = .no
  | [], v, s, h, _ => by cases h
  | w :: vs, v, s, h, e => by
    unfold wipeS at e
    rcases get_set_cases e with ⟨_, z⟩ | ⟨ne, z⟩
    · exact z
    · rcases List.mem_cons.mp h with h | h
      · exact absurd h ne
      · exact wipeS_no vs h z
theorem wipe_get : ∀ (vs : List Nat) {σ : St} {v : Nat}, v ∉ vs → (L2.wipe σ vs)[v]? = σ[v]?
  | [], σ, v, _ => rfl
  | w :: vs, σ, v, h => by
    unfold L2.wipe
    rw [List.getElem?_set_ne (fun z => h (by rw [z]; exact List.mem_cons_self ..)), wipe_get vs fun z => h (List.mem_cons_of_mem _ z)]
theorem wipe_set : ∀ (vs : List Nat) {σ : St} {v : Nat} {x : Option V}, v ∈ vs → L2.wipe (σ.set v x) vs = L2.wipe σ vs
  | [], σ, v, x, h => by cases h
  | w :: vs, σ, v, x, h => by
    unfold L2.wipe
    by_cases hv : v ∈ vs
    · rw [wipe_set vs hv]
    · have e : v = w := (List.mem_cons.mp h).resolve_right hv
      subst e
      refine List.ext_getElem? fun k => ?_
      by_cases ek : k = v
      · subst ek
        rw [List.getElem?_set, List.getElem?_set, if_pos rfl, if_pos rfl, L2.wipe_length, L2.wipe_length, List.length_set]
      · rw [List.getElem?_set_ne (fun z => ek z.symm), List.getElem?_set_ne (fun z => ek z.symm)]
        by_cases hk : k ∈ vs
        · have h1 : ∀ (us : List Nat) (τ : St), k ∈ us → (L2.wipe τ us)[k]? = if k < τ.length then some none else none := by
            intro us
            induction us with
            | nil => intro τ h; cases h
            | cons u us ih =>
              intro τ h
              unfold L2.wipe
              by_cases eu : u = k
              · subst eu
                rw [List.getElem?_set, if_pos rfl, L2.wipe_length]
              · rw [List.getElem?_set_ne eu]
                exact ih τ ((List.mem_cons.mp h).resolve_left fun z => eu z.symm)
          rw [h1 vs _ hk, h1 vs _ hk, List.length_set]
        · rw [wipe_get vs hk, wipe_get vs hk, List.getElem?_set_ne (fun z => ek z.symm)]
/-- what the wiped slots hold does not matter -/
theorem Rel.other {τ : St} (R : Rel F S τ H) (hl : σ.length = τ.length) (h : ∀ (v : Nat) (s : Slot), S[v]? = some s → σ[v]? = τ[v]? ∨ s = Slot.no) : Rel F S σ H ∧ vis F S σ H = vis F S τ H := by
  have key : ∀ (S : Sg) (σ τ : St), σ.length = τ.length → (∀ (v : Nat) (s : Slot), S[v]? = some s → σ[v]? = τ[v]? ∨ s = Slot.no) → locs S σ = locs S τ := by
    intro S
    induction S with
    | nil => intro σ τ _ _; cases σ <;> cases τ <;> rfl
    | cons s S ih =>
      intro σ τ hl h
      cases σ with
      | nil =>
        cases τ with
        | nil => rfl
        | cons _ _ => cases hl
      | cons x σ =>
        cases τ with
        | nil => cases hl
        | cons y τ =>
          have i2 := ih σ τ (by simpa using hl) fun v s e => by
            have := h (v + 1) s (by simpa using e)
            simpa using this
          rcases h 0 s rfl with e | e
          · have exy : x = y := by simpa using e
            subst exy
            cases s with
            | loc ds =>
              cases x with
              | none => exact i2
              | some x =>
                cases x with
                | ref l => simp [locs, i2]
                | _ => exact i2
            | _ => simpa [locs] using i2
          · subst e
            simpa [locs] using i2
  have eL := key S σ τ hl h
  have eV : vis F S σ H = vis F S τ H := by unfold vis; rw [eL]
  refine ⟨⟨by rw [R.len, hl], fun i s v a b => ?_, by rw [eL]; exact R.nd, fun l x => R.new l (by rw [← eL]; exact x), R.ond, R.and_, R.ain, R.liv, fun l x => R.lom l (by rw [← eL]; exact x), R.tmp, R.keep⟩, eV⟩
  rw [eV]
  rcases h i s a with e | e
  · exact R.sl i s v a (by rw [← e]; exact b)
  · subst e; exact .no
/-- a target that stores to the block's own names alone -/
def TgOk (cm : CM) (K : PySem.W.Frag) (t : TG) (vs : List Nat) (g : Dat → Sg → Option Sg) : Prop :=
  ∀ (F : Fm) (S : Sg) (σ : St) (H : Hp) (x : V) (d : Dat) (S' : Sg) (Q : St → Hp → Prop), F.cm = cm → F.K = K → Rel F S σ H → Rp cm K (vis F S σ H) x d → g d S = some S' →
    (∀ σ2, L2.wipe σ2 vs = L2.wipe σ vs → Rel F S' σ2 H → Same (vis F S σ H) (vis F S' σ2 H) → Q σ2 H) → t x σ H Q
theorem tg_name {cm : CM} {K : PySem.W.Frag} (j : Nat) : TgOk cm K (L2.gName j) [j] (cgN j) := fun F S σ H x d S' Q e1 e2 R p e k => by
  cases e
  obtain ⟨a, b⟩ := R.dat (i := j) (v := x) (d := d) (by rw [e1, e2]; exact p)
  exact k _ (wipe_set _ (List.mem_cons_self ..)) a b
theorem tg_two {cm : CM} {K : PySem.W.Frag} (i j : Nat) : TgOk cm K (gTup K 2 (gCons (L2.gName i) (gCons (L2.gName j) gNil))) [i, j] (cgT2 i j) := fun F S σ H x d S' Q e1 e2 R p e k => by
  cases p with
  | tup hs hr =>
    cases hr with
    | nil => cases e
    | cons p1 hr =>
      cases hr with
      | nil => cases e
      | cons p2 hr =>
        cases hr with
        | cons _ _ => cases e
        | nil =>
          cases e
          obtain ⟨a, b⟩ := R.dat (i := i) (by rw [e1, e2]; exact p1)
          obtain ⟨a2, b2⟩ := a.dat (i := j) (by rw [e1, e2]; exact p2.mono b)
          refine ⟨_, _, rfl, sqT_same hid_le hs, rfl, _, _, rfl, _, _, rfl, rfl, k _ ?_ a2 (b.trans b2)⟩
          rw [wipe_set _ (List.mem_cons_of_mem _ (List.mem_cons_self ..)), wipe_set _ (List.mem_cons_self ..)]
  | _ => cases e
theorem tg_three {cm : CM} {K : PySem.W.Frag} (i j l : Nat) : TgOk cm K (gTup K 3 (gCons (L2.gName i) (gCons (L2.gName j) (gCons (L2.gName l) gNil)))) [i, j, l] (cgT3 i j l) := fun F S σ H x d S' Q e1 e2 R p e k => by
  cases p with
  | tup hs hr =>
    cases hr with
    | nil => cases e
    | cons p1 hr =>
      cases hr with
      | nil => cases e
      | cons p2 hr =>
        cases hr with
        | nil => cases e
        | cons p3 hr =>
          cases hr with
          | cons _ _ => cases e
          | nil =>
            cases e
            obtain ⟨a, b⟩ := R.dat (i := i) (by rw [e1, e2]; exact p1)
            obtain ⟨a2, b2⟩ := a.dat (i := j) (by rw [e1, e2]; exact p2.mono b)
            obtain ⟨a3, b3⟩ := a2.dat (i := l) (by rw [e1, e2]; exact (p3.mono b).mono b2)
            refine ⟨_, _, rfl, sqT_same hid_le hs, rfl, _, _, rfl, _, _, rfl, _, _, rfl, rfl, k _ ?_ a3 ((b.trans b2).trans b3)⟩
            rw [wipe_set _ (List.mem_cons_of_mem _ (List.mem_cons_of_mem _ (List.mem_cons_self ..))), wipe_set _ (List.mem_cons_of_mem _ (List.mem_cons_self ..)), wipe_set _ (List.mem_cons_self ..)]
  | _ => cases e
end

theorem wipe_idem (vs : List Nat) : ∀ (us : List Nat) (τ : St), (∀ v, v ∈ us → v ∈ vs) → L2.wipe (L2.wipe τ us) vs = L2.wipe τ vs
  | [], τ, _ => rfl
  | u :: us, τ, hu => by
    show L2.wipe ((L2.wipe τ us).set u none) vs = _
    rw [wipe_set vs (hu u (List.mem_cons_self ..)), wipe_idem vs us τ fun v hv => hu v (List.mem_cons_of_mem _ hv)]
/-- the reading of a comprehension, from its mirror -/
theorem lc_read {cm : CM} {K : PySem.W.Frag} {W : WX} {mi : Sg → Rs (List Dat)} {t : TG} {g : Dat → Sg → Option Sg} {c : MT} {e : ME} {vs : List Nat} {F : Fm} {σ : St} {H : Hp} {Q : VK}
    (tk : TgOk cm K t vs g) (e1 : F.cm = cm) (e2 : F.K = K)
    (h : tG cm K W (rIt cm K) mi σ H fun J H1 => ∃ ds S1, Rel F S1 σ H1 ∧ rIt cm K σ (vis F S1 σ H1) J ds ∧ ∃ acc S2, loopC g c e vs ds [] (wipeS S1 vs) = .ok acc S2 ∧
      ∀ D us H2, H1 D = none → Rel (F.hide D (.lst us)) S2 σ H2 → Same (vis F S1 σ H1) (vis (F.hide D (.lst us)) S2 σ H2) → RpAll cm K (vis (F.hide D (.lst us)) S2 σ H2) us acc → Q (.ref D) H2) :
    tLc (tG cm K W (rIt cm K) mi) t (tT cm K W0 c) (tE cm K W0 e) vs σ H Q := by
  obtain ⟨F', S', a1, a2, R', h⟩ := h
  refine ⟨F', S', a1, a2, R', out_imp h fun J H1 ⟨ds, S1, R1, ⟨j1, j2, j3⟩, acc, S2, hl, hq⟩ D hD => ?_⟩
  have h0D : F.H0 D = none := R1.fresh0 hD
  have hTD := R1.tnew hD
  obtain ⟨Rh, sh⟩ := R1.hide (o := .lst []) hD
  obtain ⟨Rw, sw⟩ := Rel.wipe Rh vs
  refine ⟨fun i m H' => i + m = ds.length ∧ ∃ Sx us ac, Rel (F.hide D (.lst us)) Sx (L2.wipe σ vs) H' ∧ (∀ (v : Nat) (s : Slot), v ∈ vs → Sx[v]? = some s → s = .no) ∧ Same (vis F S1 σ H1) (vis (F.hide D (.lst us)) Sx (L2.wipe σ vs) H') ∧ RpAll cm K (vis (F.hide D (.lst us)) Sx (L2.wipe σ vs) H') us ac ∧ loopC g c e vs (ds.drop i) ac Sx = .ok acc S2,
    ⟨ds.length, by omega, _, [], [], Rw, fun v s hv => wipeS_no vs hv, sh.trans sw, .nil, hl⟩, ?_⟩
  rintro i m H' ⟨em, Sx, us, ac, Rx, nx, sx, rx, lx⟩
  have sH : Same (vis F S1 σ H1) H' := sx.trans hid_le
  by_cases hi : i < ds.length
  · refine .inr ⟨j1 i H' sH hi, fun H2 => ∃ Sx us ac, Rel (F.hide D (.lst us)) Sx (L2.wipe σ vs) H2 ∧ (∀ (v : Nat) (s : Slot), v ∈ vs → Sx[v]? = some s → s = .no) ∧ Same (vis F S1 σ H1) (vis (F.hide D (.lst us)) Sx (L2.wipe σ vs) H2) ∧ RpAll cm K (vis (F.hide D (.lst us)) Sx (L2.wipe σ vs) H2) us ac ∧ loopC g c e vs (ds.drop (i + 1)) ac Sx = .ok acc S2,
      fun H2 q => ⟨m - 1, by omega, by omega, q⟩, fun x H2 hy => ?_⟩
    obtain ⟨sy, d, hd, pd⟩ := j3 i H' x H2 _ sx Rx.live hy hi
    have R2 := Rx.grow sy
    have s2 : Same (vis (F.hide D (.lst us)) Sx (L2.wipe σ vs) H') (vis (F.hide D (.lst us)) Sx (L2.wipe σ vs) H2) := vis_grow sy
    have e3 : ds.drop i = d :: ds.drop (i + 1) := by
      rw [List.drop_eq_getElem_cons hi]
      rw [List.getElem?_eq_getElem hi] at hd
      rw [Option.some.inj hd]
    rw [e3] at lx
    unfold loopC at lx
    cases hg : g d Sx with
    | none => rw [hg] at lx; cases lx
    | some S3 =>
      rw [hg, Rs.of_some, Rs.bind_ok] at lx
      refine tk (F.hide D (.lst us)) Sx (L2.wipe σ vs) H2 x d S3 _ e1 e2 R2 pd hg fun σ2 ew R3 s3 => ?_
      have ew2 : L2.wipe σ2 vs = L2.wipe σ vs := by
        rw [ew]
        exact wipe_idem vs vs σ fun v hv => hv
      refine ⟨ew2, F.hide D (.lst us), S3, e1, e2, R3, ?_⟩
      have st3 : Same (vis (F.hide D (.lst us)) Sx (L2.wipe σ vs) H') (vis (F.hide D (.lst us)) S3 σ2 H2) := s2.trans s3
      cases hc : c S3 with
      | bad => rw [hc] at lx; cases lx
      | exc _ _ _ => rw [hc] at lx; cases lx
      | ok tt S4 =>
        rw [hc, Rs.calm_ok, Rs.bind_ok] at lx
        intro bv H4 R4 s4 eb
        have eb' : bv = tt := eb
        subst eb'
        have st4 := st3.trans s4
        cases bv with
        | false =>
          rw [if_neg Bool.false_ne_true] at lx ⊢
          obtain ⟨R5, s5⟩ := Rel.wipe R4 vs
          rw [ew2] at R5 s5
          exact ⟨_, us, ac, R5, fun v s hv => wipeS_no vs hv, (sx.trans st4).trans s5, (rx.mono st4).mono s5, lx⟩
        | true =>
          rw [if_pos rfl] at lx ⊢
          refine ⟨F.hide D (.lst us), S4, e1, e2, R4, ?_⟩
          cases he : e S4 with
          | bad => rw [he] at lx; cases lx
          | exc _ _ _ => rw [he] at lx; cases lx
          | ok y S5 =>
            rw [he, Rs.calm_ok, Rs.bind_ok] at lx
            intro yv H5 R5 s5 py
            have st5 := st4.trans s5
            by_cases hz : ac.length < lim
            · rw [if_pos hz] at lx
              have hD5 : H5 D = some (.lst us) := (R5.tmp (D, .lst us) (List.mem_cons_self ..)).1
              refine ⟨us, hD5, by rw [rx.length]; exact lim_lt hz, ?_⟩
              obtain ⟨R6, s6⟩ := Rel.wipe R5 vs
              rw [ew2] at R6 s6
              obtain ⟨R7, eG⟩ := R6.hidden (o' := .lst (us ++ [yv])) h0D hTD
              refine ⟨_, us ++ [yv], ac ++ [y], R7, fun v s hv => wipeS_no vs hv, ?_, ?_, lx⟩
              · rw [eG]; exact (sx.trans st5).trans s6
              · rw [eG]
                have py' : Rp cm K (vis (F.hide D (.lst us)) S5 σ2 H5) yv y := py
                exact ((rx.mono st5).mono s6).append (.cons (py'.mono s6) .nil)
            · rw [if_neg hz] at lx; cases lx
  · have ei : i = ds.length := by omega
    rw [List.drop_of_length_le (by omega)] at lx
    cases lx
    refine .inl ⟨by rw [ei]; exact j2 H' sH, ?_⟩
    have lw : σ.length = (L2.wipe σ vs).length := (L2.wipe_length σ vs).symm
    obtain ⟨R8, eV⟩ := Rx.other (σ := σ) lw fun v s hs => by
      by_cases hv : v ∈ vs
      · exact .inr (nx v s hv hs)
      · exact .inl (wipe_get vs hv).symm
    exact hq D us H' hD R8 (by rw [eV]; exact sx) (by rw [eV]; exact rx)
section
variable {X : Cx} {cm : CM} {W : WX} {elt tg iter : Expr} {ifs : List Expr} {scope : Scope} {own : List (Str × Nat)} {pos : Pos} {mi : Sg → Rs (List Dat)} {t : TG} {g : Dat → Sg → Option Sg} {c : MT} {e : ME}
theorem lc_end {F : Fm} {S1 S2 : Sg} {σ : St} {H1 H2 : Hp} {D : Addr} {us : List V} {acc : List Dat} {K : PySem.W.Frag} (R1 : Rel F S1 σ H1) (R : Rel (F.hide D (.lst us)) S2 σ H2) (r : RpAll cm K (vis (F.hide D (.lst us)) S2 σ H2) us acc) :
    Rel F S2 σ H2 ∧ Same (vis (F.hide D (.lst us)) S2 σ H2) (vis F S2 σ H2) ∧ (H1 D = none → Rp cm K (vis F S2 σ H2) (.ref D) (.lst acc)) := by
  obtain ⟨R3, s3⟩ := Rel.unhide R1 R
  refine ⟨R3, s3, fun hD => .lst ?_ (r.mono s3)⟩
  have e := (R.tmp (D, .lst us) (List.mem_cons_self ..)).1
  unfold vis
  rw [hid_out]
  · exact e
  · intro z
    rcases List.mem_append.mp z with z | z
    · exact R1.liv D z hD
    · exact R.lom D z (List.mem_cons_self ..)
theorem pts_of {X : Cx} {cm : CM} {K : PySem.W.Frag} (hK : X.K = K) : PTs X [] (tT cm K W0 cYes) := ⟨fun pins s σ H Q I ⟨F, S, e1, e2, R, h⟩ => (pts_nil (X := X)).run pins s σ H Q I (h true H R (Same.refl _) rfl)⟩
theorem ge_lc (hc : X.calm = true) (hN : X.N.Nodup) (hi : PI X tg iter (tG cm X.K W (rIt cm X.K) mi)) (ok : BlkOk X.N X.env.scope scope own) (tk : TgOk cm X.K t (own.map (·.2)) g)
    (hg : ∀ (s : Shared) (H : Hp) (C : Addr) (cl : List (Str × Addr)) (fp : List Addr), PG (X.blk s H scope (compEnvC scope cl C X.env) fp) tg t)
    (ht : ∀ (s : Shared) (H : Hp) (C : Addr) (cl : List (Str × Addr)) (fp : List Addr), PTs (X.blk s H scope (compEnvC scope cl C X.env) fp) ifs (tT cm X.K W0 c))
    (he : ∀ (s : Shared) (H : Hp) (C : Addr) (cl : List (Str × Addr)) (fp : List Addr), PE (X.blk s H scope (compEnvC scope cl C X.env) fp) elt (tE cm X.K W0 e)) (hs : ∀ x, foldedSetIterable iter X.env x = pure x := by intro _; rfl) :
    PE X (.ListComp elt [⟨tg, iter, ifs, 0⟩] scope pos) (tE cm X.K W (mLc mi g c e (own.map (·.2)))) :=
  PE.weak (pe_lc hc hN hi ok hg ht he hs) fun σ H Q ⟨F, S, e1, e2, R, h⟩ => lc_read tk e1 e2 (tG_bind' e1 e2 R h fun J H1 ds S1 hm R1 s1 p1 h1 => ⟨ds, S1, R1, p1, by
    cases hl : loopC g c e (own.map (·.2)) ds [] (wipeS S1 (own.map (·.2))) with
    | bad => rw [hl] at h1; exact False.elim h1
    | exc _ _ _ =>
      exfalso
      have no : ∀ (ds ac : List Dat) (S : Sg) c0 fs S', loopC g c e (own.map (·.2)) ds ac S ≠ .exc c0 fs S' := by
        intro ds
        induction ds with
        | nil => intro ac S c0 fs S' z; cases z
        | cons d ds ih =>
          intro ac S c0 fs S' z
          unfold loopC at z
          cases h1 : g d S with
          | none => rw [h1] at z; cases z
          | some S1 =>
            rw [h1, Rs.of_some, Rs.bind_ok] at z
            cases h2 : c S1 with
            | bad => rw [h2] at z; cases z
            | exc _ _ _ => rw [h2] at z; cases z
            | ok t S2 =>
              rw [h2, Rs.calm_ok, Rs.bind_ok] at z
              cases t with
              | false => exact ih _ _ _ _ _ z
              | true =>
                rw [if_pos rfl] at z
                cases h3 : e S2 with
                | bad => rw [h3] at z; cases z
                | exc _ _ _ => rw [h3] at z; cases z
                | ok y S3 =>
                  rw [h3, Rs.calm_ok, Rs.bind_ok] at z
                  by_cases hz : ac.length < lim
                  · rw [if_pos hz] at z; exact ih _ _ _ _ _ z
                  · rw [if_neg hz] at z; cases z
      exact no _ _ _ _ _ _ hl
    | ok acc S2 =>
      rw [hl, Rs.bind_ok] at h1
      refine ⟨acc, S2, rfl, fun D us H2 hD R2 s2 r2 => ?_⟩
      obtain ⟨R3, s3, r3⟩ := lc_end (cm := cm) R1 R2 r2
      exact h1 _ H2 R3 (s2.trans s3) (r3 hD)⟩)
end
end Mir

/-! MirH: defs as functions on trees; their calls -/
namespace Mir
open PySem PySem.Spec PyProof.Rows L2

/-- what a def is given: a value, or a thing that is lent to it -/
inductive FA where
  | dat (d : Dat)
  | own (o : Own)
inductive RF where
  | ok (d : Dat) (outs : List Own)
  | exc (c : Str) (fs : List (Str × Dat)) (outs : List Own)
  | bad
inductive ArgsOk (cm : CM) (K : PySem.W.Frag) (G H : Hp) : List V → List FA → List Addr → Prop
  | nil : ArgsOk cm K G H [] [] []
  | dat {v : V} {d : Dat} {vs : List V} {as : List FA} {ls : List Addr} : Rp cm K G v d → ArgsOk cm K G H vs as ls → ArgsOk cm K G H (v :: vs) (.dat d :: as) ls
  | own {l : Addr} {o : Own} {vs : List V} {as : List FA} {ls : List Addr} : OwnOk cm K G H l o → ArgsOk cm K G H vs as ls → ArgsOk cm K G H (.ref l :: vs) (.own o :: as) (l :: ls)
inductive OutsOk (cm : CM) (K : PySem.W.Frag) (G H : Hp) : List Addr → List Own → Prop
  | nil : OutsOk cm K G H [] []
  | cons {l : Addr} {o : Own} {ls : List Addr} {os : List Own} : OwnOk cm K G H l o → OutsOk cm K G H ls os → OutsOk cm K G H (l :: ls) (o :: os)
theorem OutsOk.get {cm : CM} {K : PySem.W.Frag} {G H : Hp} : ∀ {ls : List Addr} {os : List Own}, OutsOk cm K G H ls os → ∀ {t : Nat} {l : Addr}, ls[t]? = some l → ∃ o, os[t]? = some o ∧ OwnOk cm K G H l o
  | _, _, .nil, t, l, e => by simp at e
  | _, _, .cons a b, 0, l, e => by simp at e; subst e; exact ⟨_, rfl, a⟩
  | _, _, .cons a b, t + 1, l, e => OutsOk.get b (t := t) (by simpa using e)
theorem OutsOk.length {cm : CM} {K : PySem.W.Frag} {G H : Hp} : ∀ {ls : List Addr} {os : List Own}, OutsOk cm K G H ls os → ls.length = os.length
  | _, _, .nil => rfl
  | _, _, .cons _ b => congrArg Nat.succ (OutsOk.length b)
def outF (cm : CM) (K : PySem.W.Frag) (M : List Addr) (ls : List Addr) (H : Hp) (Q : VK) (E : XK) : RF → Prop
  | .ok d outs => ∀ v H', (∀ a o, H a = some o → a ∉ ls → H' a = some o) → OutsOk cm K (hid M H') H' ls outs → Rp cm K (hid M H') v d → Q v H'
  | .exc c fs outs => ∀ da gs H', (∀ a o, H a = some o → a ∉ ls → H' a = some o) → OutsOk cm K (hid M H') H' ls outs → hid M H' da = some (.xd gs) → RpF cm K (hid M H') gs fs → E (.ref (cm c)) (some da) H'
  | .bad => False
/-- a def's promise, by its function on trees -/
def spF (cm : CM) (K : PySem.W.Frag) (Fn : List FA → RF) : Sp := fun vs H Q E => ∃ M as ls, live M H ∧ (∀ l, l ∈ ls → l ∈ M) ∧ ls.Nodup ∧ ArgsOk cm K (hid M H) H vs as ls ∧ outF cm K M ls H Q E (Fn as)

def mkSlots : Nat → List FA → Sg
  | _, [] => []
  | j, .dat d :: r => .dat d :: mkSlots j r
  | j, .own o :: r => .own j o :: mkSlots (j + 1) r
def findOwn (j : Nat) : Sg → Option Own
  | [] => none
  | .own k o :: S => if k = j then some o else findOwn j S
  | _ :: S => findOwn j S
def outsFrom (j : Nat) : Nat → Sg → Option (List Own)
  | 0, _ => some []
  | n + 1, S => match findOwn j S, outsFrom (j + 1) n S with
    | some o, some r => some (o :: r)
    | _, _ => none
def nOwn : List FA → Nat
  | [] => 0
  | .dat _ :: r => nOwn r
  | .own _ :: r => nOwn r + 1
def endF (k : Nat) : Rs Fl → RF
  | .ok (.rt d) S => match outsFrom 0 k S with
    | some outs => .ok d outs
    | none => .bad
  | .ok .nx S => match outsFrom 0 k S with
    | some outs => .ok .non outs
    | none => .bad
  | .exc c fs S => match outsFrom 0 k S with
    | some outs => .exc c fs outs
    | none => .bad
  | _ => .bad
/-- np parameters, n names -/
def runDef (np n : Nat) (m : MS) (as : List FA) : RF := if as.length = np then endF (nOwn as) (m (mkSlots 0 as ++ List.replicate (n - np) .no)) else .bad

section
variable {cm : CM} {K : PySem.W.Frag} {G H : Hp}
theorem ArgsOk.length : ∀ {vs : List V} {as : List FA} {ls : List Addr}, ArgsOk cm K G H vs as ls → vs.length = as.length
  | _, _, _, .nil => rfl
  | _, _, _, .dat _ b => congrArg Nat.succ (ArgsOk.length b)
  | _, _, _, .own _ b => congrArg Nat.succ (ArgsOk.length b)
theorem ArgsOk.nown : ∀ {vs : List V} {as : List FA} {ls : List Addr}, ArgsOk cm K G H vs as ls → nOwn as = ls.length
  | _, _, _, .nil => rfl
  | _, _, _, .dat (as := as) _ b => by show nOwn as = _; exact ArgsOk.nown b
  | _, _, _, .own _ b => congrArg Nat.succ (ArgsOk.nown b)
theorem mkSlots_len : ∀ (j : Nat) (as : List FA), (mkSlots j as).length = as.length
  | _, [] => rfl
  | j, .dat d :: r => congrArg Nat.succ (mkSlots_len j r)
  | j, .own o :: r => congrArg Nat.succ (mkSlots_len (j + 1) r)
theorem mkSlots_ok {F : Fm} (e1 : F.cm = cm) (e2 : F.K = K) : ∀ {vs : List V} {as : List FA} {ls : List Addr} (j : Nat), ArgsOk cm K G H vs as ls → (∀ t l, ls[t]? = some l → F.A0[j + t]? = some l) → ∀ {i : Nat} {s : Slot} {v : V}, (mkSlots j as)[i]? = some s → vs[i]? = some v → SlotOk F G H s (some v)
  | _, _, _, j, .nil, _, i, s, v, h, _ => by simp [mkSlots] at h
  | _, _, _, j, .dat a b, hl, 0, s, v, h, h' => by
    simp [mkSlots] at h h'; subst h; subst h'
    exact .dat (by rw [e1, e2]; exact a)
  | _, _, _, j, .own a b, hl, 0, s, v, h, h' => by
    simp [mkSlots] at h h'; subst h; subst h'
    exact .own (by have := hl 0 _ rfl; simpa using this) (by rw [e1, e2]; exact a)
  | _, _, _, j, .dat a b, hl, i + 1, s, v, h, h' => mkSlots_ok e1 e2 j b hl (i := i) (by simpa [mkSlots] using h) (by simpa using h')
  | _, _, _, j, .own a b, hl, i + 1, s, v, h, h' => mkSlots_ok e1 e2 (j + 1) b (fun t l e => by have := hl (t + 1) l (by simpa using e); rw [show j + 1 + t = j + (t + 1) by omega]; exact this) (i := i) (by simpa [mkSlots] using h) (by simpa using h')
theorem mkSlots_owns : ∀ (j : Nat) (as : List FA) (k : Nat), k ∈ owns (mkSlots j as) → j ≤ k
  | _, [], k, h => by simp [mkSlots, owns] at h
  | j, .dat d :: r, k, h => mkSlots_owns j r k (by simpa [mkSlots, owns] using h)
  | j, .own o :: r, k, h => by
    rcases List.mem_cons.mp (show k ∈ j :: owns (mkSlots (j + 1) r) from h) with e | e
    · omega
    · have := mkSlots_owns (j + 1) r k e; omega
theorem mkSlots_nd : ∀ (j : Nat) (as : List FA), (owns (mkSlots j as)).Nodup
  | _, [] => by simp [mkSlots, owns]
  | j, .dat d :: r => by have := mkSlots_nd j r; simpa [mkSlots, owns] using this
  | j, .own o :: r => List.nodup_cons.mpr ⟨fun z => by have := mkSlots_owns (j + 1) r j z; omega, mkSlots_nd (j + 1) r⟩
theorem owns_append : ∀ (S T : Sg), owns (S ++ T) = owns S ++ owns T
  | [], T => rfl
  | s :: S, T => by
    have ih := owns_append S T
    cases s <;> simp [owns, ih]
theorem owns_no : ∀ n : Nat, owns (List.replicate n Slot.no) = []
  | 0 => rfl
  | n + 1 => by rw [List.replicate_succ]; exact owns_no n
theorem locs_none : ∀ {S : Sg}, (∀ s, s ∈ S → s.isLoc = false) → ∀ σ : L2.St, locs S σ = []
  | [], _, σ => by cases σ <;> rfl
  | s :: S, h, [] => by cases s <;> rfl
  | s :: S, h, v :: σ => by
    have hs := h s (List.mem_cons_self ..)
    have ih := locs_none (S := S) (fun t ht => h t (List.mem_cons_of_mem _ ht)) σ
    cases s with
    | loc ds => cases hs
    | _ => simpa [locs] using ih
theorem mkSlots_loc : ∀ (j : Nat) (as : List FA) s, s ∈ mkSlots j as → s.isLoc = false
  | _, [], s, h => by simp [mkSlots] at h
  | j, .dat d :: r, s, h => by
    rcases List.mem_cons.mp (show s ∈ Slot.dat d :: mkSlots j r from h) with e | e
    · rw [e]; rfl
    · exact mkSlots_loc j r s e
  | j, .own o :: r, s, h => by
    rcases List.mem_cons.mp (show s ∈ Slot.own j o :: mkSlots (j + 1) r from h) with e | e
    · rw [e]; rfl
    · exact mkSlots_loc (j + 1) r s e
theorem findOwn_mem : ∀ {S : Sg} {j : Nat} {o : Own}, findOwn j S = some o → ∃ i : Nat, S[i]? = some (.own j o)
  | [], j, o, h => by cases h
  | s :: S, j, o, h => by
    cases s with
    | own k u =>
      unfold findOwn at h
      by_cases e : k = j
      · rw [if_pos e] at h; cases h; subst e; exact ⟨0, rfl⟩
      · rw [if_neg e] at h
        obtain ⟨i, hi⟩ := findOwn_mem h
        exact ⟨i + 1, by simpa using hi⟩
    | _ =>
      obtain ⟨i, hi⟩ := findOwn_mem (S := S) (j := j) (o := o) (by simpa [findOwn] using h)
      exact ⟨i + 1, by simpa using hi⟩
theorem Rel.outs {F : Fm} {S : Sg} {σ : L2.St} {H : Hp} (R : Rel F S σ H) : ∀ (ls : List Addr) (j : Nat) (outs : List Own), (∀ t l, ls[t]? = some l → F.A0[j + t]? = some l) → outsFrom j ls.length S = some outs → OutsOk F.cm F.K (hid F.M H) H ls outs
  | [], j, outs, _, h => by cases h; exact .nil
  | l :: ls, j, outs, hl, h => by
    have h' : (match findOwn j S, outsFrom (j + 1) ls.length S with | some o, some r => some (o :: r) | _, _ => none) = some outs := h
    cases h1 : findOwn j S with
    | none => rw [h1] at h'; cases h'
    | some o =>
      cases h2 : outsFrom (j + 1) ls.length S with
      | none => rw [h1, h2] at h'; cases h'
      | some r =>
        rw [h1, h2] at h'; cases h'
        obtain ⟨i, hi⟩ := findOwn_mem h1
        have hlt : i < σ.length := by rw [← R.len]; exact (List.getElem?_eq_some_iff.mp hi).1
        have hv : σ[i]? = some σ[i] := List.getElem?_eq_getElem hlt
        have q := R.sl i _ _ hi hv
        have hj : F.A0[j]? = some l := by have := hl 0 l rfl; simpa using this
        refine .cons ?_ (Rel.outs R ls (j + 1) r (fun t x e => by have := hl (t + 1) x (by simpa using e); rw [show j + 1 + t = j + (t + 1) by omega]; exact this) h2)
        generalize σ[i] = w at hv q
        cases q with
        | own e0 ok =>
          rw [hj] at e0; cases e0
          exact ok.mono (hid_sub fun a h => List.mem_append_left _ h) fun _ z => z
end

structure FnG (P : Program) (w : World) (K : PySem.W.Frag) (mg : Str → Option Value) (base : Heap) (CX : CXT) (k : Nat) (f : Addr) (fd : FuncData) (ps : List Str) (sp : Sp) : Prop where
  len : ∀ vs H Q E, sp vs H Q E → vs.length = ps.length
  run : ∀ (A : Around) (outer : List Env) (s : Shared) (H : Hp) (args : Args) (us : List Value) (vs : List V) (Q : VK) (E : XK), Room k A → A.guards = some [] → Env0 P w K mg base A outer s H → BindsTo s fd args (ps.zip us) → Vals vs us → sp vs H Q E →
    codeAny (model P w) A (.call (.ref f) args) (CR CX outer P w H s Q E) s
theorem FnG.mono {P : Program} {w : World} {K : PySem.W.Frag} {mg : Str → Option Value} {base : Heap} {CX : CXT} {j k : Nat} {f : Addr} {fd : FuncData} {ps : List Str} {sp : Sp} (F : FnG P w K mg base CX j f fd ps sp) (h : j ≤ k) : FnG P w K mg base CX k f fd ps sp :=
  ⟨F.len, fun A outer s H args us vs Q E hr => F.run A outer s H args us vs Q E (hr.mono h)⟩
theorem guards_deeper {A : Around} {env : Env} (h : A.guards = some []) : (A.deeper env).guards = some [] := h

section
variable {P : Program} {w : World} {K : PySem.W.Frag} {mg : Str → Option Value} {base : Heap} {cm : CM}
/-- a def by its body's mirror -/
theorem fnG_of {x qual : Str} {params : Arguments} {body : List Stmt} {scope : Scope} {dvs : List V} {kws : List (Str × V)} {f : Addr} {fd : FuncData} {N ps : List Str} {k n np : Nat} {m : MS} (F : FunD K x qual params body scope dvs kws f fd) (S : FnScope N ps scope) (hn : N.length = n) (hp : ps.length = np)
    (hbody : ∀ (cdv : Value) (A : Around) (outer : List Env) (s : Shared) (H : Hp) (E : XK), Room k (A.deeper (envOfC qual scope s.heap.objs.size f cdv)) → (A.deeper (envOfC qual scope s.heap.objs.size f cdv)).guards = some [] →
      PSs (cxOf (L2.CX P w) P w K mg base N qual scope f cdv A outer s H E) body (tS cm K (fun cls d _ H' => E cls d H') m)) : FnG P w K mg base (L2.CX P w) (k + 1) f fd ps (spF cm K (runDef np n m)) := by
  have len : ∀ vs H Q E, spF cm K (runDef np n m) vs H Q E → vs.length = ps.length := fun vs H Q E ⟨M, as, ls, _, _, _, a, o⟩ => by
    unfold runDef at o
    by_cases hl : as.length = np
    · rw [a.length, hl, hp]
    · rw [if_neg hl] at o; exact o.elim
  obtain ⟨oc, od, dV, kV, doc, pm, an, cdv, ct, osl, rfl, lk, hcd, _, _⟩ := F.ex
  refine ⟨len, fun A outer s H args us vs Q E hr hg e0 hb r hsp => ?_⟩
  have hl := len _ _ _ _ hsp
  have KX : K.In s.heap := e0.mod.kin.keeps fun b o e => (e0.bs b o e).1
  have lim0 : s.heap.NoLimit := e0.mod.nolimit.keeps fun b o e => (e0.bs b o e).1
  refine codeAny_call_function hr.depth (KX _ _ lk) rfl S.co S.gen rfl (PySem.W.codeRec_of KX hcd) (hb _ _ _ _ (wpAny_newFunctionEnv_cells S.kind (fun ⟨nm, v⟩ hy => ?_) fun env he s1 y => ?_))
  · rcases S.par nm (List.of_mem_zip hy).1 with q | q
    · exact Or.inl q
    · exact Or.inr ⟨q, PySem.W.cellsFrom_some _ _ _ (Or.inl q)⟩
  · subst he
    refine ⟨lim0.keeps y.toInCall.keep, codeAny_func ?_⟩
    have I : L2.Inv (cxOf (L2.CX P w) P w K mg base N qual scope f cdv A outer s H E) [] (L2.start N vs) H s1 := inv_start S hr.hd e0 hl r y
    have ht := hbody cdv A outer s H E (hr.deeper _) (guards_deeper hg)
    obtain ⟨M, as, ls, lv, lm, ln, ao, of⟩ := hsp
    have hla : as.length = np := by rw [← ao.length, hl, hp]
    unfold runDef at of
    rw [if_pos hla, ao.nown] at of
    -- the frame at the entry
    have F0 : Rel ⟨cm, K, M, H, ls, []⟩ (mkSlots 0 as ++ List.replicate (n - np) .no) (L2.start N vs) H := by
      have lc : ∀ σ : L2.St, locs (mkSlots 0 as ++ List.replicate (n - np) .no) σ = [] := locs_none fun s hs => by
        rcases List.mem_append.mp hs with h | h
        · exact mkSlots_loc 0 as s h
        · rw [(List.mem_replicate.mp h).2]; rfl
      refine ⟨?_, fun i s v a b => ?_, ?_, fun l h => ?_, ?_, ln, lm, lv, fun l h => ?_, fun p h => ?_, fun a o q _ => q⟩
      · unfold L2.start
        rw [List.length_append, List.length_append, List.length_map, mkSlots_len, List.length_replicate, List.length_replicate, hn, ao.length, hla]
      · have eV : vis ⟨cm, K, M, H, ls, []⟩ (mkSlots 0 as ++ List.replicate (n - np) .no) (L2.start N vs) H = hid M H := by
          unfold vis; rw [lc, List.append_nil]
        rw [eV]
        unfold L2.start at b
        by_cases hi : i < as.length
        · have hi' : i < vs.length := by rw [ao.length]; exact hi
          rw [List.getElem?_append_left (by rw [mkSlots_len]; exact hi)] at a
          rw [List.getElem?_append_left (by rw [List.length_map]; exact hi'), List.getElem?_map, List.getElem?_eq_getElem hi'] at b
          cases b
          exact mkSlots_ok (F := ⟨cm, K, M, H, ls, []⟩) rfl rfl 0 ao (fun t l e => by rw [Nat.zero_add]; exact e) a (List.getElem?_eq_getElem hi')
        · rw [List.getElem?_append_right (by rw [mkSlots_len]; omega), List.getElem?_replicate] at a
          split at a
          · cases a; exact .no
          · cases a
      · rw [lc]; exact List.nodup_nil
      · rw [lc] at h; cases h
      · rw [owns_append, owns_no, List.append_nil]; exact mkSlots_nd 0 as
      · rw [lc] at h; cases h
      · cases h
    have la : ∀ (t : Nat) (l : Addr), ls[t]? = some l → (⟨cm, K, M, H, ls, []⟩ : Fm).A0[0 + t]? = some l := fun t l e => by rw [Nat.zero_add]; exact e
    have hq : tS cm K (fun cls d _ H' => E cls d H') m { nx := fun _ H' => Q .non H', rt := Q } (L2.start N vs) H := by
      refine ⟨⟨cm, K, M, H, ls, []⟩, _, rfl, rfl, F0, ?_⟩
      cases hm : m (mkSlots 0 as ++ List.replicate (n - np) .no) with
      | bad => rw [hm] at of; exact of
      | exc c fs S' =>
        rw [hm] at of
        intro σ' da gs H' R' _ hda hgs
        unfold endF at of
        dsimp only at of
        cases ho : outsFrom 0 ls.length S' with
        | none => rw [ho] at of; exact of.elim
        | some outs =>
          rw [ho] at of
          exact of da gs H' (fun a o e n => R'.keep a o e n) (Rel.outs R' ls 0 outs la ho) (hid_sub (fun a h => List.mem_append_left _ h) _ _ hda) (hgs.mono (hid_sub fun a h => List.mem_append_left _ h))
      | ok fl S' =>
        rw [hm] at of
        cases fl with
        | nx =>
          intro σ' H' R' _
          unfold endF at of
          dsimp only at of
          cases ho : outsFrom 0 ls.length S' with
          | none => rw [ho] at of; exact of.elim
          | some outs =>
            rw [ho] at of
            exact of .non H' (fun a o e n => R'.keep a o e n) (Rel.outs R' ls 0 outs la ho) .non
        | rt d =>
          intro v σ' H' R' _ rv
          unfold endF at of
          dsimp only at of
          cases ho : outsFrom 0 ls.length S' with
          | none => rw [ho] at of; exact of.elim
          | some outs =>
            rw [ho] at of
            exact of v H' (fun a o e n => R'.keep a o e n) (Rel.outs R' ls 0 outs la ho) (rv.mono (hid_sub fun a h => List.mem_append_left _ h))
        | bk => exact of.elim
        | ct => exact of.elim
    refine wpAny_mono (ht.run [] s1 (L2.start N vs) H _ I hq) (fun fl s' hs => ?_) fun e s' hs => hs
    cases fl with
    | ret u => obtain ⟨v, σ', H', J, rv, q⟩ := hs; exact ⟨v, H', J.os, J.bare, J.base, J.hok, rv, q⟩
    | next => obtain ⟨σ', H', J, q⟩ := hs; exact ⟨V.non, H', J.os, J.bare, J.base, J.hok, (rfl : Value.none = Value.none), q⟩
    | brk => obtain ⟨_, _, _, q⟩ := hs; exact q.elim
    | cont => obtain ⟨_, _, _, q⟩ := hs; exact q.elim
end
end Mir

/-! MirI: calls of defs -/
namespace Mir
open PySem PySem.Spec L2

/-- an argument: a value, or what a slot holds, lent -/
inductive AV where
  | dat (d : Dat)
  | slot (i : Nat)
abbrev MAv := Sg → Rs (List AV)
inductive AvsOk (cm : CM) (K : PySem.W.Frag) (σ : L2.St) (G : Hp) : List V → List AV → Prop
  | nil : AvsOk cm K σ G [] []
  | dat {v : V} {d : Dat} {vs : List V} {as : List AV} : Rp cm K G v d → AvsOk cm K σ G vs as → AvsOk cm K σ G (v :: vs) (.dat d :: as)
  | slot {v : V} {i : Nat} {vs : List V} {as : List AV} : σ[i]? = some (some v) → AvsOk cm K σ G vs as → AvsOk cm K σ G (v :: vs) (.slot i :: as)
theorem AvsOk.mono {cm : CM} {K : PySem.W.Frag} {σ : L2.St} {G G' : Hp} (e : Same G G') : ∀ {vs : List V} {as : List AV}, AvsOk cm K σ G vs as → AvsOk cm K σ G' vs as
  | _, _, .nil => .nil
  | _, _, .dat a b => .dat (a.mono e) (AvsOk.mono e b)
  | _, _, .slot a b => .slot a (AvsOk.mono e b)
theorem AvsOk.length {cm : CM} {K : PySem.W.Frag} {σ : L2.St} {G : Hp} : ∀ {vs : List V} {as : List AV}, AvsOk cm K σ G vs as → vs.length = as.length
  | _, _, .nil => rfl
  | _, _, .dat _ b => congrArg Nat.succ (AvsOk.length b)
  | _, _, .slot _ b => congrArg Nat.succ (AvsOk.length b)
abbrev rAv (cm : CM) (K : PySem.W.Frag) : Rep (List V) (List AV) := fun σ G vs as => AvsOk cm K σ G vs as
abbrev tAv (cm : CM) (K : PySem.W.Frag) (W : WX) (m : MAv) : TA := tG cm K W (rAv cm K) m

def isLent (i : Nat) (S : Sg) : Bool := match S[i]? with
  | some (.loc _) => true
  | some (.own _ _) => true
  | _ => false
def vNil : MAv := fun S => .ok [] S
def vDat (ma : ME) (mr : MAv) : MAv := fun S => (ma S).bind fun d S1 => (mr S1).bind fun r S2 => .ok (.dat d :: r) S2
def vSlot (i : Nat) (mr : MAv) : MAv := fun S => if isLent i S then (mr S).bind fun r S2 => .ok (.slot i :: r) S2 else .bad
def fetch (S : Sg) : List AV → Option (List FA × List Nat)
  | [] => some ([], [])
  | .dat d :: r => match fetch S r with
    | some (fs, is) => some (.dat d :: fs, is)
    | none => none
  | .slot i :: r => match S[i]?, fetch S r with
    | some (.own _ o), some (fs, is) => some (.own o :: fs, i :: is)
    | some (.loc ds), some (fs, is) => some (.own (.lst ds) :: fs, i :: is)
    | _, _ => none
def putS (s : Slot) (o : Own) : Option Slot := match s with
  | .own j _ => some (.own j o)
  | .loc _ => match o with
    | .lst ds => some (.loc ds)
    | _ => none
  | _ => none
def wb : Sg → List Nat → List Own → Option Sg
  | S, [], [] => some S
  | S, i :: is, o :: os => match S[i]? with
    | some s => match putS s o with
      | some s' => wb (S.set i s') is os
      | none => none
    | none => none
  | _, _, _ => none
def nodupB : List Nat → Bool
  | [] => true
  | i :: is => !is.contains i && nodupB is
theorem nodupB_ok : ∀ {is : List Nat}, nodupB is = true → is.Nodup
  | [], _ => List.nodup_nil
  | i :: is, h => by
    unfold nodupB at h
    rw [Bool.and_eq_true] at h
    refine List.nodup_cons.mpr ⟨fun z => ?_, nodupB_ok h.2⟩
    have := h.1
    simp [z] at this
def applyF (Fn : List FA → RF) (as : List AV) (S : Sg) : Rs Dat := match fetch S as with
  | none => .bad
  | some (fs, is) => if nodupB is then (match Fn fs with
    | .ok d outs => (match wb S is outs with
      | some S' => .ok d S'
      | none => .bad)
    | .exc c es outs => (match wb S is outs with
      | some S' => .exc c es S'
      | none => .bad)
    | .bad => .bad) else .bad

theorem nd_of_get {α : Type} : ∀ {xs : List α}, (∀ (t u : Nat) (l : α), xs[t]? = some l → xs[u]? = some l → t = u) → xs.Nodup
  | [], _ => List.nodup_nil
  | x :: xs, h => List.nodup_cons.mpr ⟨fun z => by
      obtain ⟨t, ht, e⟩ := List.getElem_of_mem z
      have := h 0 (t + 1) x rfl (by rw [List.getElem?_cons_succ, List.getElem?_eq_getElem ht, e])
      omega, nd_of_get fun t u l a b => by
      have := h (t + 1) (u + 1) l (by rw [List.getElem?_cons_succ]; exact a) (by rw [List.getElem?_cons_succ]; exact b)
      omega⟩
def LentAt (F : Fm) (S : Sg) (σ : L2.St) (i : Nat) (l : Addr) : Prop := σ[i]? = some (some (.ref l)) ∧ ((∃ ds, S[i]? = some (.loc ds)) ∨ ∃ j o, S[i]? = some (.own j o) ∧ F.A0[j]? = some l)
section
variable {F : Fm} {S S' : Sg} {σ : L2.St} {H H' : Hp}
theorem Rel.lentAt (R : Rel F S σ H) {i : Nat} (h : isLent i S = true) : ∃ l, LentAt F S σ i l := by
  unfold isLent at h
  cases hs : S[i]? with
  | none => rw [hs] at h; cases h
  | some s =>
    have hl : i < σ.length := by rw [← R.len]; exact (List.getElem?_eq_some_iff.mp hs).1
    have hv : σ[i]? = some σ[i] := List.getElem?_eq_getElem hl
    have q := R.sl i s _ hs hv
    generalize σ[i] = w at hv q
    cases q with
    | no => rw [hs] at h; cases h
    | dat _ => rw [hs] at h; cases h
    | exn _ _ _ => rw [hs] at h; cases h
    | loc _ _ => exact ⟨_, hv, .inl ⟨_, hs⟩⟩
    | own e0 _ => exact ⟨_, hv, .inr ⟨_, _, hs, e0⟩⟩
theorem Rel.lent1 (R : Rel F S σ H) {i k : Nat} {l : Addr} (a : LentAt F S σ i l) (b : LentAt F S σ k l) : i = k := by
  obtain ⟨a0, a1⟩ := a
  obtain ⟨b0, b1⟩ := b
  rcases a1 with ⟨ds, a1⟩ | ⟨j, o, a1, a2⟩
  · rcases b1 with ⟨es, b1⟩ | ⟨j', o', b1, b2⟩
    · exact locs_one R.nd a1 a0 b1 b0
    · exact absurd (R.ain l (List.mem_of_getElem? b2)) (R.lom l (mem_locs.mpr ⟨i, ds, a1, a0⟩))
  · rcases b1 with ⟨es, b1⟩ | ⟨j', o', b1, b2⟩
    · exact absurd (R.ain l (List.mem_of_getElem? a2)) (R.lom l (mem_locs.mpr ⟨k, es, b1, b0⟩))
    · have ej : j = j' := nd_ix R.and_ a2 b2
      subst ej
      exact owns_one R.ond a1 b1
theorem Rel.lentIn (R : Rel F S σ H) {i : Nat} {l : Addr} (a : LentAt F S σ i l) : l ∈ F.M ++ locs S σ := by
  obtain ⟨a0, a1⟩ := a
  rcases a1 with ⟨ds, a1⟩ | ⟨j, o, a1, a2⟩
  · exact List.mem_append_right _ (mem_locs.mpr ⟨i, ds, a1, a0⟩)
  · exact List.mem_append_left _ (R.ain l (List.mem_of_getElem? a2))
theorem locs_set_own {i j : Nat} {o u : Own} (h : S[i]? = some (.own j o)) : locs (S.set i (.own j u)) σ = locs S σ := by
  have key : ∀ (S : Sg) (σ : L2.St) (i : Nat), S[i]? = some (.own j o) → locs (S.set i (.own j u)) σ = locs S σ := by
    intro S
    induction S with
    | nil => intro σ i h; simp at h
    | cons s S ih =>
      intro σ i h
      cases σ with
      | nil =>
        have : ∀ T : Sg, locs T [] = [] := fun T => by cases T with
          | nil => rfl
          | cons x r => cases x <;> rfl
        simp [this]
      | cons v σ =>
        cases i with
        | zero => simp at h; subst h; rfl
        | succ i =>
          have := ih σ i (by simpa using h)
          show locs (s :: S.set i _) (v :: σ) = locs (s :: S) (v :: σ)
          cases s with
          | loc ds =>
            cases v with
            | none => exact this
            | some v =>
              cases v with
              | ref l => simp [locs, this]
              | _ => exact this
          | _ => simpa [locs] using this
  exact key S σ i h
theorem wb_spec : ∀ {is : List Nat} {os : List Own} {S S' : Sg}, is.Nodup → wb S is os = some S' → S'.length = S.length ∧ locs S' σ = locs S σ ∧ owns S' = owns S ∧ (∀ k : Nat, k ∉ is → S'[k]? = S[k]?) ∧
    ∀ (t k : Nat), is[t]? = some k → ∃ s o s', S[k]? = some s ∧ os[t]? = some o ∧ putS s o = some s' ∧ S'[k]? = some s'
  | [], [], S, S', _, h => by cases h; exact ⟨rfl, rfl, rfl, fun _ _ => rfl, fun t k e => by simp at e⟩
  | [], _ :: _, S, S', _, h => by cases h
  | _ :: _, [], S, S', _, h => by cases h
  | i :: is, o :: os, S, S', nd, h => by
    obtain ⟨n1, n2⟩ := List.nodup_cons.mp nd
    unfold wb at h
    cases hs : S[i]? with
    | none => rw [hs] at h; cases h
    | some s =>
      rw [hs] at h
      dsimp only at h
      cases hp : putS s o with
      | none => rw [hp] at h; cases h
      | some s1 =>
        rw [hp] at h
        obtain ⟨a1, a2, a3, a4, a5⟩ := wb_spec n2 h
        have hi : i < S.length := (List.getElem?_eq_some_iff.mp hs).1
        have el : locs (S.set i s1) σ = locs S σ ∧ owns (S.set i s1) = owns S := by
          unfold putS at hp
          cases s with
          | no => cases hp
          | dat d => cases hp
          | exn c fs => cases hp
          | loc ds =>
            cases o with
            | lst es =>
              cases hp
              refine ⟨locs_set_same hs, ?_⟩
              have key : ∀ (S : Sg) (i : Nat), S[i]? = some (.loc ds) → owns (S.set i (.loc es)) = owns S := by
                intro S
                induction S with
                | nil => intro i h; simp at h
                | cons s S ih =>
                  intro i h
                  cases i with
                  | zero => simp at h; subst h; rfl
                  | succ i =>
                    have := ih i (by simpa using h)
                    show owns (s :: S.set i _) = owns (s :: S)
                    cases s with
                    | own j o => simp [owns, this]
                    | _ => simpa [owns] using this
              exact key S i hs
            | obj _ _ => cases hp
          | own j u => cases hp; exact ⟨locs_set_own hs, owns_set_same hs⟩
        refine ⟨by rw [a1, List.length_set], by rw [a2, el.1], by rw [a3, el.2], fun k hk => ?_, fun t k e => ?_⟩
        · rw [a4 k fun z => hk (List.mem_cons_of_mem _ z), List.getElem?_set_ne fun z => hk (by rw [z]; exact List.mem_cons_self ..)]
        · cases t with
          | zero =>
            simp at e; subst e
            refine ⟨s, o, s1, hs, rfl, hp, ?_⟩
            rw [a4 i n1, List.getElem?_set, if_pos rfl, if_pos hi]
          | succ t =>
            have e' : is[t]? = some k := by simpa using e
            obtain ⟨s2, o2, s3, b1, b2, b3, b4⟩ := a5 t k e'
            have hne : i ≠ k := fun z => n1 (by rw [z]; exact List.mem_of_getElem? e')
            rw [List.getElem?_set_ne hne] at b1
            exact ⟨s2, o2, s3, b1, by simpa using b2, b3, b4⟩
/-- behind a call to which some slots' things were lent -/
theorem Rel.lent (R : Rel F S σ H) {is : List Nat} {ls : List Addr} {outs : List Own} (nd : is.Nodup) (ha : ∀ (t i : Nat), is[t]? = some i → ∃ l, ls[t]? = some l ∧ LentAt F S σ i l) (hb : ∀ (t : Nat) (l : Addr), ls[t]? = some l → ∃ i : Nat, is[t]? = some i)
    (keep : ∀ a o, H a = some o → a ∉ ls → H' a = some o) (oo : OutsOk F.cm F.K (hid (F.M ++ locs S σ) H') H' ls outs) (hw : wb S is outs = some S') : Rel F S' σ H' ∧ Same (vis F S σ H) (vis F S' σ H') := by
  obtain ⟨a1, a2, a3, a4, a5⟩ := wb_spec (σ := σ) nd hw
  have eV : vis F S' σ H' = hid (F.M ++ locs S σ) H' := by unfold vis; rw [a2]
  have mem : ∀ l, l ∈ ls → ∃ i, i ∈ is ∧ LentAt F S σ i l := fun l hl => by
    obtain ⟨t, ht, e⟩ := List.getElem_of_mem hl
    have et : ls[t]? = some l := by rw [List.getElem?_eq_getElem ht, e]
    obtain ⟨i, hi⟩ := hb t l et
    obtain ⟨l', e2, q⟩ := ha t i hi
    rw [et] at e2; cases e2
    exact ⟨i, List.mem_of_getElem? hi, q⟩
  have g : Same (vis F S σ H) (vis F S' σ H') := by
    rw [eV]
    exact hid_same fun a o na q => keep a o q fun z => by
      obtain ⟨i, _, q⟩ := mem a z
      exact na (R.lentIn q)
  have outl : ∀ l, l ∈ ls → H' l ≠ none := fun l hl => by
    obtain ⟨t, ht, e⟩ := List.getElem_of_mem hl
    obtain ⟨o, _, ok⟩ := oo.get (show ls[t]? = some l by rw [List.getElem?_eq_getElem ht, e])
    cases ok with
    | lst h _ => rw [h]; simp
    | obj h _ => rw [h]; simp
  refine ⟨⟨by rw [a1, R.len], fun k s v hs hv => ?_, by rw [a2]; exact R.nd, fun l h => R.new l (by rw [← a2]; exact h), by rw [a3]; exact R.ond, R.and_, R.ain, fun a h => ?_, fun l h => R.lom l (by rw [← a2]; exact h), fun p h => ?_, fun a o q n => ?_⟩, g⟩
  · rw [eV]
    by_cases hk : k ∈ is
    · obtain ⟨t, ht, e⟩ := List.getElem_of_mem hk
      have et : is[t]? = some k := by rw [List.getElem?_eq_getElem ht, e]
      obtain ⟨s0, o, s1, b1, b2, b3, b4⟩ := a5 t k et
      rw [hs] at b4; cases b4
      obtain ⟨l, el, lv, lk⟩ := ha t k et
      rw [hv] at lv; cases lv
      obtain ⟨o', eo, ok⟩ := oo.get el
      rw [b2] at eo; cases eo
      rcases lk with ⟨ds, lk⟩ | ⟨j, u, lk, lj⟩
      · rw [b1] at lk; cases lk
        cases o with
        | lst es =>
          cases b3
          cases ok with
          | lst h r => exact .loc h r
        | obj _ _ => cases b3
      · rw [b1] at lk; cases lk
        cases b3
        exact .own lj ok
    · rw [a4 k hk] at hs
      have y := R.sl k s v hs hv
      rw [← eV]
      refine y.mono g fun l x ev n1 n2 n3 q => keep l x q fun z => ?_
      obtain ⟨i, hi, qi⟩ := mem l z
      have lk : LentAt F S σ k l := by
        rw [ev] at hv y
        cases y with
        | no => exact absurd rfl n1
        | dat _ => exact absurd rfl (n2 _)
        | exn _ _ _ => exact absurd rfl (n3 _ _)
        | loc _ _ => exact ⟨hv, .inl ⟨_, hs⟩⟩
        | own e0 _ => exact ⟨hv, .inr ⟨_, _, hs, e0⟩⟩
      exact hk (by rw [← R.lent1 qi lk]; exact hi)
  · by_cases hl : a ∈ ls
    · exact outl a hl
    · cases q : H a with
      | none => exact absurd q (R.liv a h)
      | some o => rw [keep a o q hl]; simp
  · obtain ⟨t1, t2, t3⟩ := R.tmp p h
    refine ⟨keep _ _ t1 fun z => ?_, t2, t3⟩
    obtain ⟨i, _, l0, lk⟩ := mem p.1 z
    rcases lk with ⟨ds, lk⟩ | ⟨j, u, lk, lj⟩
    · exact R.lom p.1 (mem_locs.mpr ⟨i, ds, lk, l0⟩) t2
    · exact t3 (List.mem_of_getElem? lj)
  · refine keep a o (R.keep a o q n) fun z => ?_
    obtain ⟨i, _, l0, lk⟩ := mem a z
    rcases lk with ⟨ds, lk⟩ | ⟨j, u, lk, lj⟩
    · rw [R.new a (mem_locs.mpr ⟨i, ds, lk, l0⟩)] at q; cases q
    · exact n (List.mem_of_getElem? lj)
theorem fetch_ok {cm : CM} {K : PySem.W.Frag} (e1 : F.cm = cm) (e2 : F.K = K) (R : Rel F S σ H) : ∀ {vs : List V} {as : List AV} {fs : List FA} {is : List Nat}, AvsOk cm K σ (vis F S σ H) vs as → fetch S as = some (fs, is) →
    ∃ ls, ArgsOk cm K (vis F S σ H) H vs fs ls ∧ (∀ (t i : Nat), is[t]? = some i → ∃ l, ls[t]? = some l ∧ LentAt F S σ i l) ∧ ∀ (t : Nat) (l : Addr), ls[t]? = some l → ∃ i : Nat, is[t]? = some i
  | _, _, fs, is, .nil, h => by cases h; exact ⟨[], .nil, fun t i e => by simp at e, fun t l e => by simp at e⟩
  | _, _, fs, is, .dat (as := as) a b, h => by
    unfold fetch at h
    cases hf : fetch S as with
    | none => rw [hf] at h; cases h
    | some q =>
      obtain ⟨q1, q2⟩ := q
      rw [hf] at h; cases h
      obtain ⟨ls, c1, c2, c3⟩ := fetch_ok e1 e2 R b hf
      exact ⟨ls, .dat a c1, c2, c3⟩
  | _, _, fs, is, .slot (i := i) (as := as) a b, h => by
    unfold fetch at h
    cases hs : S[i]? with
    | none => rw [hs] at h; cases h
    | some s =>
      have y := R.sl i s _ hs a
      cases hf : fetch S as with
      | none => rw [hs, hf] at h; cases s <;> cases h
      | some q =>
        obtain ⟨q1, q2⟩ := q
        rw [hs, hf] at h
        obtain ⟨ls, c1, c2, c3⟩ := fetch_ok e1 e2 R b hf
        have fin : ∀ {l : Addr} {o : Own}, LentAt F S σ i l → OwnOk cm K (vis F S σ H) H l o → (FA.own o :: q1, i :: q2) = (fs, is) → ∃ ls, ArgsOk cm K (vis F S σ H) H (V.ref l :: _) fs ls ∧ (∀ (t i : Nat), is[t]? = some i → ∃ l, ls[t]? = some l ∧ LentAt F S σ i l) ∧ ∀ (t : Nat) (l : Addr), ls[t]? = some l → ∃ i : Nat, is[t]? = some i := fun {l o} la ok e => by
          cases e
          refine ⟨l :: ls, .own ok c1, fun t k e => ?_, fun t x e => ?_⟩
          · cases t with
            | zero => simp at e; subst e; exact ⟨l, rfl, la⟩
            | succ t => obtain ⟨x, d1, d2⟩ := c2 t k (by simpa using e); exact ⟨x, by simpa using d1, d2⟩
          · cases t with
            | zero => exact ⟨i, rfl⟩
            | succ t => obtain ⟨k, d⟩ := c3 t x (by simpa using e); exact ⟨k, by simpa using d⟩
        cases y with
        | no => cases h
        | dat _ => cases h
        | exn _ _ _ => cases h
        | loc eh r => exact fin ⟨a, .inl ⟨_, hs⟩⟩ (.lst eh (by rw [← e1, ← e2]; exact r)) (Option.some.inj h)
        | own e0 ok => exact fin ⟨a, .inr ⟨_, _, hs, e0⟩⟩ (by rw [← e1, ← e2]; exact ok) (Option.some.inj h)
theorem apply_ok {cm : CM} {K : PySem.W.Frag} {W : WX} {Fn : List FA → RF} {vs : List V} {as : List AV} {Q : VK} (e1 : F.cm = cm) (e2 : F.K = K) (R : Rel F S σ H) (av : AvsOk cm K σ (vis F S σ H) vs as) (h : out F W σ (vis F S σ H) (rE cm K) Q (applyF Fn as S)) :
    spF cm K Fn vs H Q (WE W σ) := by
  unfold applyF at h
  cases hf : fetch S as with
  | none => rw [hf] at h; exact h.elim
  | some q =>
    obtain ⟨fs, is⟩ := q
    rw [hf] at h
    dsimp only at h
    by_cases hn : nodupB is = true
    · rw [if_pos hn] at h
      have nd := nodupB_ok hn
      obtain ⟨ls, c1, c2, c3⟩ := fetch_ok e1 e2 R av hf
      have lin : ∀ l, l ∈ ls → l ∈ F.M ++ locs S σ := fun l hl => by
        obtain ⟨t, ht, e⟩ := List.getElem_of_mem hl
        have et : ls[t]? = some l := by rw [List.getElem?_eq_getElem ht, e]
        obtain ⟨i, hi⟩ := c3 t l et
        obtain ⟨l', e3, q⟩ := c2 t i hi
        rw [et] at e3; cases e3
        exact R.lentIn q
      have lnd : ls.Nodup := nd_of_get fun t u l ht hl => by
        obtain ⟨i, hi⟩ := c3 u l hl
        obtain ⟨k, hk⟩ := c3 t l ht
        obtain ⟨l1, d1, d2⟩ := c2 u i hi
        obtain ⟨l2, d3, d4⟩ := c2 t k hk
        rw [hl] at d1; cases d1
        rw [ht] at d3; cases d3
        have ik := R.lent1 d2 d4
        subst ik
        exact nd_ix nd hk hi
      refine ⟨F.M ++ locs S σ, fs, ls, R.live, lin, lnd, c1, ?_⟩
      cases hF : Fn fs with
      | bad => rw [hF] at h; exact h
      | ok d outs =>
        rw [hF] at h
        intro v H' kp oo rv
        dsimp only at h
        cases hw : wb S is outs with
        | none => rw [hw] at h; exact h.elim
        | some S' =>
          rw [hw] at h
          obtain ⟨R', s'⟩ := R.lent nd c2 c3 kp (by rw [e1, e2]; exact oo) hw
          refine h v H' R' s' ?_
          have eV : vis F S' σ H' = hid (F.M ++ locs S σ) H' := by unfold vis; rw [(wb_spec (σ := σ) nd hw).2.1]
          rw [eV]
          exact rv
      | exc c es outs =>
        rw [hF] at h
        intro da gs H' kp oo hda rg
        dsimp only at h
        cases hw : wb S is outs with
        | none => rw [hw] at h; exact h.elim
        | some S' =>
          rw [hw] at h
          obtain ⟨R', s'⟩ := R.lent nd c2 c3 kp (by rw [e1, e2]; exact oo) hw
          have eV : vis F S' σ H' = hid (F.M ++ locs S σ) H' := by unfold vis; rw [(wb_spec (σ := σ) nd hw).2.1]
          have z := h da gs H' R' s' (by rw [eV]; exact hda) (by rw [eV, e1, e2]; exact rg)
          rw [e1] at z
          exact z
    · rw [if_neg hn] at h; exact h.elim
end
end Mir

/-! MirJ: the forms of calls -/
namespace Mir
open PySem PySem.Spec L2

inductive AvOk (cm : CM) (K : PySem.W.Frag) (σ : L2.St) (G : Hp) : V → AV → Prop
  | dat {v : V} {d : Dat} : Rp cm K G v d → AvOk cm K σ G v (.dat d)
  | slot {v : V} {i : Nat} : σ[i]? = some (some v) → AvOk cm K σ G v (.slot i)
section
variable {cm : CM} {K : PySem.W.Frag} {σ : L2.St} {G : Hp}
theorem AvsOk.cons {v : V} {a : AV} {vs : List V} {as : List AV} (h : AvOk cm K σ G v a) (r : AvsOk cm K σ G vs as) : AvsOk cm K σ G (v :: vs) (a :: as) := by
  cases h with
  | dat p => exact .dat p r
  | slot p => exact .slot p r
theorem AvsOk.at : ∀ {vs : List V} {as : List AV}, AvsOk cm K σ G vs as → ∀ i : Nat, AvOk cm K σ G (vs.getD i .non) (as.getD i (.dat .non))
  | _, _, .nil, i => by simpa using AvOk.dat Rp.non
  | _, _, .dat a b, 0 => .dat a
  | _, _, .slot a b, 0 => .slot a
  | _, _, .dat a b, i + 1 => by have := AvsOk.at b i; simpa using this
  | _, _, .slot a b, i + 1 => by have := AvsOk.at b i; simpa using this
end
theorem Vals.at : ∀ {vs : List V} {us : List Value}, Vals vs us → ∀ i : Nat, RelV (vs.getD i .non) (us.getD i .none)
  | _, _, .nil, i => by simp [RelV]
  | _, _, .cons a b, 0 => a
  | _, _, .cons a b, i + 1 => by have := Vals.at b i; simpa using this
/-- how a call's arguments come to the parameters, by values and by trees -/
structure Arr (n m : Nat) (gV : List V → List V → List V) (arr : List AV → List AV → List AV) : Prop where
  ok : ∀ {cm : CM} {K : PySem.W.Frag} {σ : L2.St} {G : Hp} {vs zs : List V} {as bs : List AV}, vs.length = n → zs.length = m → AvsOk cm K σ G vs as → AvsOk cm K σ G zs bs → AvsOk cm K σ G (gV vs zs) (arr as bs)

def mCallF (Fn : List FA → RF) (n m : Nat) (arr : List AV → List AV → List AV) (ma mk : MAv) : ME := fun S => (ma S).bind fun as S1 => (mk S1).bind fun bs S2 => if as.length = n ∧ bs.length = m then applyF Fn (arr as bs) S2 else .bad

/-! ### binding -/
section
variable {K : PySem.W.Frag} {x qual : Str} {params : Arguments} {body : List Stmt} {scope : Scope} {dvs : List V} {kws : List (Str × V)} {f : Addr} {fd : FuncData} {ps : List Str}
theorem kb_plain (F : FunD K x qual params body scope [] kws f fd) (n : Nat) (ks : List Str) (g : List Value → List Value → List Value) (gV : List V → List V → List V)
    (hrel : ∀ {vs : List V} {us : List Value} {zs : List V} {ws : List Value}, Vals vs us → Vals zs ws → Vals (gV vs zs) (g us ws))
    (h : ∀ (kV doc pm : Value) (an : Option Addr) (cdv ct : Value) (us ws : List Value), us.length = n → ws.length = ks.length → bindArgs (PySem.W.fnOf x qual params body scope .none kV doc pm an cdv ct) ⟨us, ks.zip ws⟩ = pure (ps.zip (g us ws))) : ∃ g, KBn K fd ps n ks g gV := by
  obtain ⟨oc, od, dV, kV, doc, pm, an, cdv, ct, osl, rfl, lk, hcd, hD, hK⟩ := F.ex
  rcases hD with ⟨_, rfl⟩ | ⟨e, _⟩
  · exact ⟨g, ⟨fun s us ws _ l1 l2 => .of_eq (h kV doc pm an cdv ct us ws l1 l2), hrel⟩⟩
  · exact absurd rfl e
theorem kb_dfl (F : FunD K x qual params body scope dvs kws f fd) (n : Nat) (ks : List Str) (g : {α : Type} → List α → List α → List α → List α) (hd : dvs ≠ [])
    (hrel : ∀ {vs ds zs : List V} {us its ws : List Value}, Vals vs us → Vals ds its → Vals zs ws → Vals (g vs ds zs) (g us its ws))
    (h : ∀ (T : Addr) (kV doc pm : Value) (an : Option Addr) (cdv ct : Value) (us its ws : List Value), us.length = n → its.length = dvs.length → ws.length = ks.length →
      ∃ k, bindArgs (PySem.W.fnOf x qual params body scope (.ref T) kV doc pm an cdv ct) ⟨us, ks.zip ws⟩ = seqItems? (.ref T) >>= k ∧ k (some its.toArray) = pure (ps.zip (g us its ws))) : ∃ g', KBn K fd ps n ks g' (fun vs zs => g vs dvs zs) := by
  obtain ⟨its, q⟩ := F.kbindsD n ks g hd hrel h
  exact ⟨_, q⟩
theorem kb_kw (F : FunD K x qual params body scope [] kws f fd) (n : Nat) (ks : List Str) (ms : List (Str × V)) (g : {α : Type} → List α → List α → List α → List α) (hk : kws ≠ []) (hms : ∀ q ∈ ms, q ∈ kws)
    (hrel : ∀ {vs mz zs : List V} {us mv ws : List Value}, Vals vs us → Vals mz mv → Vals zs ws → Vals (g vs mz zs) (g us mv ws))
    (h : ∀ (D : Addr) (doc pm : Value) (an : Option Addr) (cdv ct : Value) (us mv ws : List Value), us.length = n → mv.length = ms.length → ws.length = ks.length →
      KwChain D ((ms.map (·.1)).zip mv) (bindArgs (PySem.W.fnOf x qual params body scope .none (.ref D) doc pm an cdv ct) ⟨us, ks.zip ws⟩) (ps.zip (g us mv ws))) : ∃ g', KBn K fd ps n ks g' (fun vs zs => g vs (ms.map (·.2)) zs) := by
  obtain ⟨mv, q⟩ := F.kbinds0 n ks ms g hk hms hrel h
  exact ⟨_, q⟩
end

/-! ### arguments -/
section
variable {X : Cx} {cm : CM} {W : WX} {e o : Expr} {es : List Expr} {ma : ME} {mr mk : MAv} {pos p : Pos} {kwl : List Keyword}
theorem gv_nil : PA X [] (tAv cm X.K W vNil) := PA.weak pa_nil fun σ H Q ⟨F, S, e1, e2, R, h⟩ => h [] H R (Same.refl _) .nil
theorem gv_dat (ha : PE X e (tE cm X.K W ma)) (hr : PA X es (tAv cm X.K W mr)) (hs : starEach (e :: es) X.env = (false, eval e X.env) :: starEach es X.env := by rfl) : PA X (e :: es) (tAv cm X.K W (vDat ma mr)) :=
  PA.weak (pa_cons ha hr hs) fun σ H Q ⟨F, S, e1, e2, R, h⟩ => tG_bind e1 e2 R h fun x H1 da S1 R1 s1 p1 h1 => tG_bind e1 e2 R1 h1 fun y H2 db S2 R2 s2 p2 h2 => h2 _ H2 R2 (Same.refl _) (.dat (Rp.mono s2 p1) p2)
theorem gv_slot {i : Nat} (ho : PE X e (tVar i)) (hr : PA X es (tAv cm X.K W mr)) (hs : starEach (e :: es) X.env = (false, eval e X.env) :: starEach es X.env := by rfl) : PA X (e :: es) (tAv cm X.K W (vSlot i mr)) :=
  PA.weak (pa_cons ho hr hs) fun σ H Q ⟨F, S, e1, e2, R, h⟩ => by
    unfold vSlot at h
    by_cases hz : isLent i S = true
    · rw [if_pos hz] at h
      obtain ⟨l, hl, _⟩ := R.lentAt hz
      exact ⟨_, hl, tG_bind e1 e2 R h fun y H2 db S2 R2 s2 p2 h2 => h2 _ H2 R2 (Same.refl _) (.slot hl p2)⟩
    · rw [if_neg hz] at h; exact h.elim
theorem PK.weak {kws : List Keyword} {t t' : TA} (h : PK X kws t) (i : ∀ σ H Q, t' σ H Q → t σ H Q) : PK X kws t' := ⟨fun pos pins s σ H Q I q => h.run pos pins s σ H Q I (i σ H Q q)⟩
theorem gk_nil : PK X [] (tAv cm X.K W vNil) := PK.weak pk_nil fun σ H Q ⟨F, S, e1, e2, R, h⟩ => h [] H R (Same.refl _) .nil
theorem gk_dat {kpos : Pos} {nm : Option Str} (ha : PE X e (tE cm X.K W ma)) (hr : PK X kwl (tAv cm X.K W mr)) : PK X (⟨nm, e, kpos⟩ :: kwl) (tAv cm X.K W (vDat ma mr)) :=
  PK.weak (pk_cons ha hr) fun σ H Q ⟨F, S, e1, e2, R, h⟩ => tG_bind e1 e2 R h fun x H1 da S1 R1 s1 p1 h1 => tG_bind e1 e2 R1 h1 fun y H2 db S2 R2 s2 p2 h2 => h2 _ H2 R2 (Same.refl _) (.dat (Rp.mono s2 p1) p2)

/-! ### calls -/
variable {k n m : Nat} {f : Addr} {fd : FuncData} {ps ks : List Str} {Fn : List FA → RF} {x : Str} {gV : List V → List V → List V} {arr : List AV → List AV → List AV}
theorem run_g {sp : Sp} {pins : List (Addr × Obj)} {σ : L2.St} {H : Hp} {s : Shared} {Q : VK} {us : List Value} {kw : List (Str × Value)} {ys : List Value} {xs : List V} (Fk : FnG X.prog X.w X.K X.mg X.base (L2.CX X.prog X.w) k f fd ps sp) (hr : Room k X.A) (hgd : X.A.guards = some []) (tk : Takes X W)
    (I : L2.Inv X pins σ H s) (hb : BindsTo s fd ⟨us, kw⟩ (ps.zip ys)) (r : Vals xs ys) (h : sp xs H Q (WE W σ)) : wpAny (model X.prog X.w) X.A (call (.ref f) us kw) (EP X pins σ Q) X.xe s := by
  refine wpAny_call (codeAny_mono (Fk.run X.A X.stack s H ⟨us, kw⟩ ys xs Q (WE W σ) hr hgd I.env0 hb r h) fun res s' hq => ?_)
  rcases res with e | fl
  · exact passAt tk σ pins H s e s' I hq
  · rcases fl with _ | _ | _ | u
    · exact False.elim hq
    · exact False.elim hq
    · exact False.elim hq
    · exact I.after hq
/-- f(e, ..) -/
theorem ge_callF (Fk : FnG X.prog X.w X.K X.mg X.base (L2.CX X.prog X.w) k f fd ps (spF cm X.K Fn)) (hr : Room k X.A) (hgd : X.A.guards = some []) (tk : Takes X W) (hg : Gl X x) (hm : X.mg x = some (.ref f)) (hk : PySem.W.keepIn X.K (.ref f) = true) (hb : ∃ g, KBn X.K fd ps n [] g gV) (hA : Arr n 0 gV arr)
    (ha : PA X (e :: es) (tAv cm X.K W mr)) (hdb : (x == ("__debug__" : Str)) = false := by decide) (he : starEach (e :: es) X.env = (false, eval e X.env) :: starEach es X.env := by rfl) (hpl : (backTo pos (starEach es X.env)).any (·.1) = false := by rfl) :
    PE X (.Call (.Name x p) (e :: es) [] pos) (tE cm X.K W (mCallF Fn n 0 arr mr vNil)) := by
  obtain ⟨g, hb⟩ := hb
  refine ⟨fun pins s σ H Q I ⟨F, S, e1, e2, R, h⟩ => wpAny_Call_Name_kw (ld_glob I hg hm (PySem.W.callWith_K (h₀ := X.base) I.ok.mod.kin hk (thn (ha.run pos pins s σ H (fun vs H1 => ∃ as S1, Rel F S1 σ H1 ∧ AvsOk cm X.K σ (vis F S1 σ H1) vs as ∧ as.length = n ∧ out F W σ (vis F S1 σ H1) (rE cm X.K) Q (applyF Fn (arr as []) S1)) I
      (tG_bind e1 e2 R h fun vs H1 as S1 R1 s1 p1 h1 => ?_)) fun us s1 ⟨vs, H1, I1, r, as, S1, R1, p1, hl, h1⟩ => ⟨I1.kIn, ?_⟩) he hpl) hdb)⟩
  · have h1' : out F W σ (vis F S1 σ H1) (rE cm X.K) Q (if as.length = n ∧ ([] : List AV).length = 0 then applyF Fn (arr as []) S1 else .bad) := h1
    by_cases hz : as.length = n
    · rw [if_pos ⟨hz, rfl⟩] at h1'
      exact ⟨as, S1, R1, p1, hz, h1'⟩
    · rw [if_neg fun z => hz z.1] at h1'; exact h1'.elim
  · have lv : vs.length = n := by rw [AvsOk.length p1]; exact hl
    exact run_g (us := us) (kw := []) Fk hr hgd tk I1 (hb.to s1 us [] I1.kIn (by rw [← r.length]; exact lv) rfl) (hb.rel r .nil) (apply_ok e1 e2 R1 (hA.ok lv rfl p1 .nil) h1)
/-- f(e, .., k = v, ..) -/
theorem ge_callFK (Fk : FnG X.prog X.w X.K X.mg X.base (L2.CX X.prog X.w) k f fd ps (spF cm X.K Fn)) (hr : Room k X.A) (hgd : X.A.guards = some []) (tk : Takes X W) (hg : Gl X x) (hm : X.mg x = some (.ref f)) (hk : PySem.W.keepIn X.K (.ref f) = true) (hb : ∃ g, KBn X.K fd ps n ks g gV) (hA : Arr n ks.length gV arr)
    (ha : PA X (e :: es) (tAv cm X.K W mr)) (hkw : PK X kwl (tAv cm X.K W mk)) (hall : (backToKw pos (keywordEach kwl X.env)).all (·.1.isSome) = true := by rfl) (hks : (backToKw pos (keywordEach kwl X.env)).filterMap (·.1) = ks := by rfl)
    (hdb : (x == ("__debug__" : Str)) = false := by decide) (he : starEach (e :: es) X.env = (false, eval e X.env) :: starEach es X.env := by rfl)
    (hpl : ((backTo pos (starEach (e :: es) X.env)).any (·.1) || (backToKw pos (keywordEach kwl X.env)).any (·.1.isNone)) = false := by rfl) :
    PE X (.Call (.Name x p) (e :: es) kwl pos) (tE cm X.K W (mCallF Fn n ks.length arr mr mk)) := by
  obtain ⟨g, hb⟩ := hb
  refine ⟨fun pins s σ H Q I ⟨F, S, e1, e2, R, h⟩ => wpAny_Call_Name_kw (ld_glob I hg hm (PySem.W.callWith_KW (h₀ := X.base) I.ok.mod.kin hk hall (thn (ha.run pos pins s σ H (fun vs H1 => ∃ as S1, Rel F S1 σ H1 ∧ AvsOk cm X.K σ (vis F S1 σ H1) vs as ∧ out F W σ (vis F S1 σ H1) (rE cm X.K) Q ((mk S1).bind fun bs S2 => if as.length = n ∧ bs.length = ks.length then applyF Fn (arr as bs) S2 else .bad)) I
      (tG_bind e1 e2 R h fun vs H1 as S1 R1 s1 p1 h1 => ⟨as, S1, R1, p1, h1⟩)) fun us s1 ⟨vs, H1, I1, r, as, S1, R1, p1, h1⟩ =>
        thn (hkw.run pos pins s1 σ H1 (fun zs H2 => ∃ bs S2, Rel F S2 σ H2 ∧ AvsOk cm X.K σ (vis F S2 σ H2) vs as ∧ AvsOk cm X.K σ (vis F S2 σ H2) zs bs ∧ (as.length = n ∧ bs.length = ks.length) ∧ out F W σ (vis F S2 σ H2) (rE cm X.K) Q (applyF Fn (arr as bs) S2)) I1 (tG_bind e1 e2 R1 h1 fun zs H2 bs S2 R2 s2 p2 h2 => ?_)) fun ws s2 ⟨zs, H2, I2, rz, bs, S2, R2, q1, q2, hl, h2⟩ => ⟨I2.kIn, ?_⟩) hpl he) hdb)⟩
  · by_cases hz : as.length = n ∧ bs.length = ks.length
    · rw [if_pos hz] at h2
      exact ⟨bs, S2, R2, AvsOk.mono s2 p1, p2, hz, h2⟩
    · rw [if_neg hz] at h2; exact h2.elim
  · rw [hks]
    have lv : vs.length = n := by rw [AvsOk.length q1]; exact hl.1
    have lz : zs.length = ks.length := by rw [AvsOk.length q2]; exact hl.2
    exact run_g Fk hr hgd tk I2 (hb.to s2 us ws I2.kIn (by rw [← r.length]; exact lv) (by rw [← rz.length]; exact lz)) (hb.rel r rz) (apply_ok e1 e2 R2 (hA.ok lv lz q1 q2) h2)

/-! ### new objects -/
/-- C(..): __init__ gets a new instance of the class -/
def makeF (c : Str) (Fn : List FA → RF) (fs : List FA) (S : Sg) : Rs Dat := match Fn (.own (.obj c []) :: fs) with
  | .ok .non [.obj c' gs] => if c' = c then .ok (.ins c gs) S else .bad
  | .exc c' es [_] => .exc c' es S
  | _ => .bad
def datsOf : List AV → Option (List FA)
  | [] => some []
  | .dat d :: r => match datsOf r with
    | some fs => some (.dat d :: fs)
    | none => none
  | _ => none
def mMake (c : Str) (Fn : List FA → RF) (n m : Nat) (arr : List AV → List AV → List AV) (ma mk : MAv) : ME := fun S => (ma S).bind fun as S1 => (mk S1).bind fun bs S2 => if as.length = n ∧ bs.length = m then (match datsOf (arr as bs) with
  | some fs => makeF c Fn fs S2
  | none => .bad) else .bad
theorem dats_ok {K : PySem.W.Frag} {σ : L2.St} {G H : Hp} : ∀ {vs : List V} {as : List AV} {fs : List FA}, AvsOk cm K σ G vs as → datsOf as = some fs → ArgsOk cm K G H vs fs []
  | _, _, _, .nil, h => by cases h; exact .nil
  | _, _, _, .dat (as := as) a b, h => by
    unfold datsOf at h
    cases hf : datsOf as with
    | none => rw [hf] at h; cases h
    | some q => rw [hf] at h; cases h; exact .dat a (dats_ok b hf)
  | _, _, _, .slot a b, h => by cases h
theorem ArgsOk.mono0 {K : PySem.W.Frag} {G H G' H' : Hp} (e : Same G G') : ∀ {vs : List V} {fs : List FA}, ArgsOk cm K G H vs fs [] → ArgsOk cm K G' H' vs fs []
  | _, _, .nil => .nil
  | _, _, .dat a b => .dat (a.mono e) (ArgsOk.mono0 e b)
theorem make_ok {c : Str} {F : Fm} {S : Sg} {σ : L2.St} {H : Hp} {K : PySem.W.Frag} {vs : List V} {fs : List FA} {Q : VK} (e1 : F.cm = cm) (e2 : F.K = K) (R : Rel F S σ H) (av : ArgsOk cm K (vis F S σ H) H vs fs []) (h : out F W σ (vis F S σ H) (rE cm K) Q (makeF c Fn fs S)) (x dx : Addr) (hx : H x = none) (hdx : H dx = none) (hne : dx ≠ x) :
    spF cm K Fn (.ref x :: vs) (upd (upd H dx (.own x)) x (.ins (cm c) dx [])) (fun v H2 => v = .non ∧ Q (.ref x) H2) (WE W σ) := by
  have hx1 : (upd H dx (.own x)) x = none := by rw [upd_ne (Ne.symm hne)]; exact hx
  have s1 : Same H (upd (upd H dx (.own x)) x (.ins (cm c) dx [])) := (same_new hdx).trans (same_new hx1)
  have fr := R.fresh hx
  have gM : Same (vis F S σ H) (hid (x :: (F.M ++ locs S σ)) (upd (upd H dx (.own x)) x (.ins (cm c) dx []))) := fun a o q => by
    unfold vis at q
    by_cases ha : a ∈ F.M ++ locs S σ
    · rw [hid_in ha] at q; cases q
    · rw [hid_out ha] at q
      have hax : a ≠ x := ne_of_none q hx
      rw [hid_out fun z => (List.mem_cons.mp z).elim hax ha]
      exact s1 a o q
  have lv : live (x :: (F.M ++ locs S σ)) (upd (upd H dx (.own x)) x (.ins (cm c) dx [])) := fun m hm => by
    rcases List.mem_cons.mp hm with e | e
    · rw [e, upd_same]; simp
    · exact upd_some (upd_some (R.hlive e))
  refine ⟨x :: (F.M ++ locs S σ), .own (.obj c []) :: fs, [x], lv, fun l hl => by rw [List.mem_singleton.mp hl]; exact List.mem_cons_self .., List.nodup_cons.mpr ⟨by simp, List.nodup_nil⟩, .own (.obj upd_same .nil) (ArgsOk.mono0 gM av), ?_⟩
  have keepH : ∀ {H' : Hp}, (∀ a o, (upd (upd H dx (.own x)) x (.ins (cm c) dx [])) a = some o → a ∉ [x] → H' a = some o) → Same H H' := fun kp a o q => kp a o (s1 a o q) fun z => ne_of_none q hx (List.mem_singleton.mp z)
  unfold makeF at h
  cases hF : Fn (.own (.obj c []) :: fs) with
  | bad => rw [hF] at h; exact h
  | exc c' es outs =>
    rw [hF] at h
    intro da gs H' kp oo hda rg
    cases outs with
    | nil => cases oo
    | cons o1 r =>
      cases r with
      | cons _ _ => cases oo with
        | cons _ b => cases b
      | nil =>
        dsimp only at h
        have sm := keepH kp
        have z := h da gs H' (R.grow sm) (vis_grow sm) (hid_sub (fun a ha => List.mem_cons_of_mem _ ha) _ _ hda) (by rw [e1, e2]; exact rg.mono (hid_sub fun a ha => List.mem_cons_of_mem _ ha))
        rw [e1] at z
        exact z
  | ok d outs =>
    rw [hF] at h
    cases d with
    | non =>
      intro v H' kp oo rv
      cases rv
      refine ⟨rfl, ?_⟩
      cases outs with
      | nil => cases oo
      | cons o1 r =>
        cases r with
        | cons _ _ => cases oo with
          | cons _ b => cases b
        | nil =>
          cases o1 with
          | lst _ => exact False.elim h
          | obj c' gs =>
            dsimp only at h
            by_cases hz : c' = c
            · rw [if_pos hz] at h
              subst hz
              have sm := keepH kp
              refine h (.ref x) H' (R.grow sm) (vis_grow sm) ?_
              cases oo with
              | cons ok _ =>
                cases ok with
                | obj hh hr => exact .ins (by unfold vis; rw [hid_out fr]; exact hh) (hr.mono (hid_sub fun a ha => List.mem_cons_of_mem _ ha))
            · rw [if_neg hz] at h; exact h.elim
    | _ => exact False.elim h
theorem run_mk {sp : Sp} {C : Addr} {pins : List (Addr × Obj)} {σ : L2.St} {H : Hp} {s : Shared} {Q : VK} {us : List Value} {kw : List (Str × Value)} {xs : Addr → List V} (M : Mk X.K C f) (Fk : FnG X.prog X.w X.K X.mg X.base (L2.CX X.prog X.w) k f fd ps sp) (hr : Room (k + 1) X.A) (hgd : X.A.guards = some []) (tk : Takes X W)
    (I : L2.Inv X pins σ H s) (hb : ∀ (s' : Shared) (a : Addr), X.K.In s'.heap → ∃ ys, BindsTo s' fd ⟨.ref a :: us, kw⟩ (ps.zip ys) ∧ Vals (xs a) ys)
    (h : ∀ x dx, H x = none → H dx = none → dx ≠ x → sp (xs x) (upd (upd H dx (.own x)) x (.ins C dx [])) (fun v H2 => v = .non ∧ Q (.ref x) H2) (WE W σ)) : wpAny (model X.prog X.w) X.A (call (.ref C) us kw) (EP X pins σ Q) X.xe s := by
  have hq := h (s.heap.objs.size + 1) s.heap.objs.size (I.hok.fresh (Nat.le_succ _)) (I.hok.fresh (Nat.le_refl _)) (Nat.ne_of_lt (Nat.lt_succ_self _))
  have I2 := L2.Inv.made (C := C) I
  obtain ⟨ys, hbi, r⟩ := hb _ (s.heap.objs.size + 1) I2.kIn
  have gd : (X.A.under (.builtin "type.__call__" ⟨.ref C :: us, kw⟩)).guards = some [] := by
    simp [Around.under, Code.guards, Code.isGuard, guardIds, hgd, pushGuards]
  refine wpAny_call (make_map (f := f) I.kIn M.makes M.init (beq_iff_eq.mp M.fn) (codeAny_mono (Fk.run _ X.stack _ _ ⟨Value.ref (s.heap.objs.size + 1) :: us, kw⟩ ys _ _ (WE W σ) (hr.make C us kw) gd (I2.env0.make C us kw) hbi r hq) fun res s' hq' => ?_))
  rcases res with e | fl
  · exact passAt tk σ pins _ _ e s' I2 hq'
  · rcases fl with _ | _ | _ | u
    · exact False.elim hq'
    · exact False.elim hq'
    · exact False.elim hq'
    · obtain ⟨v, H', I3, rv, ev, q3⟩ := I2.after hq'
      subst ev
      exact ⟨rv, ⟨V.ref (s.heap.objs.size + 1), H', I3, rfl, q3⟩⟩
end
end Mir

/-! MirK: objects, isinstance, texts -/
namespace Mir
open PySem PySem.Spec L2

/-- what the written part says of a class of the program -/
structure ClsF (K : PySem.W.Frag) (C : Addr) : Prop where
  cl : Cls K C
  kc : PySem.W.findIn K (.ref C) "__class__" = some (some (.builtin "object.__class__"))
  sp : PySem.W.specialIn K (.builtin "object.__class__") "__get__" = some (some (.builtin "getset_descriptor.__get__"))
  tk : PySem.W.takesIn K (.builtin "object.__class__") = some true
  mo : PySem.W.mroIn K C (.type "object") = some true

section
variable {X : Cx} {cm : CM} {W : WX} {e o : Expr} {es : List Expr} {ma : ME} {mr mk : MAv} {pos p : Pos} {kwl : List Keyword} {k n m : Nat} {f : Addr} {fd : FuncData} {ps ks : List Str} {Fn : List FA → RF} {x c nm : Str} {gV gW : List V → List V → List V} {arr : List AV → List AV → List AV}
theorem outMk {F : Fm} {S1 S2 : Sg} {σ : L2.St} {H2 : Hp} {Q : VK} {as bs : List AV} {K : PySem.W.Frag} (h2 : out F W σ (vis F S2 σ H2) (rE cm K) Q (if as.length = n ∧ bs.length = m then (match datsOf (arr as bs) with | some fs => makeF c Fn fs S2 | none => .bad) else .bad)) :
    (as.length = n ∧ bs.length = m) ∧ ∃ fs, datsOf (arr as bs) = some fs ∧ out F W σ (vis F S2 σ H2) (rE cm K) Q (makeF c Fn fs S2) := by
  by_cases hz : as.length = n ∧ bs.length = m
  · rw [if_pos hz] at h2
    cases hd : datsOf (arr as bs) with
    | none => rw [hd] at h2; exact h2.elim
    | some fs => rw [hd] at h2; exact ⟨hz, fs, rfl, h2⟩
  · rw [if_neg hz] at h2; exact h2.elim
/-- C(e, ..) -/
theorem ge_make (M : Mk X.K (cm c) f) (Fk : FnG X.prog X.w X.K X.mg X.base (L2.CX X.prog X.w) k f fd ps (spF cm X.K Fn)) (hr : Room (k + 1) X.A) (hgd : X.A.guards = some []) (tk : Takes X W) (hg : Gl X x) (hm : X.mg x = some (.ref (cm c))) (hb : ∃ g, KBn X.K fd ps (n + 1) [] g gV) (hS : ∀ a vs zs, gV (.ref a :: vs) zs = .ref a :: gW vs zs) (hA : Arr n 0 gW arr)
    (ha : PA X (e :: es) (tAv cm X.K W mr)) (hdb : (x == ("__debug__" : Str)) = false := by decide) (he : starEach (e :: es) X.env = (false, eval e X.env) :: starEach es X.env := by rfl) (hpl : (backTo pos (starEach es X.env)).any (·.1) = false := by rfl) :
    PE X (.Call (.Name x p) (e :: es) [] pos) (tE cm X.K W (mMake c Fn n 0 arr mr vNil)) := by
  obtain ⟨g, hb⟩ := hb
  refine ⟨fun pins s σ H Q I ⟨F, S, e1, e2, R, h⟩ => wpAny_Call_Name_kw (ld_glob I hg hm (PySem.W.callWith_K (h₀ := X.base) I.ok.mod.kin M.kp (thn (ha.run pos pins s σ H (fun vs H1 => ∃ as S1, Rel F S1 σ H1 ∧ AvsOk cm X.K σ (vis F S1 σ H1) vs as ∧ out F W σ (vis F S1 σ H1) (rE cm X.K) Q (if as.length = n ∧ ([] : List AV).length = 0 then (match datsOf (arr as []) with | some fs => makeF c Fn fs S1 | none => .bad) else .bad)) I
      (tG_bind e1 e2 R h fun vs H1 as S1 R1 s1 p1 h1 => ⟨as, S1, R1, p1, h1⟩)) fun us s1 ⟨vs, H1, I1, r, as, S1, R1, p1, h1⟩ => ⟨I1.kIn, ?_⟩) he hpl) hdb)⟩
  obtain ⟨hz, fs, hd, h1⟩ := outMk (S1 := S1) (bs := []) h1
  have lv : vs.length = n := by rw [AvsOk.length p1]; exact hz.1
  refine run_mk (us := us) (kw := []) (xs := fun a => .ref a :: gW vs []) M Fk hr hgd tk I1 (fun s' a kin => ⟨g (.ref a :: us) [], hb.to s' (.ref a :: us) [] kin (by rw [List.length_cons, ← r.length, lv]) rfl, ?_⟩) (make_ok e1 e2 R1 (dats_ok (hA.ok lv rfl p1 .nil) hd) h1)
  rw [← hS a vs []]
  exact hb.rel (.cons rfl r) .nil
/-- C(e, .., k = v, ..) -/
theorem ge_makeK (M : Mk X.K (cm c) f) (Fk : FnG X.prog X.w X.K X.mg X.base (L2.CX X.prog X.w) k f fd ps (spF cm X.K Fn)) (hr : Room (k + 1) X.A) (hgd : X.A.guards = some []) (tk : Takes X W) (hg : Gl X x) (hm : X.mg x = some (.ref (cm c))) (hb : ∃ g, KBn X.K fd ps (n + 1) ks g gV) (hS : ∀ a vs zs, gV (.ref a :: vs) zs = .ref a :: gW vs zs) (hA : Arr n ks.length gW arr)
    (ha : PA X (e :: es) (tAv cm X.K W mr)) (hkw : PK X kwl (tAv cm X.K W mk)) (hall : (backToKw pos (keywordEach kwl X.env)).all (·.1.isSome) = true := by rfl) (hks : (backToKw pos (keywordEach kwl X.env)).filterMap (·.1) = ks := by rfl)
    (hdb : (x == ("__debug__" : Str)) = false := by decide) (he : starEach (e :: es) X.env = (false, eval e X.env) :: starEach es X.env := by rfl)
    (hpl : ((backTo pos (starEach (e :: es) X.env)).any (·.1) || (backToKw pos (keywordEach kwl X.env)).any (·.1.isNone)) = false := by rfl) :
    PE X (.Call (.Name x p) (e :: es) kwl pos) (tE cm X.K W (mMake c Fn n ks.length arr mr mk)) := by
  obtain ⟨g, hb⟩ := hb
  refine ⟨fun pins s σ H Q I ⟨F, S, e1, e2, R, h⟩ => wpAny_Call_Name_kw (ld_glob I hg hm (PySem.W.callWith_KW (h₀ := X.base) I.ok.mod.kin M.kp hall (thn (ha.run pos pins s σ H (fun vs H1 => ∃ as S1, Rel F S1 σ H1 ∧ AvsOk cm X.K σ (vis F S1 σ H1) vs as ∧ out F W σ (vis F S1 σ H1) (rE cm X.K) Q ((mk S1).bind fun bs S2 => if as.length = n ∧ bs.length = ks.length then (match datsOf (arr as bs) with | some fs => makeF c Fn fs S2 | none => .bad) else .bad)) I
      (tG_bind e1 e2 R h fun vs H1 as S1 R1 s1 p1 h1 => ⟨as, S1, R1, p1, h1⟩)) fun us s1 ⟨vs, H1, I1, r, as, S1, R1, p1, h1⟩ =>
        thn (hkw.run pos pins s1 σ H1 (fun zs H2 => ∃ bs S2, Rel F S2 σ H2 ∧ AvsOk cm X.K σ (vis F S2 σ H2) vs as ∧ AvsOk cm X.K σ (vis F S2 σ H2) zs bs ∧ out F W σ (vis F S2 σ H2) (rE cm X.K) Q (if as.length = n ∧ bs.length = ks.length then (match datsOf (arr as bs) with | some fs => makeF c Fn fs S2 | none => .bad) else .bad)) I1 (tG_bind e1 e2 R1 h1 fun zs H2 bs S2 R2 s2 p2 h2 => ⟨bs, S2, R2, AvsOk.mono s2 p1, p2, h2⟩)) fun ws s2 ⟨zs, H2, I2, rz, bs, S2, R2, q1, q2, h2⟩ => ⟨I2.kIn, ?_⟩) hpl he) hdb)⟩
  rw [hks]
  obtain ⟨hz, fs, hd, h2⟩ := outMk (S1 := S1) h2
  have lv : vs.length = n := by rw [AvsOk.length q1]; exact hz.1
  have lz : zs.length = ks.length := by rw [AvsOk.length q2]; exact hz.2
  refine run_mk (us := us) (xs := fun a => .ref a :: gW vs zs) M Fk hr hgd tk I2 (fun s' a kin => ⟨g (.ref a :: us) ws, hb.to s' (.ref a :: us) ws kin (by rw [List.length_cons, ← r.length, lv]) (by rw [← rz.length]; exact lz), ?_⟩) (make_ok e1 e2 R2 (dats_ok (hA.ok lv lz q1 q2) hd) h2)
  rw [← hS a vs zs]
  exact hb.rel (.cons rfl r) rz
/-- C(k = v, ..) -/
theorem ge_makeK0 (M : Mk X.K (cm c) f) (Fk : FnG X.prog X.w X.K X.mg X.base (L2.CX X.prog X.w) k f fd ps (spF cm X.K Fn)) (hr : Room (k + 1) X.A) (hgd : X.A.guards = some []) (tk : Takes X W) (hg : Gl X x) (hm : X.mg x = some (.ref (cm c))) (hb : ∃ g, KBn X.K fd ps 1 ks g gV) (hS : ∀ a vs zs, gV (.ref a :: vs) zs = .ref a :: gW vs zs) (hA : Arr 0 ks.length gW arr)
    (hkw : PK X kwl (tAv cm X.K W mk)) (hall : (backToKw pos (keywordEach kwl X.env)).all (·.1.isSome) = true := by rfl) (hks : (backToKw pos (keywordEach kwl X.env)).filterMap (·.1) = ks := by rfl)
    (hdb : (x == ("__debug__" : Str)) = false := by decide) (hpl : ((backTo pos (starEach [] X.env)).any (·.1) || (backToKw pos (keywordEach kwl X.env)).any (·.1.isNone)) = false := by rfl) :
    PE X (.Call (.Name x p) [] kwl pos) (tE cm X.K W (mMake c Fn 0 ks.length arr vNil mk)) := by
  obtain ⟨g, hb⟩ := hb
  refine ⟨fun pins s σ H Q I ⟨F, S, e1, e2, R, h⟩ => wpAny_Call_Name_kw (ld_glob I hg hm (PySem.W.callWith_KW0 (h₀ := X.base) I.ok.mod.kin M.kp hall (thn (hkw.run pos pins s σ H (fun zs H2 => ∃ bs S2, Rel F S2 σ H2 ∧ AvsOk cm X.K σ (vis F S2 σ H2) zs bs ∧ out F W σ (vis F S2 σ H2) (rE cm X.K) Q (if ([] : List AV).length = 0 ∧ bs.length = ks.length then (match datsOf (arr [] bs) with | some fs => makeF c Fn fs S2 | none => .bad) else .bad)) I
      (tG_bind e1 e2 R h fun zs H2 bs S2 R2 s2 p2 h2 => ⟨bs, S2, R2, p2, h2⟩)) fun ws s2 ⟨zs, H2, I2, rz, bs, S2, R2, q2, h2⟩ => ⟨I2.kIn, ?_⟩) hpl) hdb)⟩
  rw [hks]
  obtain ⟨hz, fs, hd, h2⟩ := outMk (S1 := S2) (as := []) h2
  have lz : zs.length = ks.length := by rw [AvsOk.length q2]; exact hz.2
  refine run_mk (us := []) (xs := fun a => .ref a :: gW [] zs) M Fk hr hgd tk I2 (fun s' a kin => ⟨g [.ref a] ws, hb.to s' [.ref a] ws kin rfl (by rw [← rz.length]; exact lz), ?_⟩) (make_ok e1 e2 R2 (dats_ok (hA.ok rfl lz .nil q2) hd) h2)
  rw [← hS a [] zs]
  exact hb.rel (.cons rfl .nil) rz

/-! ### attributes -/
def fldD (cs : List Str) (nm : Str) : Dat → Option Dat
  | .ins c fs => if cs.contains c then fs.lookup nm else none
  | _ => none
theorem ge_fld {cs : List Str} (hc : ∀ c, c ∈ cs → Cls X.K (cm c) ∧ NoAttr X.K (cm c) nm) (he : PE X e (tE cm X.K W ma)) (hab : attributeBase e nm X.env (eval e X.env) = eval e X.env := by rfl) : PE X (.Attribute e nm pos) (tE cm X.K W (m1 (fldD cs nm) ma)) :=
  PE.weak (pe_fld he hab) fun σ H Q ⟨F, S, e1, e2, R, h⟩ => tG_bind e1 e2 R h fun x H1 da S1 R1 s1 p1 h1 => by
    obtain ⟨d, hd, hq⟩ := out_of R1 h1
    cases p1 with
    | @ins a dx c gs fs hh hr =>
      unfold fldD at hd
      dsimp only at hd
      by_cases hz : cs.contains c = true
      · rw [if_pos hz] at hd
        obtain ⟨k1, k2⟩ := hc c (by simpa using hz)
        obtain ⟨v, hv, rv⟩ := hr.lookup hd
        exact ⟨a, _, dx, gs, v, rfl, hid_le _ _ hh, k1, k2, hv, hq _ H1 (Same.refl _) rv⟩
      · rw [if_neg hz] at hd; cases hd
    | _ => cases hd
/-- self.f, self lent -/
def mFldO (cs : List Str) (i : Nat) (nm : Str) : ME := fun S => match S[i]? with
  | some (.own _ (.obj c fs)) => if cs.contains c then Rs.of (fs.lookup nm) S else .bad
  | _ => .bad
theorem ge_fldO {cs : List Str} {i : Nat} (hc : ∀ c, c ∈ cs → Cls X.K (cm c) ∧ NoAttr X.K (cm c) nm) (ho : PE X o (tVar i)) (hab : attributeBase o nm X.env (eval o X.env) = eval o X.env := by rfl) : PE X (.Attribute o nm pos) (tE cm X.K W (mFldO cs i nm)) :=
  PE.weak (pe_fld ho hab) fun σ H Q ⟨F, S, e1, e2, R, h⟩ => by
    unfold mFldO at h
    cases hs : S[i]? with
    | none => rw [hs] at h; exact h.elim
    | some s =>
      rw [hs] at h
      have hl : i < σ.length := by rw [← R.len]; exact (List.getElem?_eq_some_iff.mp hs).1
      have hv : σ[i]? = some σ[i] := List.getElem?_eq_getElem hl
      have q := R.sl i s _ hs hv
      generalize σ[i] = w at hv q
      cases q with
      | own e0 ok =>
        cases ok with
        | lst _ _ => exact False.elim h
        | @obj c dx gs fs hh hr =>
          dsimp only at h
          by_cases hz : cs.contains c = true
          · rw [if_pos hz] at h
            obtain ⟨d, hd, h1⟩ := out_of R h
            obtain ⟨k1, k2⟩ := hc c (by simpa using hz)
            obtain ⟨v, hvv, rv⟩ := hr.lookup hd
            exact ⟨_, hv, _, _, dx, gs, v, rfl, by rw [← e1]; exact hh, k1, k2, hvv, h1 _ H (Same.refl _) (by rw [← e1, ← e2]; exact rv)⟩
          · rw [if_neg hz] at h; exact h.elim
      | _ => exact False.elim h
/-- self.f = e, self lent -/
def stF (cs : List Str) (i : Nat) (nm : Str) (d : Dat) (S : Sg) : Rs Unit := match S[i]? with
  | some (.own j (.obj c fs)) => if cs.contains c ∧ fs.length < 1000 then .ok () (S.set i (.own j (.obj c (putD nm d fs)))) else .bad
  | _ => .bad
def mStF (cs : List Str) (i : Nat) (nm : Str) (m : ME) : MS := fun S => (m S).bind fun d S1 => (stF cs i nm d S1).bind fun _ S2 => .ok .nx S2
theorem st_ok {cs : List Str} {i : Nat} (hc : ∀ c, c ∈ cs → Cls X.K (cm c) ∧ NoAttr X.K (cm c) nm) {F : Fm} {S : Sg} {σ : L2.St} {H : Hp} {v : V} {d : Dat} {r : Rs Unit} (e1 : F.cm = cm) (e2 : F.K = X.K) (R : Rel F S σ H) (rv : Rp cm X.K (vis F S σ H) v d) (hr : stF cs i nm d S = r) (hb : r ≠ .bad) :
    ∃ a C dx fs S', r = .ok () S' ∧ σ[i]? = some (some (.ref a)) ∧ H a = some (.ins C dx fs) ∧ Cls X.K C ∧ NoAttr X.K C nm ∧ fs.length < 1000 ∧ Rel F S' σ (upd H a (.ins C dx (putF nm v fs))) ∧ Same (vis F S σ H) (vis F S' σ (upd H a (.ins C dx (putF nm v fs)))) := by
  unfold stF at hr
  cases hs : S[i]? with
  | none => rw [hs] at hr; exact absurd hr.symm hb
  | some s =>
    rw [hs] at hr
    have hl : i < σ.length := by rw [← R.len]; exact (List.getElem?_eq_some_iff.mp hs).1
    have hv : σ[i]? = some σ[i] := List.getElem?_eq_getElem hl
    have q := R.sl i s _ hs hv
    generalize σ[i] = w at hv q
    cases q with
    | no => exact absurd hr.symm hb
    | dat _ => exact absurd hr.symm hb
    | exn _ _ _ => exact absurd hr.symm hb
    | loc _ _ => exact absurd hr.symm hb
    | own e0 ok =>
      cases ok with
      | lst _ _ => exact absurd hr.symm hb
      | @obj c dx gs fs hh hrf =>
        dsimp only at hr
        by_cases hz : cs.contains c = true ∧ fs.length < 1000
        · rw [if_pos hz] at hr
          obtain ⟨k1, k2⟩ := hc c (by simpa using hz.1)
          obtain ⟨R', s'⟩ := R.setOwn (u := .obj c (putD nm d fs)) (ho := .ins (cm c) dx (putF nm v gs)) hs hv e0 (.obj (by rw [upd_same, e1]) (hrf.put (by rw [e1, e2]; exact rv)))
          exact ⟨_, _, dx, gs, _, hr.symm, hv, by rw [← e1]; exact hh, k1, k2, by rw [hrf.length]; exact hz.2, R', s'⟩
        · rw [if_neg hz] at hr; exact absurd hr.symm hb
theorem gs_fld {cs : List Str} {i : Nat} {pos' : Pos} (hc : ∀ c, c ∈ cs → Cls X.K (cm c) ∧ NoAttr X.K (cm c) nm) (ho : PE X o (tVar i)) (he : PE X e (tE cm X.K W ma)) (hs : swapsWith e (some (.Attribute o nm pos')) pos.line X.env = pure false := by rfl) :
    PS X (.Assign [.Attribute o nm pos'] e pos) (tS cm X.K W (mStF cs i nm ma)) :=
  PS.weak (ps_fld ho he hs) fun D σ H ⟨F, S, e1, e2, R, h⟩ => tG_bindS e1 e2 R h fun x H1 da S1 R1 s1 p1 h1 => by
    cases hr : stF cs i nm da S1 with
    | bad => rw [hr] at h1; exact h1.elim
    | exc c fs S2 =>
      exfalso
      obtain ⟨_, _, _, _, _, z, _⟩ := st_ok hc e1 e2 R1 p1 hr (fun z => by cases z)
      cases z
    | ok u S2 =>
      obtain ⟨a, C, dx, fs, S', z, b1, b2, b3, b4, b5, b6, b7⟩ := st_ok hc e1 e2 R1 p1 hr (fun z => by cases z)
      cases z
      rw [hr] at h1
      exact ⟨_, b1, a, C, dx, fs, rfl, b2, b3, b4, b5, h1 σ _ b6 b7⟩
/-! ### properties and methods -/
def mProp (cs : List Str) (Fn : List FA → RF) (m : ME) : ME := fun S => (m S).bind fun d S1 => match d with
  | .ins c fs => if cs.contains c then (applyF Fn [.dat (.ins c fs)] S1).calm else .bad
  | _ => .bad
theorem ge_prop {cs : List Str} {g : Addr} (hc : ∀ c, c ∈ cs → Cls X.K (cm c) ∧ ∃ p, PropOf X.K (cm c) nm p g) (Fk : FnG X.prog X.w X.K X.mg X.base (L2.CX X.prog X.w) k g fd ["self"] (spF cm X.K Fn)) (hr : Room (k + 1) X.A) (hgd : X.A.guards = some []) (hb : ∃ g', KBn X.K fd ["self"] 1 [] g' (fun vs _ => vs))
    (he : PE X e (tE cm X.K W ma)) (hab : attributeBase e nm X.env (eval e X.env) = eval e X.env := by rfl) : PE X (.Attribute e nm pos) (tE cm X.K W (mProp cs Fn ma)) := by
  obtain ⟨g', hb⟩ := hb
  refine ⟨fun pins s σ H Q I ⟨F, S, e1, e2, R, h⟩ => attr_of hab (thn (he.run pins s σ H (fun x H1 => ∃ a c dx gs fs S1, x = .ref a ∧ c ∈ cs ∧ H1 a = some (.ins (cm c) dx gs) ∧ Rel F S1 σ H1 ∧ Rp cm X.K (vis F S1 σ H1) (.ref a) (.ins c fs) ∧ out F W σ (vis F S1 σ H1) (rE cm X.K) Q (applyF Fn [.dat (.ins c fs)] S1).calm) I (tG_bind e1 e2 R h fun x H1 da S1 R1 s1 p1 h1 => ?_)) fun u s1 ⟨y, H1, I1, rx, a, c, dx, gs, fs, S1, ex, hcs, ea, R1, p1, h1⟩ => ?_)⟩
  · cases p1 with
    | @ins a dx c gs fs hh hr =>
      dsimp only at h1
      by_cases hz : cs.contains c = true
      · rw [if_pos hz] at h1
        exact ⟨a, c, dx, gs, fs, S1, rfl, by simpa using hz, hid_le _ _ hh, R1, .ins hh hr, h1⟩
      · rw [if_neg hz] at h1; exact h1.elim
    | _ => exact False.elim h1
  · subst ex
    obtain rfl : u = Value.ref a := rx
    obtain ⟨cl, p, hp⟩ := hc c hcs
    obtain ⟨mA, O, _, _, _, _⟩ := ins_get I1.hok ea
    obtain ⟨od, J, _⟩ := O.look
    obtain ⟨rest, hrec⟩ := hp.rec_
    have I2 := I1.tok (s1.toks + 1)
    have hcl : (PySem.W.clsIn X.K (cm c)).isSome = true := by
      obtain ⟨cd, hcd, _⟩ := PySem.W.any_some cl.hd
      rw [hcd]
      rfl
    have h2 : out F W0 σ (vis F S1 σ H1) (rE cm X.K) Q (applyF Fn [.dat (.ins c fs)] S1) := by
      cases hA : applyF Fn [.dat (.ins c fs)] S1 with
      | bad => rw [hA] at h1; exact h1
      | exc _ _ _ => rw [hA] at h1; exact h1.elim
      | ok d S2 => rw [hA] at h1; exact h1
    have hsp := apply_ok (W := W0) e1 e2 R1 (.dat p1 .nil) h2
    refine PySem.W.get_bind I1.kIn J (PySem.W.plainGet_of (cl.get nm)).1 (PySem.W.findObj_data hcl hp.at_ hp.get hp.tak) (PySem.W.plainGet_of (cl.get nm)).2 (wpAny_call (PySem.W.prop_get (s := { s1 with toks := s1.toks + 1 }) I1.kIn hrec ?_))
    refine codeAny_mono (Fk.run X.A.in1 X.stack { s1 with toks := s1.toks + 1 } H1 ⟨[.ref a], []⟩ (g' [.ref a] []) [.ref a] Q (WE W0 σ) hr.in1 hgd I2.env0.in1 (hb.to _ [.ref a] [] I2.kIn rfl rfl) (hb.rel (vs := [.ref a]) (us := [.ref a]) (.cons rfl .nil) .nil) hsp) fun res s' hq => ?_
    rcases res with er | fl
    · obtain ⟨_, _, _, _, _, _, _, _, _, _, _, _, z⟩ := hq
      exact z.elim
    · rcases fl with _ | _ | _ | u
      · exact False.elim hq
      · exact False.elim hq
      · exact False.elim hq
      · obtain ⟨v, H', I3, rv, q3⟩ := I2.after hq
        show wpAny _ _ (handedOut u) _ _ _
        rw [PySem.W.handedOut_of (handed_of rv)]
        exact wpAny_pure ⟨v, H', I3, rv, q3⟩
end
end Mir

/-! MirL: isinstance, texts, methods -/
namespace Mir
open PySem PySem.Spec L2

/-- isinstance by tables: built-in types, own classes -/
def isiT (tab : List (String × Bool)) (ct : List (Str × Bool)) : Dat → Option Dat
  | .non => (tab.lookup "NoneType").map Dat.bl
  | .bl _ => (tab.lookup "bool").map Dat.bl
  | .int _ => (tab.lookup "int").map Dat.bl
  | .str _ => (tab.lookup "str").map Dat.bl
  | .lst _ => (tab.lookup "list").map Dat.bl
  | .tup _ => (tab.lookup "tuple").map Dat.bl
  | .dic _ => (tab.lookup "dict").map Dat.bl
  | .ins c _ => (ct.lookup c).map Dat.bl
  | .ro _ => none
def joinD : Dat → Dat → Option Dat
  | .str a, .lst ds => match strsOf ds with
    | some ys => if (ys.map (·.length)).sum + ys.length * a.length ≤ 16777216 then some (.str (Txt.join a ys)) else none
    | none => none
  | _, _ => none
def mJn (ma mb : ME) : ME := fun S => (ma S).bind fun a S1 => match a with
  | .str x => (mb S1).bind fun b S2 => Rs.of (joinD (.str x) b) S2
  | _ => .bad
/-- {x}, {x!r} -/
def fmtS : Dat → Option Str
  | .int i => if showI i then some (toString i) else none
  | .str x => if x.length ≤ sizeLine then some x else none
  | .non => some "None"
  | .bl b => some (if b then "True" else "False")
  | _ => none
def fmtC (d : Dat) : Option Dat := (fmtS d).map Dat.str
def fmtR (d : Dat) : Option Dat := (reprS d).map Dat.str
/-- the parts of an f-string -/
def joinM : List ME → Str → Sg → Rs Str
  | [], acc, S => .ok acc S
  | m :: ms, acc, S => (m S).bind fun d S1 => match d with
    | .str y => if (acc ++ y).length ≤ sizeLine then joinM ms (acc ++ y) S1 else .bad
    | _ => .bad
def mFStr (ms : List ME) : ME := fun S => (joinM ms Str.empty S).bind fun x S1 => .ok (.str x) S1
theorem mem_lookup {α β : Type} [BEq α] [LawfulBEq α] : ∀ {l : List (α × β)} {a : α} {b : β}, l.lookup a = some b → (a, b) ∈ l
  | [], a, b, h => by cases h
  | (x, y) :: l, a, b, h => by
    simp only [List.lookup] at h
    cases e : (a == x) with
    | true => rw [e] at h; cases h; rw [eq_of_beq e]; exact List.mem_cons_self ..
    | false => rw [e] at h; exact List.mem_cons_of_mem _ (mem_lookup h)
section
variable {X : Cx} {cm : CM} {W : WX} {a b e o : Expr} {es : List Expr} {ma mb : ME} {mr mk : MAv} {pos p : Pos} {kwl : List Keyword} {k n m : Nat} {f : Addr} {fd : FuncData} {ps ks : List Str} {Fn : List FA → RF} {x c nm : Str} {gV gW : List V → List V → List V} {arr : List AV → List AV → List AV}
theorem isi_ty {tab : List (String × Bool)} {ct : List (Str × Bool)} {u : Value} {G : Hp} {y : V} {d : Dat} {t : Bool} (ht : ∀ q, q ∈ tab → PySem.W.kitOne X.K (.type q.1) u = some q.2) (hc : ∀ q, q ∈ ct → ClsF X.K (cm q.1) ∧ PySem.W.kitOne X.K (.ref (cm q.1)) u = some q.2)
    (r : Rp cm X.K G y d) (h : isiT tab ct d = some (.bl t)) : ∃ ty, TyX X.K G y ty ∧ PySem.W.kitOne X.K ty u = some t := by
  have key : ∀ {T : String}, (tab.lookup T).map Dat.bl = some (.bl t) → PySem.W.kitOne X.K (.type T) u = some t := fun {T} h => by
    cases hl : tab.lookup T with
    | none => rw [hl] at h; cases h
    | some q =>
      rw [hl] at h
      have e : q = t := by injection h with h; injection h
      subst e
      exact ht (T, q) (mem_lookup hl)
  cases r with
  | non => exact ⟨_, .base .non, key h⟩
  | bl b => exact ⟨_, .base (.bl b), key h⟩
  | int i => exact ⟨_, .base (.int i), key h⟩
  | str z => exact ⟨_, .base (.str z), key h⟩
  | lst hh _ => exact ⟨_, .base (.lst hh), key h⟩
  | ro _ _ => cases h
  | tup hh _ =>
    refine ⟨.type "tuple", ?_, key h⟩
    rcases hh with (hh | ⟨ob, hh⟩) | ⟨ob, its, n, h1, h2, _⟩
    · exact .base (.tup hh)
    · exact .fTuple hh
    · exact .kTuple h1 h2
  | dic hh _ => exact ⟨_, .base (.dK hh), key h⟩
  | @ins a dx c gs fs hh _ =>
    have h' : (ct.lookup c).map Dat.bl = some (.bl t) := h
    cases hl : ct.lookup c with
    | none => rw [hl] at h'; cases h'
    | some q =>
      rw [hl] at h'
      have e : q = t := by injection h' with h'; injection h'
      subst e
      obtain ⟨c1, c2⟩ := hc (c, q) (mem_lookup hl)
      exact ⟨_, .base (.ins hh c1.cl c1.kc c1.sp c1.tk c1.mo), c2⟩
theorem tyX_mono {K : PySem.W.Frag} {G H : Hp} {y : V} {t : Value} (s : Same G H) (h : TyX K G y t) : TyX K H y t := by
  cases h with
  | base b =>
    refine .base ?_
    cases b with
    | non => exact .non
    | bl x => exact .bl x
    | int x => exact .int x
    | str x => exact .str x
    | flt x => exact .flt x
    | lst h => exact .lst (s _ _ h)
    | frz h => exact .frz (s _ _ h)
    | tup h => exact .tup (s _ _ h)
    | dK h => exact .dK (s _ _ h)
    | dT h => exact .dT (s _ _ h)
    | ins h a b c d e => exact .ins (s _ _ h) a b c d e
  | byt b => exact .byt b
  | set h => exact .set (s _ _ h)
  | kList a b => exact .kList a b
  | kTuple a b => exact .kTuple a b
  | kDict a b => exact .kDict a b
  | fTuple h => exact .fTuple (s _ _ h)
  | fDict h => exact .fDict (s _ _ h)
theorem isi_bl {tab : List (String × Bool)} {ct : List (Str × Bool)} {d r : Dat} (h : isiT tab ct d = some r) : ∃ t, r = .bl t := by
  have key : ∀ {o : Option Bool}, o.map Dat.bl = some r → ∃ t, r = .bl t := fun {o} h => by
    cases o with
    | none => cases h
    | some t => cases h; exact ⟨t, rfl⟩
  cases d <;> first | exact key h | cases h
/-- isinstance(e, T), T a name -/
theorem ge_isi {tab : List (String × Bool)} {ct : List (Str × Bool)} {cv : V} {u : Value} (hm : X.mg "isinstance" = none) (hg : Gl X "isinstance") (he : PE X e (tE cm X.K W ma)) (hT : PE X b (tC cv)) (hu : ClsV cv u) (ht : ∀ q, q ∈ tab → PySem.W.kitOne X.K (.type q.1) u = some q.2)
    (hc : ∀ q, q ∈ ct → ClsF X.K (cm q.1) ∧ PySem.W.kitOne X.K (.ref (cm q.1)) u = some q.2) (hv : bootBuiltins ("isinstance" : Str) = some (.builtin "isinstance") := by decide +kernel)
    (h1 : starEach [e, b] X.env = (false, eval e X.env) :: starEach [b] X.env := by rfl) (h2 : starEach [b] X.env = (false, eval b X.env) :: starEach [] X.env := by rfl) (hpl : (backTo pos (starEach [b] X.env)).any (·.1) = false := by rfl) :
    PE X (.Call (.Name "isinstance" p) [e, b] [] pos) (tE cm X.K W (m1 (isiT tab ct) ma)) :=
  PE.weak (pe_callB call_isi hg hm hv (pa_cons he (pa_cons hT pa_nil h2) h1) (by decide) (by decide) h1 hpl) fun σ H Q ⟨F, S, e1, e2, R, h⟩ => tG_bind e1 e2 R h fun x H1 da S1 R1 s1 p1 h1 => by
    obtain ⟨d, hd, hq⟩ := out_of R1 h1
    obtain ⟨t, rfl⟩ := isi_bl hd
    obtain ⟨ty, t1, t2⟩ := isi_ty ht hc p1 hd
    exact ⟨x, cv, ty, u, t, rfl, hu, tyX_mono hid_le t1, t2, hq _ H1 (Same.refl _) (.bl t)⟩
/-- sep.join(xs) -/
theorem ge_join {apos : Pos} (ho : PE X a (tE cm X.K W ma)) (he : PE X b (tE cm X.K W mb)) (hs : starEach [b] X.env = [(false, eval b X.env)] := by rfl) (hab : attributeBase a "join" X.env (eval a X.env) = eval a X.env := by rfl) (hl : (apos.endLine == pos.line) = true := by rfl) :
    PE X (.Call (.Attribute a "join" apos) [b] [] pos) (tE cm X.K W (mJn ma mb)) :=
  PE.weak (pe_join ho he hs hab hl) fun σ H Q ⟨F, S, e1, e2, R, h⟩ => tG_bind e1 e2 R h fun x H1 da S1 R1 s1 p1 h1 => by
    cases p1 with
    | str z =>
      refine ⟨⟨z, rfl⟩, tG_bind e1 e2 R1 h1 fun y H2 db S2 R2 s2 p2 h2 => ?_⟩
      obtain ⟨d, hd, hq⟩ := out_of R2 h2
      cases p2 with
      | @lst l vs ds hh hr =>
        unfold joinD at hd
        dsimp only at hd
        cases hy : strsOf ds with
        | none => rw [hy] at hd; cases hd
        | some ys =>
          rw [hy] at hd
          dsimp only at hd
          by_cases hz : (ys.map (·.length)).sum + ys.length * z.length ≤ 16777216
          · rw [if_pos hz] at hd; cases hd
            have ev := strs_rp hr hy
            subst ev
            exact ⟨z, l, ys, rfl, rfl, .inl (SqL.of (hid_le _ _ hh)), hz, hq _ H2 (Same.refl _) (.str _)⟩
          · rw [if_neg hz] at hd; cases hd
      | _ => cases hd
    | _ => exact False.elim h1
/-- {e} -/
theorem ge_fmt (he : PE X e (tE cm X.K W ma)) : PE X (.FormattedValue e (-1) none pos) (tE cm X.K W (m1 fmtC ma)) := by
  refine ⟨fun pins s σ H Q I ⟨F, S, e1, e2, R, h⟩ => wpAny_FormattedValue_plain (thn (he.run pins s σ H (fun x H1 => ∃ d z, Rp cm X.K (hid (F.M ++ locs S σ) H1) x d ∧ True ∧ fmtS d = some z ∧ Q (.str z) H1) I (tG_bind e1 e2 R h fun x H1 da S1 R1 s1 p1 h1 => ?_)) fun u s1 ⟨x, H1, I1, rx, d, z, p1, _, hz, q⟩ => ?_)⟩
  · obtain ⟨d, hd, hq⟩ := out_of R1 h1
    unfold fmtC at hd
    cases hf : fmtS da with
    | none => rw [hf] at hd; cases hd
    | some z =>
      rw [hf] at hd; cases hd
      have hq' := hq (.str z) H1 (Same.refl _) (.str z)
      -- a scalar is what it is in every heap
      have sc : Rp cm X.K (hid (F.M ++ locs S σ) H1) x da := by
        cases p1 with
        | non => exact .non
        | bl b => exact .bl b
        | int i => exact .int i
        | str i => exact .str i
        | _ => cases hf
      exact ⟨da, z, sc, trivial, hf, hq'⟩
  · cases p1 with
    | int i =>
      obtain ⟨t, rfl⟩ := rx
      unfold fmtS at hz
      dsimp only at hz
      by_cases hs : showI i = true
      · rw [if_pos hs] at hz; cases hz
        exact wpAny_formatField_int (of_decide_eq_true hs) ⟨.str (toString i), H1, I1.tok _, ⟨_, rfl⟩, q⟩
      · rw [if_neg hs] at hz; cases hz
    | str i =>
      obtain ⟨t, rfl⟩ := rx
      unfold fmtS at hz
      dsimp only at hz
      by_cases hs : i.length ≤ sizeLine
      · rw [if_pos hs] at hz; cases hz
        exact wpAny_formatField_str ⟨.str _, H1, I1, ⟨t, rfl⟩, q⟩ ⟨.str _, H1, I1.tok _, ⟨_, rfl⟩, q⟩ hs
      · rw [if_neg hs] at hz; cases hz
    | non =>
      obtain rfl : u = Value.none := rx
      cases hz
      exact wpAny_formatField_none ⟨.str _, H1, I1.tok _, ⟨_, rfl⟩, q⟩
    | bl b =>
      obtain rfl : u = Value.bool b := rx
      cases hz
      exact wpAny_formatField_bool ⟨.str _, H1, I1.tok _, ⟨_, rfl⟩, q⟩
    | _ => cases hz
/-- {e!r} -/
theorem ge_fmtR (hg : X.A.guards = some []) (hu : X.A.units + 64 < cLine) (he : PE X e (tE cm X.K W ma)) : PE X (.FormattedValue e 114 none pos) (tE cm X.K W (m1 fmtR ma)) := by
  refine ⟨fun pins s σ H Q I ⟨F, S, e1, e2, R, h⟩ => wpAny_FormattedValue_repr (thn (he.run pins s σ H (fun x H1 => ∃ d z M, Rp cm X.K (hid M H1) x d ∧ reprS d = some z ∧ Q (.str z) H1) I (tG_bind e1 e2 R h fun x H1 da S1 R1 s1 p1 h1 => ?_)) fun u s1 ⟨x, H1, I1, rx, d, z, M, p1, hz, q⟩ => ?_)⟩
  · obtain ⟨d, hd, hq⟩ := out_of R1 h1
    unfold fmtR at hd
    cases hf : reprS da with
    | none => rw [hf] at hd; cases hd
    | some z =>
      rw [hf] at hd; cases hd
      exact ⟨da, z, _, p1, hf, hq (.str z) H1 (Same.refl _) (.str z)⟩
  · unfold reprS at hz
    cases hp : toPy d with
    | none => rw [hp] at hz; cases hz
    | some py =>
      rw [hp] at hz
      obtain ⟨k1, k2, k3, k4, rfl⟩ := showP_ok hz
      have dp := dp_of (p1.mono hid_le) hp
      obtain ⟨as, rd⟩ := Dp.reads I1 py x u dp rx
      have fin : ∀ {s2 : Shared} {t : Tok}, L2.Inv X pins σ H1 s2 → wpAny (model X.prog X.w) X.A (formatField (.str py.shown t) Str.empty) (EP X pins σ Q) X.xe s2 := fun {s2 t} I2 =>
        wpAny_formatField_str ⟨.str py.shown, H1, I2, ⟨t, rfl⟩, q⟩ ⟨.str py.shown, H1, I2.tok _, ⟨_, rfl⟩, q⟩ k4
      have ref : ∀ a, u = .ref a → wpAny (model X.prog X.w) X.A (pyReprObj u) (fun r s₂ => wpAny (model X.prog X.w) X.A (formatField r Str.empty) (EP X pins σ Q) X.xe s₂) X.xe s1 := fun a ea => by
        subst ea
        exact pyReprObj_of_reads rd k1 (PyData.noDict_hsm k2) hg (by omega) (fun _ _ z => z) (fun h' t tk kk => fin (I1.kept kk)) k4
      cases dp with
      | non =>
        obtain rfl : u = Value.none := rx
        exact pyReprObj_none (fin (I1.tok _))
      | bl b =>
        obtain rfl : u = Value.bool b := rx
        have eb : PyData.shown (.bool b) = if b = true then Str.ofString "True" else Str.ofString "False" := by cases b <;> rfl
        have f2 := @fin
        rw [eb] at f2
        exact pyReprObj_bool (f2 (I1.tok _))
      | int i =>
        obtain ⟨t, rfl⟩ := rx
        exact pyReprObj_int (of_decide_eq_true (by simpa [PyData.showable] using k1)) (fin (I1.tok _))
      | str i =>
        obtain ⟨t, rfl⟩ := rx
        exact pyReprObj_str (fin (I1.tok _)) k4
      | lst hs _ =>
        obtain rfl : u = Value.ref _ := rx
        exact ref _ rfl
      | tup hs _ =>
        obtain rfl : u = Value.ref _ := rx
        exact ref _ rfl
theorem js_read {F : Fm} {σ : L2.St} {Q : Str → Hp → Prop} (e1 : F.cm = cm) (e2 : F.K = X.K) : ∀ (ms : List ME) (acc : Str) (S : Sg) (H : Hp), Rel F S σ H → out F W σ (vis F S σ H) (fun _ _ (y : Str) z => y = z) Q (joinM ms acc S) → tJs (ms.map fun m => tE cm X.K W m) acc σ H Q
  | [], acc, S, H, R, h => h acc H R (Same.refl _) rfl
  | m :: ms, acc, S, H, R, h => tG_bind e1 e2 R h fun x H1 da S1 R1 s1 p1 h1 => by
    cases p1 with
    | str y =>
      dsimp only at h1
      by_cases hz : (acc ++ y).length ≤ sizeLine
      · rw [if_pos hz] at h1
        exact ⟨y, rfl, hz, js_read e1 e2 ms (acc ++ y) S1 H1 R1 h1⟩
      · rw [if_neg hz] at h1; exact h1.elim
    | _ => exact False.elim h1
theorem pj_nil : PJ X [] (([] : List ME).map fun m => tE cm X.K W m) := .nil
theorem pj_cons {m : ME} {ms : List ME} (h : PE X e (tE cm X.K W m)) (r : PJ X es (ms.map fun m => tE cm X.K W m)) : PJ X (e :: es) ((m :: ms).map fun m => tE cm X.K W m) := .cons h r
/-- f'..' of two parts or more -/
theorem ge_fstr {v1 v2 : Expr} {ms : List ME} (h : PJ X (v1 :: v2 :: es) (ms.map fun m => tE cm X.K W m)) : PE X (.JoinedStr (v1 :: v2 :: es) pos) (tE cm X.K W (mFStr ms)) :=
  PE.weak (pe_joined h) fun σ H Q ⟨F, S, e1, e2, R, h⟩ => js_read e1 e2 ms Str.empty S H R (by
    have h' : out F W σ (vis F S σ H) (rE cm X.K) Q ((joinM ms Str.empty S).bind fun x S1 => .ok (.str x) S1) := h
    cases hj : joinM ms Str.empty S with
    | bad => rw [hj] at h'; exact h'
    | exc c fs S1 => rw [hj] at h'; exact h'
    | ok z S1 =>
      rw [hj, Rs.bind_ok] at h'
      intro y H1 R1 s1 ey
      have ey' : y = z := ey
      subst ey'
      exact h' _ H1 R1 s1 (.str y))
theorem ge_fstr1 (h : PE X e (tE cm X.K W ma)) : PE X (.JoinedStr [e] pos) (tE cm X.K W ma) := pe_joined1 h
/-! ### methods -/
def mMeth (cs : List Str) (nm : Str) (Fn : List FA → RF) (n : Nat) (arr : List AV → List AV → List AV) (mo : ME) (mr : MAv) : ME := fun S => (mo S).bind fun d S1 => match d with
  | .ins c fs => if cs.contains c && (fs.lookup nm).isNone then (mr S1).bind fun as S2 => if as.length = n then applyF Fn (arr (.dat (.ins c fs) :: as) []) S2 else .bad else .bad
  | _ => .bad
/-- o.m(e, ..), o a value -/
theorem ge_meth {cs : List Str} {apos : Pos} {mo : ME} {pl : Sem Bool} (hc : ∀ c, c ∈ cs → Cls X.K (cm c) ∧ Meth X.K (cm c) nm f) (Fk : FnG X.prog X.w X.K X.mg X.base (L2.CX X.prog X.w) k f fd ps (spF cm X.K Fn)) (hr : Room k X.A) (hgd : X.A.guards = some []) (tk : Takes X W) (hb : ∃ g, KBn X.K fd ps (n + 1) [] g gV) (hA : Arr (n + 1) 0 gV arr)
    (ho : PE X o (tE cm X.K W mo)) (ha : PA X (e :: es) (tAv cm X.K W mr)) (hst : starEach (e :: es) X.env = (false, eval e X.env) :: starEach es X.env := by rfl) (hpl : (backTo pos (starEach es X.env)).any (·.1) = false := by rfl)
    (ht : eval (.Call (.Attribute o nm apos) (e :: es) [] pos) X.env = (do
      let ov ← eval o X.env
      standAt apos.atName
      let (f, first) ← holding [ov] (getMethod ov nm pl)
      callWith pos f first (backTo pos (starEach (e :: es) X.env)) (backToKw pos (keywordEach [] X.env))) := by rfl) :
    PE X (.Call (.Attribute o nm apos) (e :: es) [] pos) (tE cm X.K W (mMeth cs nm Fn n arr mo mr)) := by
  obtain ⟨g, hb⟩ := hb
  refine ⟨fun pins s σ H Q I ⟨F, S, e1, e2, R, h⟩ => PySem.W.methodCall_KW (pl := pl) (thn (ho.run pins s σ H (fun x H1 => ∃ a c dx gs fs S1, x = .ref a ∧ c ∈ cs ∧ gs.lookup nm = none ∧ H1 a = some (.ins (cm c) dx gs) ∧ Rel F S1 σ H1 ∧ Rp cm X.K (vis F S1 σ H1) (.ref a) (.ins c fs) ∧ out F W σ (vis F S1 σ H1) (rE cm X.K) Q ((mr S1).bind fun as S2 => if as.length = n then applyF Fn (arr (.dat (.ins c fs) :: as) []) S2 else .bad)) I (tG_bind e1 e2 R h fun x H1 da S1 R1 s1 p1 h1 => ?_)) fun u s1 ⟨y, H1, I1, rx, a, c, dx, gs, fs, S1, ex, hcs, hnl, ea, R1, p1, h1⟩ => ?_) ht⟩
  · cases p1 with
    | @ins a dx c gs fs hh hr =>
      dsimp only at h1
      by_cases hz : (cs.contains c && (fs.lookup nm).isNone) = true
      · rw [if_pos hz] at h1
        rw [Bool.and_eq_true] at hz
        exact ⟨a, c, dx, gs, fs, S1, rfl, by simpa using hz.1, hr.lookup_none (Option.isNone_iff_eq_none.mp hz.2), hid_le _ _ hh, R1, .ins hh hr, h1⟩
      · rw [if_neg hz] at h1; exact h1.elim
    | _ => exact False.elim h1
  · subst ex
    obtain rfl : u = Value.ref a := rx
    obtain ⟨cl, hme⟩ := hc c hcs
    refine getmeth_ok I1 ea cl hme hnl (PySem.W.callWith_K (first := [.ref a]) (h₀ := X.base) I.ok.mod.kin hme.kp (thn (ha.run pos pins s1 σ H1 (fun vs H2 => ∃ as S2, Rel F S2 σ H2 ∧ Rp cm X.K (vis F S2 σ H2) (.ref a) (.ins c fs) ∧ AvsOk cm X.K σ (vis F S2 σ H2) vs as ∧ as.length = n ∧ out F W σ (vis F S2 σ H2) (rE cm X.K) Q (applyF Fn (arr (.dat (.ins c fs) :: as) []) S2)) I1 (tG_bind e1 e2 R1 h1 fun vs H2 as S2 R2 s2 p2 h2 => ?_)) fun us s2 ⟨vs, H2, I2, r, as, S2, R2, q1, q2, hl, h2⟩ => ⟨I2.kIn, ?_⟩) hst hpl)
    · by_cases hz : as.length = n
      · rw [if_pos hz] at h2
        exact ⟨as, S2, R2, Rp.mono s2 p1, p2, hz, h2⟩
      · rw [if_neg hz] at h2; exact h2.elim
    · have lv : vs.length = n := by rw [AvsOk.length q2]; exact hl
      have r2 : Vals (V.ref a :: vs) (Value.ref a :: us) := .cons rfl r
      exact run_g (us := .ref a :: us) (kw := []) Fk hr hgd tk I2 (hb.to s2 (.ref a :: us) [] I2.kIn (by rw [List.length_cons, ← r.length, lv]) rfl) (hb.rel r2 .nil) (apply_ok e1 e2 R2 (hA.ok (by rw [List.length_cons, lv]) rfl (.dat q1 q2) .nil) h2)
/-- o.m() -/
theorem ge_meth0 {cs : List Str} {apos : Pos} {mo : ME} {pl : Sem Bool} (hc : ∀ c, c ∈ cs → Cls X.K (cm c) ∧ Meth X.K (cm c) nm f) (Fk : FnG X.prog X.w X.K X.mg X.base (L2.CX X.prog X.w) k f fd ps (spF cm X.K Fn)) (hr : Room k X.A) (hgd : X.A.guards = some []) (tk : Takes X W) (hb : ∃ g, KBn X.K fd ps 1 [] g gV) (hA : Arr 1 0 gV arr)
    (ho : PE X o (tE cm X.K W mo))
    (ht : eval (.Call (.Attribute o nm apos) [] [] pos) X.env = (do
      let ov ← eval o X.env
      standAt apos.atName
      let (f, first) ← holding [ov] (getMethod ov nm pl)
      callWith pos f first (backTo pos (starEach [] X.env)) (backToKw pos (keywordEach [] X.env))) := by rfl) :
    PE X (.Call (.Attribute o nm apos) [] [] pos) (tE cm X.K W (mMeth cs nm Fn 0 arr mo vNil)) := by
  obtain ⟨g, hb⟩ := hb
  refine ⟨fun pins s σ H Q I ⟨F, S, e1, e2, R, h⟩ => PySem.W.methodCall_KW (pl := pl) (thn (ho.run pins s σ H (fun x H1 => ∃ a c dx gs fs S1, x = .ref a ∧ c ∈ cs ∧ gs.lookup nm = none ∧ H1 a = some (.ins (cm c) dx gs) ∧ Rel F S1 σ H1 ∧ Rp cm X.K (vis F S1 σ H1) (.ref a) (.ins c fs) ∧ out F W σ (vis F S1 σ H1) (rE cm X.K) Q (applyF Fn (arr [.dat (.ins c fs)] []) S1)) I (tG_bind e1 e2 R h fun x H1 da S1 R1 s1 p1 h1 => ?_)) fun u s1 ⟨y, H1, I1, rx, a, c, dx, gs, fs, S1, ex, hcs, hnl, ea, R1, p1, h1⟩ => ?_) ht⟩
  · cases p1 with
    | @ins a dx c gs fs hh hr =>
      dsimp only at h1
      by_cases hz : (cs.contains c && (fs.lookup nm).isNone) = true
      · rw [if_pos hz] at h1
        rw [Bool.and_eq_true] at hz
        exact ⟨a, c, dx, gs, fs, S1, rfl, by simpa using hz.1, hr.lookup_none (Option.isNone_iff_eq_none.mp hz.2), hid_le _ _ hh, R1, .ins hh hr, h1⟩
      · rw [if_neg hz] at h1; exact h1.elim
    | _ => exact False.elim h1
  · subst ex
    obtain rfl : u = Value.ref a := rx
    obtain ⟨cl, hme⟩ := hc c hcs
    refine getmeth_ok I1 ea cl hme hnl (PySem.W.callWith_K0 (first := [.ref a]) I1.kIn hme.kp ?_)
    exact run_g (us := [.ref a]) (kw := []) Fk hr hgd tk I1 (hb.to s1 [.ref a] [] I1.kIn rfl rfl) (hb.rel (vs := [V.ref a]) (.cons rfl .nil) .nil) (apply_ok e1 e2 R1 (hA.ok rfl rfl (.dat p1 .nil) .nil) h1)
end
end Mir

/-! MirM: own == and repr; fresh lists; the law's end -/
namespace Mir
open PySem PySem.Spec PyProof.Rows L2

/-! ### a def as a function of values alone -/
def callD (Fn : List FA → RF) (ds : List Dat) : Option Dat := match Fn (ds.map .dat) with
  | .ok d [] => some d
  | _ => none
theorem args_dats {cm : CM} {K : PySem.W.Frag} {G H : Hp} : ∀ {vs : List V} {ds : List Dat}, RpAll cm K G vs ds → ArgsOk cm K G H vs (ds.map .dat) []
  | _, _, .nil => .nil
  | _, _, .cons a b => .dat a (args_dats b)
section
variable {X : Cx} {cm : CM} {W : WX} {k : Nat} {f : Addr} {fd : FuncData} {ps : List Str} {Fn : List FA → RF} {gV : List V → List V → List V} {pins : List (Addr × Obj)} {σ : L2.St} {H : Hp} {s : Shared}
theorem run_d {A : Around} {n : Nat} {M : List Addr} {vs : List V} {us : List Value} {ds : List Dat} {d : Dat} (sb : Sub X k A) (hgd : A.guards = some []) (Fk : FnG X.prog X.w X.K X.mg X.base (L2.CX X.prog X.w) k f fd ps (spF cm X.K Fn)) (hb : ∃ g, KBn X.K fd ps n [] g (fun vs _ => vs))
    (I : L2.Inv X pins σ H s) (lv : live M H) (r : Vals vs us) (hl : vs.length = n) (pa : RpAll cm X.K (hid M H) vs ds) (e : callD Fn ds = some d) :
    wpAny (model X.prog X.w) A (call (.ref f) us) (EP X pins σ fun v H' => Same H H' ∧ Rp cm X.K (hid M H') v d) X.xe s := by
  obtain ⟨g, hb⟩ := hb
  have e0 : Env0 X.prog X.w X.K X.mg X.base A X.stack s H := by
    have z := I.env0
    exact ⟨sb.fr.trans z.frames, z.mod, z.bs, z.bsz, z.funs, z.frf, z.hok, z.bare⟩
  have hs : spF cm X.K Fn vs H (fun v H' => Same H H' ∧ Rp cm X.K (hid M H') v d) (fun _ _ _ => False) := by
    refine ⟨M, ds.map .dat, [], lv, by simp, List.nodup_nil, args_dats pa, ?_⟩
    unfold callD at e
    cases hF : Fn (ds.map .dat) with
    | bad => rw [hF] at e; cases e
    | exc c fs o => rw [hF] at e; cases e
    | ok d' o =>
      rw [hF] at e
      cases o with
      | cons _ _ => cases e
      | nil =>
        cases e
        exact fun v H' kp _ rv => ⟨fun a o q => kp a o q (by simp), rv⟩
  refine wpAny_call (codeAny_mono (Fk.run A X.stack s H ⟨us, []⟩ (g us []) vs _ _ sb.room hgd e0 (hb.to s us [] I.kIn (by rw [← r.length]; exact hl) rfl) (hb.rel r .nil) hs) fun res s' hq => ?_)
  rcases res with er | fl
  · obtain ⟨_, _, _, _, _, _, _, _, _, _, _, _, z⟩ := hq
    exact z.elim
  · rcases fl with _ | _ | _ | u
    · exact False.elim hq
    · exact False.elim hq
    · exact False.elim hq
    · exact I.after hq

/-! ### own == and != -/
def tyN : Dat → Option String
  | .non => some "NoneType"
  | .bl _ => some "bool"
  | .int _ => some "int"
  | .str _ => some "str"
  | .lst _ => some "list"
  | .tup _ => some "tuple"
  | .dic _ => some "dict"
  | _ => none
/-- what the right side may be -/
def rightOk (cs : List Str) : Dat → Bool
  | .ins c _ => cs.contains c
  | d => (tyN d).isSome
def eqO (c : Str) (cs : List Str) (Fn : List FA → RF) (a b : Dat) : Option Dat := match a with
  | .ins c' fs => if c' = c ∧ rightOk cs b = true then (match callD Fn [.ins c' fs, b] with
    | some (.bl t) => some (.bl t)
    | _ => none) else none
  | a => eqD a b
def neO (c : Str) (cs : List Str) (Fn : List FA → RF) (a b : Dat) : Option Dat := match a with
  | .ins c' fs => if c' = c ∧ rightOk cs b = true then (match callD Fn [.ins c' fs, b] with
    | some (.bl t) => some (.bl (!t))
    | _ => none) else none
  | a => neD a b
theorem sub_builtin {K : PySem.W.Frag} {C : Addr} {T : String} {m : List String} (e : fastBuiltinMro T = some (m.map Value.type)) : PySem.W.subIn K (.type T) (.ref C) = some false := by
  show (fastBuiltinMro T).map (·.contains (.ref C)) = some false
  rw [e, Option.map_some]
  congr 1
  rw [List.contains_eq_any_beq]
  rw [List.any_eq_false]
  intro x hx
  obtain ⟨y, _, rfl⟩ := List.mem_map.mp hx
  simp
theorem ty_of {cs : List Str} {C : Addr} {y : V} {u : Value} {d : Dat} {M : List Addr} (hcs : ∀ c, c ∈ cs → ClsF X.K (cm c) ∧ PySem.W.notFirst X.K C (.ref (cm c)) = true) (I : L2.Inv X pins σ H s) (r : Rp cm X.K (hid M H) y d) (ry : RelV y u) (h : rightOk cs d = true) :
    ∃ t, PySem.W.Looks (model X.prog X.w) s.heap (typeOf u) t ∧ PySem.W.notFirst X.K C t = true := by
  have fin : ∀ {t : Value}, TyX X.K (hid M H) y t → PySem.W.notFirst X.K C t = true → ∃ t, PySem.W.Looks (model X.prog X.w) s.heap (typeOf u) t ∧ PySem.W.notFirst X.K C t = true := fun {t} ty hn => by
    obtain ⟨P, k1, k2, _⟩ := kit_of I ry (tyX_mono hid_le ty)
    exact ⟨t, k1.ty _ _ I.kIn k2, hn⟩
  have nf : ∀ {T : String} {m : List String}, fastBuiltinMro T = some (m.map Value.type) → PySem.W.notFirst X.K C (.type T) = true := fun e => by
    unfold PySem.W.notFirst
    rw [sub_builtin e]
    simp
  cases r with
  | non => exact fin (.base .non) (nf (T := "NoneType") (m := ["NoneType", "object"]) (by decide +kernel))
  | bl b => exact fin (.base (.bl b)) (nf (T := "bool") (m := ["bool", "int", "object"]) (by decide +kernel))
  | int i => exact fin (.base (.int i)) (nf (T := "int") (m := ["int", "object"]) (by decide +kernel))
  | str z => exact fin (.base (.str z)) (nf (T := "str") (m := ["str", "object"]) (by decide +kernel))
  | lst hh _ => exact fin (.base (.lst hh)) (nf (T := "list") (m := ["list", "object"]) (by decide +kernel))
  | ro _ _ => cases h
  | tup hh _ =>
    have n2 : PySem.W.notFirst X.K C (.type "tuple") = true := nf (m := ["tuple", "object"]) (by decide +kernel)
    rcases hh with (hh | ⟨ob, hh⟩) | ⟨ob, its, n, h1, h2, _⟩
    · exact fin (.base (.tup hh)) n2
    · exact fin (.fTuple hh) n2
    · exact fin (.kTuple h1 h2) n2
  | dic hh _ => exact fin (.base (.dK hh)) (nf (T := "dict") (m := ["dict", "object"]) (by decide +kernel))
  | @ins a dx c gs fs hh _ =>
    obtain ⟨q, n2⟩ := hcs c (by simpa using (show cs.contains c = true from h))
    exact fin (.base (.ins hh q.cl q.kc q.sp q.tk q.mo)) n2
/-- what the text says of a class with an own == -/
structure EqF (K : PySem.W.Frag) (C f : Addr) : Prop where
  eq : PySem.W.findIn K (.ref C) "__eq__" = some (some (.ref f))
  fn : PySem.W.isFn K (.ref f) = true
  ne : PySem.W.findIn K (.ref C) "__ne__" = some (some (.builtin "object.__ne__"))
  mo : PySem.W.mroIn K C (.type "object") = some true
theorem o_eqO {c : Str} {cs : List Str} (hE : EqF X.K (cm c) f) (hcs : ∀ c', c' ∈ cs → ClsF X.K (cm c') ∧ PySem.W.notFirst X.K (cm c) (.ref (cm c')) = true) (Fk : FnG X.prog X.w X.K X.mg X.base (L2.CX X.prog X.w) k f fd ps (spF cm X.K Fn)) (hb : ∃ g, KBn X.K fd ps 2 [] g (fun vs _ => vs))
    (hr : Room k X.A) (hgd : X.A.guards = some []) : OpR X (compareOp .Eq) (rD cm X.K (eqO c cs Fn)) := by
  intro pins s σ H x y v u Q I rx ry hq
  obtain ⟨M, da, db, d, lv, pa, pb, e, q⟩ := hq
  cases pa with
  | @ins a dx c' gs fs hh hrf =>
    unfold eqO at e
    dsimp only at e
    by_cases hz : c' = c ∧ rightOk cs db = true
    · rw [if_pos hz] at e
      obtain ⟨rfl, hz⟩ := hz
      cases hc : callD Fn [.ins c' fs, db] with
      | none => rw [hc] at e; cases e
      | some z =>
        rw [hc] at e
        cases z <;> try (cases e; done)
        rename_i t
        cases e
        obtain rfl : v = Value.ref a := rx
        have eh : H a = some (.ins (cm c') dx gs) := hid_le _ _ hh
        obtain ⟨mA, J, _⟩ := ins_get I.hok eh
        obtain ⟨od, J, _⟩ := J.look
        obtain ⟨m, hF⟩ := I.fr
        obtain ⟨tb, lk, nf⟩ := ty_of (cm := cm) hcs I pb ry hz
        refine PySem.W.cmp_K (op := .Eq) (tb := tb) hr.units0 hF I.ok.mod.kin J lk nf hE.eq hE.fn ?_
        refine wpAny_mono (run_d (A := X.A) (n := 2) ⟨hr, rfl⟩ hgd Fk hb I lv (vs := [.ref a, y]) (us := [.ref a, u]) (.cons rfl (.cons ry .nil)) rfl (.cons (.ins hh hrf) (.cons pb .nil)) hc) (fun w s' ⟨z, H', I', rz, sm, pz⟩ => ?_) fun _ _ z => z
        cases pz
        obtain rfl : w = Value.bool t := rz
        exact ⟨.bl t, H', I', rfl, q _ H' sm (.bl t)⟩
    · rw [if_neg hz] at e; cases e
  | _ => exact o_eq hr.units pins s σ H _ y v u Q I rx ry ⟨M, _, db, d, lv, by first | exact .non | exact .bl _ | exact .int _ | exact .str _ | (constructor <;> assumption), pb, e, q⟩
theorem ifBound_objNe {Md : Model} {A : Around} {E : Value → Shared → Prop} {K : PySem.W.Frag} {x C : Addr} {ox : Obj} {od : Option Obj} {args : List Value} {Q : Option Value → Shared → Prop} (X : K.In s.heap) (I : PySem.W.InstAt s.heap x ox C od) (hs : PySem.W.findIn K (.ref C) "__ne__" = some (some (.builtin "object.__ne__")))
    (h : wpAny Md A (call (.builtin "object.__ne__") (.ref x :: args)) (fun v => Q (some v)) E s) : wpAny Md A (callSpecialIfBound? (.ref x) "__ne__" args) Q E s := by
  simp only [callSpecialIfBound?, bindSpecialIfBound?]
  refine wpAny_holding (wpAny_bind (wpAny_bind (wpAny_bind (I.type.here ((PySem.W.looks_findIn X hs).here ?_)))))
  refine wpAny_bind (wpAny_askSetting (wpAny_ite ?_))
  have k : wpAny Md A (call (.builtin "object.__ne__") ([.ref x] ++ args) >>= fun v => pure (some v)) Q E s := wpAny_bind (wpAny_mono h (fun v s' z => wpAny_pure z) fun _ _ z => z)
  split
  · exact wpAny_bind (wpAny_of_eq (F.cmp_object.ne.bind _) (wpAny_pure (by exact k)))
  · exact wpAny_tryCatch (wpAny_bind (wpAny_of_eq (F.cmp_object.ne.bind _) (wpAny_pure (by exact k))))
open Builtin in
theorem ne_entry {prog : Program} {w : World} {A : Around} {E : Value → Shared → Prop} {K : PySem.W.Frag} {x C : Addr} {ox : Obj} {od : Option Obj} {b : Value} {Q : Fin → Shared → Prop} (hu : A.units < cLine) (X : K.In s.heap) (I : PySem.W.InstAt s.heap x ox C od) (hE : EqF K C f)
    (h : wpAny (model prog w) A (call (.ref f) [.ref x, b]) (fun v s' => ∃ t, v = .bool t ∧ Q (.done (.ret (.bool (!t)))) s') E s) : wpAny (model prog w) A (Builtin.«object.__ne__» ⟨[.ref x, b], []⟩) Q E s := by
  unfold Builtin.«object.__ne__»
  repeat (first
    | with_reducible refine wpAny_cRoomFor hu ?_
    | (refine wpAny_bind (m := callSpecialIfBound? (.ref x) (Str.ofString "__eq__") [b])
        (PySem.W.ifBound_K X I hE.eq hE.fn (wpAny_mono h (fun r s' hr => by
          obtain ⟨t, rfl, hq⟩ := hr
          repeat (first | exact hq | exact wpAny_pure hq | exact wpAny_truthy_bool hq | (refine wpAny_bind (m := truthy (.bool _)) (wpAny_truthy_bool ?_)) | wp_step)) fun _ _ z => z)))
    | wp_step)
theorem ne_run {prog : Program} {w : World} {A : Around} {E : Value → Shared → Prop} {K : PySem.W.Frag} {x C : Addr} {ox : Obj} {od : Option Obj} {b tb : Value} {Q : Value → Shared → Prop} (hu : A.units + 1 < cLine) (X : K.In s.heap) (I : PySem.W.InstAt s.heap x ox C od) (lk : PySem.W.Looks (model prog w) s.heap (typeOf b) tb) (nf : PySem.W.notFirst K C tb = true) (hE : EqF K C f)
    (h : wpAny (model prog w) A.in1 (call (.ref f) [.ref x, b]) (fun v s' => ∃ t, v = .bool t ∧ Q (.bool (!t)) s') E s) : wpAny (model prog w) A (richCompare .NotEq (.ref x) b) Q E s := by
  have one : wpAny (model prog w) A (tryCompare (.ref x) "__ne__" b) (fun r s' => ∃ v, r = some v ∧ Q v s') E s := by
    unfold tryCompare
    refine wpAny_bind (ifBound_objNe X I hE.ne (wpAny_call (codeAny_call_builtin F.cmp_object.ne.plain F.cmpEntry_ne (PySem.W.check_slot F.cmpKind_ne F.cmpSplit_ne (I.type.andThen (PySem.W.looks_mroIn X hE.mo)) (F.cmpArgs_ne _ _) (ne_entry (A := A.in1) hu X I hE (wpAny_mono h (fun v s' z => ?_) fun _ _ z => z))))))
    obtain ⟨t, rfl, q⟩ := z
    first
      | exact ⟨t, rfl, wpAny_pure ⟨_, rfl, q⟩⟩
      | exact ⟨t, rfl, wpAny_pure (wpAny_pure ⟨_, rfl, q⟩)⟩
      | exact ⟨t, rfl, ⟨_, rfl, q⟩⟩
  unfold richCompare
  simp only [oneThing_ref]
  refine wpAny_holding (wpAny_bind (wpAny_cRoomFor (Nat.lt_of_succ_lt hu) ?_))
  rw [cmpInfo_NotEq]
  dsimp only
  refine wpAny_bind (I.type.here (wpAny_bind (lk.here ?_)))
  split
  · rename_i z
    have z2 : PySem.W.subIn K tb (.ref C) = some false := by
      rcases Bool.or_eq_true_iff.mp nf with y | y
      · rw [beq_iff_eq.mp y] at z; simp at z
      · exact beq_iff_eq.mp y
    refine wpAny_bind ((PySem.W.looks_subIn X z2).here ?_)
    simp only [Bool.false_eq_true, if_false]
    refine wpAny_bind (wpAny_mono one (fun r s' y => ?_) fun _ _ y => y)
    obtain ⟨v, rfl, y⟩ := y
    exact wpAny_pure y
  · refine wpAny_bind (wpAny_pure ?_)
    simp only [Bool.false_eq_true, if_false]
    refine wpAny_bind (wpAny_mono one (fun r s' y => ?_) fun _ _ y => y)
    obtain ⟨v, rfl, y⟩ := y
    exact wpAny_pure y
theorem o_neO {c : Str} {cs : List Str} (hE : EqF X.K (cm c) f) (hcs : ∀ c', c' ∈ cs → ClsF X.K (cm c') ∧ PySem.W.notFirst X.K (cm c) (.ref (cm c')) = true) (Fk : FnG X.prog X.w X.K X.mg X.base (L2.CX X.prog X.w) k f fd ps (spF cm X.K Fn)) (hb : ∃ g, KBn X.K fd ps 2 [] g (fun vs _ => vs))
    (hr : Room (k + 1) X.A) (hgd : X.A.guards = some []) : OpR X (compareOp .NotEq) (rD cm X.K (neO c cs Fn)) := by
  intro pins s σ H x y v u Q I rx ry hq
  obtain ⟨M, da, db, d, lv, pa, pb, e, q⟩ := hq
  cases pa with
  | @ins a dx c' gs fs hh hrf =>
    unfold neO at e
    dsimp only at e
    by_cases hz : c' = c ∧ rightOk cs db = true
    · rw [if_pos hz] at e
      obtain ⟨rfl, hz⟩ := hz
      cases hc : callD Fn [.ins c' fs, db] with
      | none => rw [hc] at e; cases e
      | some z =>
        rw [hc] at e
        cases z <;> try (cases e; done)
        rename_i t
        cases e
        obtain rfl : v = Value.ref a := rx
        have eh : H a = some (.ins (cm c') dx gs) := hid_le _ _ hh
        obtain ⟨mA, J, _⟩ := ins_get I.hok eh
        obtain ⟨od, J, _⟩ := J.look
        obtain ⟨tb, lk, nf⟩ := ty_of (cm := cm) hcs I pb ry hz
        refine ne_run (by have := hr.units; omega) I.kIn J lk nf hE ?_
        refine wpAny_mono (run_d (A := X.A.in1) (n := 2) (Sub.in1 ⟨hr, rfl⟩) hgd Fk hb I lv (vs := [.ref a, y]) (us := [.ref a, u]) (.cons rfl (.cons ry .nil)) rfl (.cons (.ins hh hrf) (.cons pb .nil)) hc) (fun w s' ⟨z, H', I', rz, sm, pz⟩ => ?_) fun _ _ z => z
        cases pz
        obtain rfl : w = Value.bool t := rz
        exact ⟨t, rfl, .bl (!t), H', I', rfl, q _ H' sm (.bl (!t))⟩
    · rw [if_neg hz] at e; cases e
  | _ => exact o_ne hr.units pins s σ H _ y v u Q I rx ry ⟨M, _, db, d, lv, by first | exact .non | exact .bl _ | exact .int _ | exact .str _ | (constructor <;> assumption), pb, e, q⟩
/-! ### repr by an own __repr__ -/
def reprO (c : Str) (Fn : List FA → RF) (ds : List Dat) : Option Dat := match ds with
  | [.ins c' fs] => if c' = c then (match callD Fn [.ins c' fs] with
    | some (.str t) => some (.str t)
    | _ => none) else none
  | ds => reprC ds
theorem c_reprO {c : Str} (hs : PySem.W.findIn X.K (.ref (cm c)) "__repr__" = some (some (.ref f))) (hf : PySem.W.isFn X.K (.ref f) = true) (Fk : FnG X.prog X.w X.K X.mg X.base (L2.CX X.prog X.w) k f fd ps (spF cm X.K Fn)) (hb : ∃ g, KBn X.K fd ps 1 [] g (fun vs _ => vs))
    (hr : Room (k + 1) X.A) (hgd : X.A.guards = some []) : CallR X (.builtin "repr") (rDs cm X.K (reprO c Fn)) := by
  rintro pins s σ H xs us Q I r ⟨M, ds, d, lv, pa, e, q⟩
  have old : reprC ds = some d → wpAny (model X.prog X.w) X.A (call (.builtin "repr") us) (EP X pins σ Q) X.xe s := fun e => c_repr hgd hr.units pins s σ H xs us Q I r ⟨M, ds, d, lv, pa, e, q⟩
  cases pa with
  | nil => exact old e
  | @cons v d1 vs ds p1 p2 =>
    cases p2 with
    | cons _ _ => exact old (by cases d1 <;> exact e)
    | nil =>
      cases p1 with
      | @ins a dx c' gs fs hh hrf =>
        have e' : (if c' = c then (match callD Fn [.ins c' fs] with | some (.str t) => some (Dat.str t) | _ => none) else none) = some d := e
        by_cases hz : c' = c
        · rw [if_pos hz] at e'
          subst hz
          cases hc : callD Fn [.ins c' fs] with
          | none => rw [hc] at e'; cases e'
          | some z =>
            rw [hc] at e'
            cases z <;> try (cases e'; done)
            rename_i t
            cases e'
            obtain ⟨u, rfl, rx⟩ := vals1 r
            obtain rfl : u = Value.ref a := rx
            have eh : H a = some (.ins (cm c') dx gs) := hid_le _ _ hh
            obtain ⟨mA, J, _⟩ := ins_get I.hok eh
            obtain ⟨od, J, _⟩ := J.look
            obtain ⟨m, hF⟩ := I.fr
            refine PySem.W.repr_K (by have := hr.units; show X.A.units + 1 < cLine; omega) hF I.ok.mod.kin J hs hf ?_
            refine wpAny_mono (run_d (A := X.A.in1) (n := 1) (Sub.in1 ⟨hr, rfl⟩) hgd Fk hb I lv (vs := [.ref a]) (us := [.ref a]) (.cons rfl .nil) rfl (.cons (.ins hh hrf) .nil) hc) (fun w s' ⟨z, H', I', rz, sm, pz⟩ => ?_) fun _ _ z => z
            cases pz
            obtain ⟨tk, rfl⟩ := rz
            exact ⟨.str t, H', I', ⟨tk, rfl⟩, q _ H' sm (.str t)⟩
        · rw [if_neg hz] at e'; cases e'
      | _ => exact old e
end
end Mir

/-! MirN: a look into an own list; fresh lists; the law's end -/
namespace Mir
open PySem PySem.Spec PyProof.Rows L2

def listAt (i : Nat) (S : Sg) : Option (List Dat) := match S[i]? with
  | some (.loc ds) => some ds
  | some (.own _ (.lst ds)) => some ds
  | _ => none
def scal : Dat → Bool
  | .non => true
  | .bl _ => true
  | .int _ => true
  | .str _ => true
  | _ => false
theorem scal_rp {cm : CM} {K : PySem.W.Frag} {G G' : Hp} {v : V} {d : Dat} (h : scal d = true) (r : Rp cm K G v d) : Rp cm K G' v d := by
  cases r with
  | non => exact .non
  | bl b => exact .bl b
  | int i => exact .int i
  | str x => exact .str x
  | _ => cases h
theorem Rel.peek {F : Fm} {S : Sg} {σ : L2.St} {H : Hp} {i : Nat} (R : Rel F S σ H) (h : isMut i S = true) : ∃ l ds vs M, σ[i]? = some (some (.ref l)) ∧ listAt i S = some ds ∧ H l = some (.lst vs) ∧ RpAll F.cm F.K (vis F S σ H) vs ds ∧ Mir.live M H ∧ Same (vis F S σ H) (hid M H) ∧ Rp F.cm F.K (hid M H) (.ref l) (.lst ds) := by
  obtain ⟨l, vs, ds, hl, eh, r, hs⟩ := slot_mut R h
  have la : listAt i S = some ds := by
    unfold listAt
    rcases hs with hs | ⟨j, hs, _⟩ <;> rw [hs]
  have sm : Same (vis F S σ H) (hid ((F.M ++ locs S σ).filter (fun a => decide (a ≠ l))) H) := hid_sub fun a ha => (List.mem_filter.mp ha).1
  refine ⟨l, ds, vs, (F.M ++ locs S σ).filter (fun a => decide (a ≠ l)), hl, la, eh, r, fun m hm => R.live m (List.mem_filter.mp hm).1, sm, .lst ?_ (RpAll.mono sm r)⟩
  rw [hid_out fun z => ?_]
  · exact eh
  · have := (List.mem_filter.mp z).2
    simp at this

section
variable {X : Cx} {cm : CM} {W : WX} {a b e o : Expr} {es : List Expr} {ma mb : ME} {mr mk : MAv} {mrA : MA} {pos p : Pos} {kwl : List Keyword} {k n m : Nat} {f : Addr} {fd : FuncData} {ps ks : List Str} {Fn : List FA → RF} {x c nm : Str} {gV gW : List V → List V → List V} {arr : List AV → List AV → List AV}
def mIxS (i : Nat) (mi : ME) : ME := fun S => if isMut i S = true then (mi S).bind fun k S1 => (match listAt i S1 with
  | some ds => Rs.of (ixD (.lst ds) k) S1
  | none => .bad) else m2 ixD (mVar i) mi S
theorem var_read {F : Fm} {S : Sg} {σ : L2.St} {H : Hp} {β : Type} {R' : Rep β Dat} {i : Nat} {k : Dat → Sg → Rs Dat} {Q : β → Hp → Prop} (e1 : F.cm = cm) (e2 : F.K = X.K) (R : Rel F S σ H) (h : out F W σ (vis F S σ H) R' Q ((mVar i S).bind k)) {Q' : VK} (q : ∀ x H1 d S1, Rel F S1 σ H1 → Same (vis F S σ H) (vis F S1 σ H1) → Rp cm X.K (vis F S1 σ H1) x d → out F W σ (vis F S1 σ H1) R' Q (k d S1) → Q' x H1) : tVar i σ H Q' := by
  have key := tG_bind (m := mVar i) (R := rE cm X.K) e1 e2 R h q
  obtain ⟨F', S', a1, a2, a3, a4⟩ := key
  unfold mVar at a4
  cases hs : S'[i]? with
  | none => rw [hs] at a4; exact a4.elim
  | some s =>
    rw [hs] at a4
    have hl : i < σ.length := by rw [← a3.len]; exact (List.getElem?_eq_some_iff.mp hs).1
    have hv : σ[i]? = some σ[i] := List.getElem?_eq_getElem hl
    have sl := a3.sl i s _ hs hv
    generalize σ[i] = w at hv sl
    cases s with
    | no => exact a4.elim
    | own j u => exact a4.elim
    | exn c fs => exact a4.elim
    | dat d =>
      cases sl with
      | dat r => exact ⟨_, hv, a4 _ H a3 (Same.refl _) (by rw [← a1, ← a2]; exact r)⟩
    | loc ds =>
      obtain ⟨v, hv', q1, q2, q3⟩ : ∃ v, σ[i]? = some (some v) ∧ Rel F' (S'.set i (.dat (.lst ds))) σ H ∧ Same (vis F' S' σ H) (vis F' (S'.set i (.dat (.lst ds))) σ H) ∧ Rp F'.cm F'.K (vis F' (S'.set i (.dat (.lst ds))) σ H) v (.lst ds) := by
        cases sl with
        | loc eh r =>
          obtain ⟨z1, z2, z3⟩ := a3.freeze hs hv
          exact ⟨_, hv, z1, z2, z3⟩
      exact ⟨v, hv', a4 _ H q1 q2 (by rw [← a1, ← a2]; exact q3)⟩
theorem ge_ixS {i : Nat} (ho : PE X o (tVar i)) (hi : PE X e (tE cm X.K W ma)) (hm : PlainIx e) : PE X (.Subscript o e pos) (tE cm X.K W (mIxS i ma)) :=
  PE.weak (pe_ix (ix_list.or i_ix) ho hi hm) fun σ H Q ⟨F, S, e1, e2, R, h⟩ => by
    unfold mIxS at h
    by_cases hz : isMut i S = true
    · rw [if_pos hz] at h
      obtain ⟨l, ds, vs, M, hl, la, eh, r, _⟩ := R.peek hz
      refine ⟨_, hl, tG_bind e1 e2 R h fun y H1 k S1 R1 s1 p1 h1 => ?_⟩
      cases hd : listAt i S1 with
      | none => rw [hd] at h1; exact h1.elim
      | some ds1 =>
        rw [hd] at h1
        have hz1 : isMut i S1 = true := by
          unfold listAt at hd
          unfold isMut
          cases hs : S1[i]? with
          | none => rw [hs] at hd; cases hd
          | some s =>
            rw [hs] at hd
            cases s with
            | loc _ => rfl
            | own j u => cases u with
              | lst _ => rfl
              | obj _ _ => cases hd
            | _ => cases hd
        obtain ⟨l', ds', vs', M', hl', la', eh', r', _⟩ := R1.peek hz1
        rw [hl] at hl'; cases hl'
        rw [hd] at la'; cases la'
        obtain ⟨d, hx, hq⟩ := out_of R1 h1
        cases k with
        | int j =>
          cases p1
          obtain ⟨v, w1, w2⟩ := at_rp r' (show atI ds1 j = some d from hx)
          exact .inl ⟨l, vs', j, v, rfl, rfl, SqL.of eh', w1, hq v H1 (Same.refl _) (by rw [← e1, ← e2]; exact w2)⟩
        | _ => cases hx
    · rw [if_neg hz] at h
      exact var_read e1 e2 R h fun x H1 d S1 R1 s1 p1 h1 => tG_bind e1 e2 R1 h1 fun y H2 db S2 R2 s2 p2 h2 => by
        obtain ⟨c, e, q⟩ := out_of R2 h2
        exact .inr ⟨_, d, db, c, R2.live, p1.mono s2, p2, e, q⟩
/-- f(x), x an own list, the result a plain value -/
def mCallP (g : List Dat → Option Dat) (i : Nat) : ME := fun S => if isMut i S = true then (match listAt i S with
  | some ds => (match g [.lst ds] with
    | some d => if scal d = true then .ok d S else .bad
    | none => .bad)
  | none => .bad) else mCall g (mCons (mVar i) mNil) S
theorem peek_call {i : Nat} {g : List Dat → Option Dat} {σ : L2.St} {H : Hp} {Q : VK} (h : tE cm X.K W (mCallP g i) σ H Q) : tCons (tVar i) tNil σ H fun vs H1 => rDs cm X.K g vs H1 Q := by
  obtain ⟨F, S, e1, e2, R, h⟩ := h
  unfold mCallP at h
  by_cases hz : isMut i S = true
  · rw [if_pos hz] at h
    obtain ⟨l, ds, vs, M, hl, la, eh, r, lv, sm, pr⟩ := R.peek hz
    rw [la] at h
    dsimp only at h
    cases hg : g [.lst ds] with
    | none => rw [hg] at h; exact h.elim
    | some d =>
      rw [hg] at h
      dsimp only at h
      by_cases hs : scal d = true
      · rw [if_pos hs] at h
        exact ⟨_, hl, M, [.lst ds], d, lv, .cons (by rw [← e1, ← e2]; exact pr) .nil, hg, fun v H' s' rv => h v H' (R.grow s') (vis_grow s') (scal_rp hs rv)⟩
      · rw [if_neg hs] at h; exact h.elim
  · rw [if_neg hz] at h
    have h' : out F W σ (vis F S σ H) (rE cm X.K) Q ((mVar i S).bind fun d S1 => Rs.of (g [d]) S1) := by
      have z : mCall g (mCons (mVar i) mNil) S = (mVar i S).bind fun d S1 => Rs.of (g [d]) S1 := by
        unfold mCall mCons mNil
        cases mVar i S <;> rfl
      rw [z] at h; exact h
    exact var_read e1 e2 R h' fun x H1 d S1 R1 s1 p1 h1 => by
      obtain ⟨c, e, q⟩ := out_of R1 h1
      exact ⟨_, [d], c, R1.live, .cons p1 .nil, e, q⟩
theorem ge_callBP {i : Nat} {id : String} {g : List Dat → Option Dat} (hc : CallR X (.builtin id) (rDs cm X.K g)) (hg : Gl X x) (hm : X.mg x = none) (hv : bootBuiltins x = some (.builtin id)) (ho : PE X e (tVar i))
    (hn : x ≠ "__name__" := by decide) (hdb : (x == ("__debug__" : Str)) = false := by decide) (he : starEach [e] X.env = (false, eval e X.env) :: starEach [] X.env := by rfl) (hpl : (backTo pos (starEach [] X.env)).any (·.1) = false := by rfl) :
    PE X (.Call (.Name x p) [e] [] pos) (tE cm X.K W (mCallP g i)) :=
  PE.weak (pe_callB hc hg hm hv (pa_cons ho pa_nil he) hn hdb he hpl) fun σ H Q h => peek_call h
/-- x == e, x an own list -/
def mOpP (g : Dat → Dat → Option Dat) (i : Nat) (mb : ME) : ME := fun S => if isMut i S = true then (mb S).bind fun b S1 => (match listAt i S1 with
  | some ds => (match g (.lst ds) b with
    | some d => if scal d = true then .ok d S1 else .bad
    | none => .bad)
  | none => .bad) else m2 g (mVar i) mb S
theorem isMut_of {i : Nat} {S : Sg} {ds : List Dat} (hd : listAt i S = some ds) : isMut i S = true := by
  unfold listAt at hd
  unfold isMut
  cases hs : S[i]? with
  | none => rw [hs] at hd; cases hd
  | some s =>
    rw [hs] at hd
    cases s with
    | loc _ => rfl
    | own j u => cases u with
      | lst _ => rfl
      | obj _ _ => cases hd
    | _ => cases hd
theorem ge_cmpP {op} {i : Nat} {g : Dat → Dat → Option Dat} (oq : OpR X (compareOp op) (rD cm X.K g)) (ho : PE X o (tVar i)) (hb : PE X b (tE cm X.K W mb)) (hm : behindInMarks op b = false) : PE X (.Compare o [op] [b] pos) (tE cm X.K W (mOpP g i mb)) :=
  PE.weak (pe_cmpR oq ho hb hm) fun σ H Q ⟨F, S, e1, e2, R, h⟩ => by
    unfold mOpP at h
    by_cases hz : isMut i S = true
    · rw [if_pos hz] at h
      obtain ⟨l, ds, vs, M, hl, la, eh, r, _⟩ := R.peek hz
      refine ⟨_, hl, tG_bind e1 e2 R h fun y H1 db S1 R1 s1 p1 h1 => ?_⟩
      cases hd : listAt i S1 with
      | none => rw [hd] at h1; exact h1.elim
      | some ds1 =>
        rw [hd] at h1
        obtain ⟨l', ds', vs', M', hl', la', eh', r', lv, sm, pr⟩ := R1.peek (isMut_of hd)
        rw [hl] at hl'; cases hl'
        rw [hd] at la'; cases la'
        dsimp only at h1
        cases hg : g (.lst ds1) db with
        | none => rw [hg] at h1; exact h1.elim
        | some d =>
          rw [hg] at h1
          dsimp only at h1
          by_cases hs : scal d = true
          · rw [if_pos hs] at h1
            exact ⟨M', _, db, d, lv, by rw [← e1, ← e2]; exact pr, p1.mono (by rw [← e1, ← e2] at *; exact sm), hg, fun v H' s' rv => h1 v H' (R1.grow s') (vis_grow s') (scal_rp hs rv)⟩
          · rw [if_neg hs] at h1; exact h1.elim
    · rw [if_neg hz] at h
      exact var_read e1 e2 R h fun x H1 d S1 R1 s1 p1 h1 => tG_bind e1 e2 R1 h1 fun y H2 db S2 R2 s2 p2 h2 => by
        obtain ⟨c, e, q⟩ := out_of R2 h2
        exact ⟨_, d, db, c, R2.live, p1.mono s2, p2, e, q⟩
end
end Mir

/-! MirO: fresh lists; the law's end -/
namespace Mir
open PySem PySem.Spec PyProof.Rows L2

/-- a value that is a new list -/
def outL (F : Fm) (W : WX) (σ : L2.St) (G : Hp) (Q : VK) : Rs (List Dat) → Prop
  | .ok ds S => ∀ l xs H, Rel F S σ H → Same G (vis F S σ H) → H l = none → RpAll F.cm F.K (vis F S σ H) xs ds → Q (.ref l) (upd H l (.lst xs))
  | .exc c fs S => outX F W σ G c fs S
  | .bad => False
def tL (cm : CM) (K : PySem.W.Frag) (W : WX) (m : Sg → Rs (List Dat)) : TE := fun σ H Q => ∃ F S, F.cm = cm ∧ F.K = K ∧ Rel F S σ H ∧ outL F W σ (vis F S σ H) Q (m S)
theorem outL_same {F : Fm} {W : WX} {σ : L2.St} {G G' : Hp} {Q : VK} {r : Rs (List Dat)} (e : Same G G') (h : outL F W σ G Q r) : outL F W σ G' Q r := by
  cases r with
  | ok a S => exact fun l xs H a b c d => h l xs H a (e.trans b) c d
  | exc c fs S => exact fun da gs H a b c d => h da gs H a (e.trans b) c d
  | bad => exact h
theorem tG_bindL {β α : Type} {cm : CM} {K : PySem.W.Frag} {W : WX} {R : Rep β α} {m : Sg → Rs α} {k : α → Sg → Rs (List Dat)} {σ : L2.St} {H : Hp} {Q : VK} {Q' : β → Hp → Prop} {F : Fm} {S : Sg}
    (e1 : F.cm = cm) (e2 : F.K = K) (r : Rel F S σ H) (h : outL F W σ (vis F S σ H) Q ((m S).bind k))
    (q : ∀ x H1 a S1, Rel F S1 σ H1 → Same (vis F S σ H) (vis F S1 σ H1) → R σ (vis F S1 σ H1) x a → outL F W σ (vis F S1 σ H1) Q (k a S1) → Q' x H1) : tG cm K W R m σ H Q' := by
  refine ⟨F, S, e1, e2, r, ?_⟩
  cases hm : m S with
  | ok a S1 => rw [hm] at h; exact fun v H1 a1 a2 a3 => q v H1 a S1 a1 a2 a3 (outL_same a2 h)
  | exc c fs S1 => rw [hm] at h; exact h
  | bad => rw [hm] at h; exact h
section
variable {X : Cx} {cm : CM} {W : WX} {a b e o : Expr} {es : List Expr} {ma mb : ME} {mr mk : MAv} {mrA : MA} {mL : Sg → Rs (List Dat)} {pos p : Pos} {k n m : Nat} {f : Addr} {fd : FuncData} {ps ks : List Str} {Fn : List FA → RF} {x c nm : Str} {gV gW : List V → List V → List V} {arr : List AV → List AV → List AV}
/-- [e, ..] -/
def lLst (m : MA) : Sg → Rs (List Dat) := fun S => (m S).bind fun ds S1 => if ds.length ≤ lim then .ok ds S1 else .bad
theorem gl_lst (ha : PA X es (tA cm X.K W mrA)) : PE X (.List es pos) (tL cm X.K W (lLst mrA)) :=
  PE.weak (pe_lst ha) fun σ H Q ⟨F, S, e1, e2, R, h⟩ => tG_bindL e1 e2 R h fun xs H1 ds S1 R1 s1 p1 h1 => by
    by_cases hl : ds.length ≤ lim
    · rw [if_pos hl] at h1
      exact ⟨by rw [RpAll.length p1]; exact lim_line hl, fun q hq => h1 q xs H1 R1 (Same.refl _) hq (by rw [e1, e2]; exact p1)⟩
    · rw [if_neg hl] at h1; exact h1.elim
/-- list(e) -/
def lList (m : ME) : Sg → Rs (List Dat) := fun S => (m S).bind fun d S1 => match d with
  | .lst ds => .ok ds S1
  | .tup ds => .ok ds S1
  | .ro ds => .ok ds S1
  | _ => .bad
theorem gl_list (hg : Gl X "list") (hm : X.mg "list" = none) (he : PE X e (tE cm X.K W ma)) (na : starEach [e] X.env = (false, eval e X.env) :: starEach [] X.env := by rfl) (hpl : (backTo pos (starEach [] X.env)).any (·.1) = false := by rfl) (hv : bootBuiltins ("list" : Str) = some (.type "list") := by decide +kernel) :
    PE X (.Call (.Name "list" p) [e] [] pos) (tL cm X.K W (lList ma)) :=
  PE.weak (pe_callTy call_list_of hg hm hv (pa_cons he pa_nil na) (by decide) (by decide) na hpl) fun σ H Q ⟨F, S, e1, e2, R, h⟩ => tG_bindL e1 e2 R h fun x H1 d S1 R1 s1 p1 h1 => by
    cases p1 with
    | lst ha ra => exact ⟨_, _, rfl, .inl (SqL.of (hid_le _ _ ha)), fun l hl => h1 l _ H1 R1 (Same.refl _) hl (by rw [e1, e2]; exact ra)⟩
    | ro ha ra => exact ⟨_, _, rfl, .inl (Same.seq hid_le ha), fun l hl => h1 l _ H1 R1 (Same.refl _) hl (by rw [e1, e2]; exact ra)⟩
    | tup ha ra => exact ⟨_, _, rfl, .inr (sqT_same hid_le ha), fun l hl => h1 l _ H1 R1 (Same.refl _) hl (by rw [e1, e2]; exact ra)⟩
    | _ => exact False.elim h1
/-- x = a new list: the def's own -/
def mSetF (i : Nat) (mL : Sg → Rs (List Dat)) : MS := fun S => (mL S).bind fun ds S1 => .ok .nx (S1.set i (.loc ds))
theorem gs_setF {i : Nat} {pos' : Pos} (hN : X.N.Nodup) (hi : X.N[i]? = some x) (hx : L2.Loc X.env.scope x) (he : PE X e (tL cm X.K W mL)) (hs : swapsWith e (some (.Name x pos')) pos.line X.env = pure false := by rfl)
    (hf : X.fn x = true ∨ X.env.scope.names.lookup x = some .local := by first | exact .inl rfl | exact .inr rfl | assumption) : PS X (.Assign [.Name x pos'] e pos) (tS cm X.K W (mSetF i mL)) :=
  PS.weak (ps_set hN hi hx he hs hf) fun D σ H ⟨F, S, e1, e2, R, h⟩ => by
    refine ⟨F, S, e1, e2, R, ?_⟩
    unfold mSetF at h
    cases hm : mL S with
    | bad => rw [hm] at h; exact h
    | exc c fs S1 => rw [hm] at h; exact h σ
    | ok ds S1 =>
      rw [hm] at h
      intro l xs H1 R1 s1 hl rx
      obtain ⟨R', s'⟩ := R1.newLoc (i := i) (ds := ds) hl rx
      exact h _ _ R' (s1.trans s')

/-! ### a def that gives a new list -/
def outSL (F : Fm) (W : WX) (G : Hp) (D : Ends) : Rs (List Dat) → Prop
  | .ok ds S => ∀ l xs σ H, Rel F S σ H → Same G (vis F S σ H) → H l = none → RpAll F.cm F.K (vis F S σ H) xs ds → D.rt (.ref l) (upd H l (.lst xs))
  | _ => False
def tSL (cm : CM) (K : PySem.W.Frag) (W : WX) (m : Sg → Rs (List Dat)) : TS := fun D σ H => ∃ F S, F.cm = cm ∧ F.K = K ∧ Rel F S σ H ∧ outSL F W (vis F S σ H) D (m S)
theorem gs_retL (he : PE X e (tL cm X.K W mL)) : PS X (.Return (some e) pos) (tSL cm X.K W mL) :=
  PS.weak (ps_ret he) fun D σ H ⟨F, S, e1, e2, R, h⟩ => by
    refine ⟨F, S, e1, e2, R, ?_⟩
    cases hm : mL S with
    | bad => rw [hm] at h; exact h
    | exc c fs S1 => rw [hm] at h; exact False.elim h
    | ok ds S1 =>
      rw [hm] at h
      exact fun l xs H1 R1 s1 hl rx => h l xs σ H1 R1 s1 hl rx
def mSeqL (s : MS) (m : Sg → Rs (List Dat)) : Sg → Rs (List Dat) := fun S => match s S with
  | .ok .nx S1 => m S1
  | _ => .bad
theorem gs_oneL {st : Stmt} (h : PS X st (tSL cm X.K W mL)) : PSs X [st] (tSL cm X.K W mL) := pss_one h
theorem gs_consL {st : Stmt} {sts : List Stmt} {s1 : MS} (h1 : PS X st (tS cm X.K W s1)) (h2 : PSs X sts (tSL cm X.K W mL)) : PSs X (st :: sts) (tSL cm X.K W (mSeqL s1 mL)) :=
  PSs.weak (pss_cons h1 h2) fun D σ H ⟨F, S, e1, e2, R, h⟩ => ⟨F, S, e1, e2, R, by
    unfold mSeqL at h
    cases hm : s1 S with
    | bad => rw [hm] at h; exact h.elim
    | exc c fs S1 => rw [hm] at h; exact h.elim
    | ok f S1 =>
      rw [hm] at h
      cases f with
      | nx => exact fun σ' H' R' s' => ⟨F, S1, e1, e2, R', by
          have h : outSL F W (vis F S σ H) D (mL S1) := h
          cases hm2 : mL S1 with
          | bad => rw [hm2] at h; exact h.elim
          | exc c fs S2 => rw [hm2] at h; exact h.elim
          | ok ds S2 => rw [hm2] at h; exact fun l xs σ2 H2 R2 s2 => h l xs σ2 H2 R2 (s'.trans s2)⟩
      | _ => exact h.elim⟩
/-- the promise: a new list -/
def spL (cm : CM) (K : PySem.W.Frag) (L : List Dat → Option (List Dat)) : Sp := fun vs H Q E => ∃ M as ds, live M H ∧ RpAll cm K (hid M H) vs as ∧ L as = some ds ∧ ∀ l xs H1, Same H H1 → H1 l = none → RpAll cm K (hid M H1) xs ds → Q (.ref l) (upd H1 l (.lst xs))
def runL (np n : Nat) (m : Sg → Rs (List Dat)) (as : List Dat) : Option (List Dat) := if as.length = np then (match m (as.map Slot.dat ++ List.replicate (n - np) .no) with
  | .ok ds _ => some ds
  | _ => none) else none
end
theorem slots_dats : ∀ (j : Nat) (as : List Dat), mkSlots j (as.map FA.dat) = as.map Slot.dat
  | _, [] => rfl
  | j, d :: r => congrArg (Slot.dat d :: ·) (slots_dats j r)
section
variable {P : Program} {w : World} {K : PySem.W.Frag} {mg : Str → Option Value} {base : Heap} {cm : CM}
theorem rel_start {M : List Addr} {as : List Dat} {vs : List V} {H : Hp} {N : List Str} {n np : Nat} (hn : N.length = n) (hla : as.length = np) (lv : live M H) (ao : RpAll cm K (hid M H) vs as) : Rel ⟨cm, K, M, H, [], []⟩ (as.map Slot.dat ++ List.replicate (n - np) .no) (L2.start N vs) H := by
  have lc : ∀ σ : L2.St, locs (as.map Slot.dat ++ List.replicate (n - np) .no) σ = [] := locs_none fun s hs => by
    rcases List.mem_append.mp hs with h | h
    · obtain ⟨d, _, rfl⟩ := List.mem_map.mp h; rfl
    · rw [(List.mem_replicate.mp h).2]; rfl
  have eV : vis ⟨cm, K, M, H, [], []⟩ (as.map Slot.dat ++ List.replicate (n - np) .no) (L2.start N vs) H = hid M H := by
    unfold vis; rw [lc, List.append_nil]
  have hlv := RpAll.length ao
  refine ⟨?_, fun i s v a b => ?_, ?_, fun l h => ?_, ?_, List.nodup_nil, fun l h => (by cases h), lv, fun l h => ?_, fun p h => (by cases h), fun a o q _ => q⟩
  · unfold L2.start
    rw [List.length_append, List.length_append, List.length_map, List.length_map, List.length_replicate, List.length_replicate, hn, hlv, hla]
  · rw [eV]
    unfold L2.start at b
    by_cases hi : i < as.length
    · have hi' : i < vs.length := by rw [hlv]; exact hi
      rw [List.getElem?_append_left (by rw [List.length_map]; exact hi), List.getElem?_map, List.getElem?_eq_getElem hi] at a
      rw [List.getElem?_append_left (by rw [List.length_map]; exact hi'), List.getElem?_map, List.getElem?_eq_getElem hi'] at b
      cases a
      cases b
      obtain ⟨v', z1, z2⟩ := RpAll.get ao (List.getElem?_eq_getElem hi)
      rw [List.getElem?_eq_getElem hi'] at z1
      cases z1
      exact .dat z2
    · rw [List.getElem?_append_right (by rw [List.length_map]; omega), List.getElem?_replicate] at a
      split at a
      · cases a; exact .no
      · cases a
  · rw [lc]; exact List.nodup_nil
  · rw [lc] at h; cases h
  · rw [owns_append, owns_no, List.append_nil]
    have := mkSlots_nd 0 (as.map FA.dat)
    rw [slots_dats] at this
    exact this
  · rw [lc] at h; cases h
theorem fnL_of {x qual : Str} {params : Arguments} {body : List Stmt} {scope : Scope} {dvs : List V} {kws : List (Str × V)} {f : Addr} {fd : FuncData} {N ps : List Str} {k n np : Nat} {m : Sg → Rs (List Dat)} (F : FunD K x qual params body scope dvs kws f fd) (S : FnScope N ps scope) (hn : N.length = n) (hp : ps.length = np)
    (hbody : ∀ (cdv : Value) (A : Around) (outer : List Env) (s : Shared) (H : Hp) (E : XK), Room k (A.deeper (envOfC qual scope s.heap.objs.size f cdv)) → (A.deeper (envOfC qual scope s.heap.objs.size f cdv)).guards = some [] →
      PSs (cxOf (L2.CX P w) P w K mg base N qual scope f cdv A outer s H E) body (tSL cm K (fun cls d _ H' => E cls d H') m)) : FnG P w K mg base (L2.CX P w) (k + 1) f fd ps (spL cm K (runL np n m)) := by
  have len : ∀ vs H Q E, spL cm K (runL np n m) vs H Q E → vs.length = ps.length := fun vs H Q E ⟨M, as, ds, _, a, o, _⟩ => by
    unfold runL at o
    by_cases hl : as.length = np
    · rw [RpAll.length a, hl, hp]
    · rw [if_neg hl] at o; cases o
  obtain ⟨oc, od, dV, kV, doc, pm, an, cdv, ct, osl, rfl, lk, hcd, _, _⟩ := F.ex
  refine ⟨len, fun A outer s H args us vs Q E hr hg e0 hb r hsp => ?_⟩
  have hl := len _ _ _ _ hsp
  have KX : K.In s.heap := e0.mod.kin.keeps fun b o e => (e0.bs b o e).1
  have lim0 : s.heap.NoLimit := e0.mod.nolimit.keeps fun b o e => (e0.bs b o e).1
  refine codeAny_call_function hr.depth (KX _ _ lk) rfl S.co S.gen rfl (PySem.W.codeRec_of KX hcd) (hb _ _ _ _ (wpAny_newFunctionEnv_cells S.kind (fun ⟨nm, v⟩ hy => ?_) fun env he s1 y => ?_))
  · rcases S.par nm (List.of_mem_zip hy).1 with q | q
    · exact Or.inl q
    · exact Or.inr ⟨q, PySem.W.cellsFrom_some _ _ _ (Or.inl q)⟩
  · subst he
    refine ⟨lim0.keeps y.toInCall.keep, codeAny_func ?_⟩
    have I : L2.Inv (cxOf (L2.CX P w) P w K mg base N qual scope f cdv A outer s H E) [] (L2.start N vs) H s1 := inv_start S hr.hd e0 hl r y
    have ht := hbody cdv A outer s H E (hr.deeper _) (guards_deeper hg)
    obtain ⟨M, as, ds, lv, ao, hL, hq⟩ := hsp
    have hla : as.length = np := by rw [← RpAll.length ao, hl, hp]
    unfold runL at hL
    rw [if_pos hla] at hL
    have ha : tSL cm K (fun cls d _ H' => E cls d H') m { nx := fun _ H' => Q .non H', rt := Q } (L2.start N vs) H := by
      refine ⟨⟨cm, K, M, H, [], []⟩, _, rfl, rfl, rel_start hn hla lv ao, ?_⟩
      cases hm : m (as.map Slot.dat ++ List.replicate (n - np) .no) with
      | bad => rw [hm] at hL; cases hL
      | exc c fs S' => rw [hm] at hL; cases hL
      | ok ds' S' =>
        rw [hm] at hL
        cases hL
        intro l xs σ1 H1 R1 s1 hl rx
        exact hq l xs H1 (fun a o q => R1.keep a o q (by simp)) hl (RpAll.mono (hid_sub fun a h => List.mem_append_left _ h) rx)
    refine wpAny_mono (ht.run [] s1 (L2.start N vs) H _ I ha) (fun fl s' hs => ?_) fun e s' hs => hs
    cases fl with
    | ret u => obtain ⟨v, σ', H', J, rv, q⟩ := hs; exact ⟨v, H', J.os, J.bare, J.base, J.hok, rv, q⟩
    | next => obtain ⟨σ', H', J, q⟩ := hs; exact ⟨V.non, H', J.os, J.bare, J.base, J.hok, (rfl : Value.none = Value.none), q⟩
    | brk => obtain ⟨_, _, _, q⟩ := hs; exact q.elim
    | cont => obtain ⟨_, _, _, q⟩ := hs; exact q.elim
end

/-! ### its call, and the new list lent at once -/
def datsA : List AV → Option (List Dat)
  | [] => some []
  | .dat d :: r => (datsA r).map (d :: ·)
  | _ => none
theorem datsA_ok {cm : CM} {K : PySem.W.Frag} {σ : L2.St} {G : Hp} : ∀ {vs : List V} {as : List AV} {ds : List Dat}, AvsOk cm K σ G vs as → datsA as = some ds → RpAll cm K G vs ds
  | _, _, _, .nil, h => by cases h; exact .nil
  | _, _, _, .dat (as := as) a b, h => by
    unfold datsA at h
    cases hd : datsA as with
    | none => rw [hd] at h; cases h
    | some r => rw [hd] at h; cases h; exact .cons a (datsA_ok b hd)
  | _, _, _, .slot a b, h => by cases h
section
variable {X : Cx} {cm : CM} {W : WX} {a b e o : Expr} {es : List Expr} {ma mb : ME} {mr mk : MAv} {mrA : MA} {mL : Sg → Rs (List Dat)} {pos p : Pos} {k n m : Nat} {f : Addr} {fd : FuncData} {ps ks : List Str} {Fn : List FA → RF} {L : List Dat → Option (List Dat)} {x c nm : Str} {gV gW : List V → List V → List V} {arr : List AV → List AV → List AV}
def lCall (L : List Dat → Option (List Dat)) (n : Nat) (mr : MAv) : Sg → Rs (List Dat) := fun S => (mr S).bind fun as S1 => if as.length = n then (match datsA as with
  | some ds => Rs.of (L ds) S1
  | none => .bad) else .bad
theorem gl_call (Fk : FnG X.prog X.w X.K X.mg X.base (L2.CX X.prog X.w) k f fd ps (spL cm X.K L)) (hr : Room k X.A) (hgd : X.A.guards = some []) (tk : Takes X W) (hg : Gl X x) (hm : X.mg x = some (.ref f)) (hk : PySem.W.keepIn X.K (.ref f) = true) (hb : ∃ g, KBn X.K fd ps n [] g (fun vs _ => vs))
    (ha : PA X (e :: es) (tAv cm X.K W mr)) (hdb : (x == ("__debug__" : Str)) = false := by decide) (he : starEach (e :: es) X.env = (false, eval e X.env) :: starEach es X.env := by rfl) (hpl : (backTo pos (starEach es X.env)).any (·.1) = false := by rfl) :
    PE X (.Call (.Name x p) (e :: es) [] pos) (tL cm X.K W (lCall L n mr)) := by
  obtain ⟨g, hb⟩ := hb
  refine ⟨fun pins s σ H Q I ⟨F, S, e1, e2, R, h⟩ => wpAny_Call_Name_kw (ld_glob I hg hm (PySem.W.callWith_K (h₀ := X.base) I.ok.mod.kin hk (thn (ha.run pos pins s σ H (fun vs H1 => ∃ as S1 ds es, Rel F S1 σ H1 ∧ as.length = n ∧ AvsOk cm X.K σ (vis F S1 σ H1) vs as ∧ datsA as = some ds ∧ L ds = some es ∧ outL F W σ (vis F S1 σ H1) Q (.ok es S1)) I
      (tG_bindL e1 e2 R h fun vs H1 as S1 R1 s1 p1 h1 => ?_)) fun us s1 ⟨vs, H1, I1, r, as, S1, ds, es', R1, hl, p1, hd, hL, h1⟩ => ⟨I1.kIn, ?_⟩) he hpl) hdb)⟩
  · by_cases hz : as.length = n
    · rw [if_pos hz] at h1
      cases hd : datsA as with
      | none => rw [hd] at h1; exact h1.elim
      | some ds =>
        rw [hd] at h1
        dsimp only at h1
        cases hL : L ds with
        | none => rw [hL] at h1; exact h1.elim
        | some es' => rw [hL] at h1; exact ⟨as, S1, ds, es', R1, hz, p1, hd, hL, h1⟩
    · rw [if_neg hz] at h1; exact h1.elim
  · have lv : vs.length = n := by rw [AvsOk.length p1]; exact hl
    refine run_g (us := us) (kw := []) Fk hr hgd tk I1 (hb.to s1 us [] I1.kIn (by rw [← r.length]; exact lv) rfl) (hb.rel r .nil) ⟨F.M ++ locs S1 σ, ds, es', R1.live, datsA_ok p1 hd, hL, fun l xs H2 s2 hl2 rx => ?_⟩
    exact h1 l xs H2 (R1.grow s2) (vis_grow s2) hl2 (by rw [e1, e2]; exact rx)
/-- f(new list), the list lent -/
def mLend (Fn : List FA → RF) (mL : Sg → Rs (List Dat)) : ME := fun S => (mL S).bind fun ds S1 => match Fn [.own (.lst ds)] with
  | .ok d [_] => .ok d S1
  | .exc c es [_] => .exc c es S1
  | _ => .bad
theorem ge_lend (Fk : FnG X.prog X.w X.K X.mg X.base (L2.CX X.prog X.w) k f fd ps (spF cm X.K Fn)) (hr : Room k X.A) (hgd : X.A.guards = some []) (tk : Takes X W) (hg : Gl X x) (hm : X.mg x = some (.ref f)) (hk : PySem.W.keepIn X.K (.ref f) = true) (hb : ∃ g, KBn X.K fd ps 1 [] g (fun vs _ => vs))
    (ha : PE X e (tL cm X.K W mL)) (hdb : (x == ("__debug__" : Str)) = false := by decide) (he : starEach [e] X.env = (false, eval e X.env) :: starEach [] X.env := by rfl) (hpl : (backTo pos (starEach [] X.env)).any (·.1) = false := by rfl) :
    PE X (.Call (.Name x p) [e] [] pos) (tE cm X.K W (mLend Fn mL)) := by
  obtain ⟨g, hb⟩ := hb
  refine ⟨fun pins s σ H Q I ⟨F, S, e1, e2, R, h⟩ => wpAny_Call_Name_kw (ld_glob I hg hm (PySem.W.callWith_K (h₀ := X.base) I.ok.mod.kin hk (thn ((pa_cons ha pa_nil he).run pos pins s σ H (fun vs H1 => ∃ l xs ds S1 H0, vs = [.ref l] ∧ H1 = upd H0 l (.lst xs) ∧ H0 l = none ∧ Rel F S1 σ H0 ∧ RpAll F.cm F.K (vis F S1 σ H0) xs ds ∧ out F W σ (vis F S1 σ H0) (rE cm X.K) Q (match Fn [.own (.lst ds)] with
      | .ok d [_] => .ok d S1
      | .exc c es [_] => .exc c es S1
      | _ => .bad)) I ?_) fun us s1 ⟨vs, H1, I1, r, l, xs, ds, S1, H0, ev, eH, hl, R1, p1, h1⟩ => ⟨I1.kIn, ?_⟩) he hpl) hdb)⟩
  · refine ⟨F, S, e1, e2, R, ?_⟩
    unfold mLend at h
    cases hm : mL S with
    | bad => rw [hm] at h; exact h
    | exc c fs S1 => rw [hm] at h; exact h
    | ok ds S1 =>
      rw [hm] at h
      intro l xs H1 R1 s1 hl rx
      exact ⟨l, xs, ds, S1, H1, rfl, rfl, hl, R1, rx, out_same s1 h⟩
  · subst ev
    subst eH
    have sn : Same H0 (upd H0 l (.lst xs)) := same_new hl
    have lv : live (l :: (F.M ++ locs S1 σ)) (upd H0 l (.lst xs)) := fun m hm => by
      rcases List.mem_cons.mp hm with e | e
      · rw [e, upd_same]; simp
      · exact upd_some (R1.hlive e)
    have gM : Same (vis F S1 σ H0) (hid (l :: (F.M ++ locs S1 σ)) (upd H0 l (.lst xs))) := fun a o q => by
      unfold vis at q
      by_cases ha : a ∈ F.M ++ locs S1 σ
      · rw [hid_in ha] at q; cases q
      · rw [hid_out ha] at q
        have hax : a ≠ l := ne_of_none q hl
        rw [hid_out fun z => (List.mem_cons.mp z).elim hax ha]
        exact sn a o q
    have keepH : ∀ {H' : Hp}, (∀ a o, (upd H0 l (.lst xs)) a = some o → a ∉ [l] → H' a = some o) → Same H0 H' := fun kp a o q => kp a o (sn a o q) fun z => ne_of_none q hl (List.mem_singleton.mp z)
    refine run_g (us := us) (kw := []) Fk hr hgd tk I1 (hb.to s1 us [] I1.kIn (by rw [← r.length]; rfl) rfl) (hb.rel r .nil) ⟨l :: (F.M ++ locs S1 σ), [.own (.lst ds)], [l], lv, fun y hy => by rw [List.mem_singleton.mp hy]; exact List.mem_cons_self .., List.nodup_cons.mpr ⟨by simp, List.nodup_nil⟩, .own (.lst upd_same (by rw [← e1, ← e2]; exact RpAll.mono gM p1)) .nil, ?_⟩
    cases hF : Fn [.own (.lst ds)] with
    | bad => rw [hF] at h1; exact h1
    | ok d outs =>
      rw [hF] at h1
      intro v H' kp oo rv
      cases outs with
      | nil => cases oo
      | cons o1 rr =>
        cases rr with
        | cons _ _ => exact h1.elim
        | nil =>
          have sm := keepH kp
          exact h1 v H' (R1.grow sm) (vis_grow sm) (rv.mono (hid_sub fun a ha => List.mem_cons_of_mem _ ha))
    | exc c' es' outs =>
      rw [hF] at h1
      intro da gs H' kp oo hda rg
      cases outs with
      | nil => cases oo
      | cons o1 rr =>
        cases rr with
        | cons _ _ => exact h1.elim
        | nil =>
          have sm := keepH kp
          have z := h1 da gs H' (R1.grow sm) (vis_grow sm) (hid_sub (fun a ha => List.mem_cons_of_mem _ ha) _ _ hda) (by rw [e1, e2]; exact rg.mono (hid_sub fun a ha => List.mem_cons_of_mem _ ha))
          rw [e1] at z
          exact z
end

/-! ### the end -/
theorem head_call {P : Program} {w : World} {K : PySem.W.Frag} {mg mb : Str → Option Value} {k : Nat} {fa a : Addr} {fd : FuncData} {x : Str} {sp : Sp} {s₁ : Shared} {vs : List Value} {ns : List Int}
    (kin : K.In s₁.heap) (gns : s₁.heap.Ns mainGlobals mg) (bns : s₁.heap.Ns builtinsNs mb) (bfix : ∀ y : Str, y ≠ "__name__" → mb y = bootBuiltins y) (nol : s₁.heap.NoLimit) (gen0 : s₁.gens = #[])
    (at_ : s₁.heap.get? a = some { cls := .type "list", data := .seq vs.toArray }) (hin : IntsAre vs ns) (short : ns.length ≤ sizeLine) (room : Room k callerA)
    (FF : ∀ base : Heap, K.In base → base.Ns mainGlobals mg → FnG P w K mg base (L2.CX P w) k fa fd [x] sp) (bnd : ∀ (s : Shared) (u : Value), BindsTo s fd ⟨[u], []⟩ [(x, u)])
    (good : ∀ H : Hp, Only H → SqL K H a (ns.map V.int) → sp [.ref a] H (fun v _ => v = .bl true) fun _ _ _ => False) :
    codeAny (model P w) callerA (.call (.ref fa) ⟨[.ref a], []⟩) (fun r s' => r = .ok (.ret (.bool true)) ∧ OldK s₁.heap s'.heap ∧ s'.os = s₁.os ∧ AllBare s'.gens) s₁ := by
  have vi := vals_ints hin
  have li := hin.length
  have main : ∀ H : Hp, Only H → SqL K H a (ns.map V.int) → HOk P w H s₁.heap → (∀ y, H y ≠ none → y = a) → (H a ≠ none → K.lookup a = none) →
      codeAny (model P w) callerA (.call (.ref fa) ⟨[.ref a], []⟩) (fun r s' => r = .ok (.ret (.bool true)) ∧ OldK s₁.heap s'.heap ∧ s'.os = s₁.os ∧ AllBare s'.gens) s₁ := fun H only sq hok sole offK => by
    have dictN : ∀ {y : Addr} {o : Obj} {es : Array DictEntry} {ep : Nat}, s₁.heap.get? y = some o → o.data = .dict es ep → H y = none := fun {y o es ep} q1 q2 => by
      cases hq : H y with
      | none => rfl
      | some u =>
        have hy : y = a := sole y (by rw [hq]; simp)
        subst hy
        rw [at_] at q1
        cases q1
        cases (show Data.seq vs.toArray _ = Data.dict es ep from q2)
    have nsH : ∀ {y : Addr} {m : Str → Option Value}, s₁.heap.Ns y m → (hidT s₁.heap H).Ns y m := fun {y m} ⟨o, es, ep, q1, q2, q3⟩ => ⟨o, es, ep, hidT_get q1 (dictN q1 q2), q2, q3⟩
    have kinH : K.In (hidT s₁.heap H) := fun y o q1 => hidT_get (kin y o q1) (by
      cases hq : H y with
      | none => rfl
      | some u =>
        have hy : y = a := sole y (by rw [hq]; simp)
        subst hy
        rw [offK (by rw [hq]; simp)] at q1
        cases q1)
    have modH : Mod K mg (hidT s₁.heap H) := ⟨kinH, nsH gns, ⟨mb, nsH bns, bfix⟩, let ⟨mc, z1, z2⟩ := nol; ⟨mc, nsH z1, z2⟩⟩
    have env : Env0 P w K mg (hidT s₁.heap H) callerA [] s₁ H := ⟨rfl, modH, fun y o q1 => of_hidT q1, Nat.le_of_eq (hidT_size _ _), trivial, fun y hy => (by cases (show y ∈ ([] : List Addr) from hy)), hok, .of_eq gen0⟩
    refine codeAny_mono ((FF _ kinH (nsH gns)).run callerA [] s₁ H ⟨[.ref a], []⟩ [.ref a] [.ref a] _ _ room rfl env (bnd s₁ (.ref a)) (.cons rfl .nil) (good H only sq)) fun r s' z => ?_
    rcases r with er | fl
    · obtain ⟨_, _, _, _, _, _, _, _, _, _, _, _, y⟩ := z
      exact y.elim
    · rcases fl with _ | _ | _ | u
      · exact False.elim z
      · exact False.elim z
      · exact False.elim z
      · obtain ⟨v, H', z1, z2, un, hok', z3, z4⟩ := z
        obtain rfl : v = .bl true := z4
        obtain rfl : u = Value.bool true := z3
        refine ⟨rfl, OldK.of_keep fun y o q1 => ?_, z1, z2⟩
        cases hq : H y with
        | none => exact un.keep y o q1 hq (fun z => by cases (show y ∈ ([] : List Addr) from z)) (by simp)
        | some u =>
          rcases only y with q2 | ⟨ob, xs, q2⟩
          · rw [hq] at q2; cases q2
          · obtain ⟨w1, _⟩ := hok y _ q2
            obtain ⟨w2, _⟩ := hok' y _ (un.frzs y ob _ q2)
            rw [q1] at w1
            cases w1
            exact w2
  cases look : K.lookup a with
  | some o =>
    have q1 := kin a o look
    rw [at_] at q1
    cases q1
    refine main (fun _ => none) (fun _ => .inl rfl) (.inr ⟨_, vs.toArray, _, look, rfl, rfl, rfl, by rw [List.size_toArray, li]; exact short, by simpa using vi⟩) (fun y u q => by cases (show (none : Option HO) = some u from q)) (fun y q => absurd rfl q) fun q => absurd rfl q
  | none =>
    refine main (fun y => if y = a then some (.frz { cls := .type "list", data := .seq vs.toArray } (.lst (ns.map V.int))) else none) (fun y => ?_) (.inl (.inr ⟨{ cls := .type "list", data := .seq vs.toArray }, if_pos rfl⟩)) (fun y u q => ?_) (fun y q => ?_) fun _ => look
    · by_cases hy : y = a
      · exact .inr ⟨_, _, if_pos hy⟩
      · exact .inl (if_neg hy)
    · by_cases hy : y = a
      · cases (if_pos hy).symm.trans q
        subst hy
        exact ⟨at_, by rw [List.length_map]; exact short, vs, _, vi, at_⟩
      · cases (if_neg hy).symm.trans q
    · by_cases hy : y = a
      · exact hy
      · exact absurd (if_neg hy) q
theorem ro_ints {cm : CM} {K : PySem.W.Frag} {G : Hp} : ∀ ns : List Int, RpAll cm K G (ns.map V.int) (ns.map Dat.int)
  | [] => .nil
  | n :: r => .cons (.int n) (ro_ints r)
theorem end_of {l : PySem.W.OpenLaw} {n k : Nat} {q : Program} {loose : List Str} {XP : (Str → Option Value) → Heap → Prop} {YP : World → Heap → Prop} {d : DefRec} {K : Params → PySem.W.Frag} {x : Str} {Fn : List FA → RF}
    (hn : l.most = some n) (hn2 : n ≤ sizeLine) (hdf : d.params.defaults = []) (hr : Room k callerA)
    (hY : ∀ (w : World) (h : Heap), YP w h → (K w.params).In h)
    (F : ∀ (w : World) (mg : Str → Option Value) (fa : Addr) (h : Heap), (K w.params).In h → h.Ns mainGlobals mg → mg d.name = some (.ref fa) →
      ∃ (fd : FuncData) (cm : CM), (∀ (s : Shared) (u : Value), BindsTo s fd ⟨[u], []⟩ [(x, u)]) ∧
        ∀ base : Heap, (K w.params).In base → base.Ns mainGlobals mg → FnG l.prog w (K w.params) mg base (L2.CX l.prog w) k fa fd [x] (spF cm (K w.params) Fn))
    (good : ∀ ns : List Int, ns.length ≤ n → Fn [.dat (.ro (ns.map .int))] = .ok (.bl true) []) :
    PySem.W.WalkO q loose XP YP l.row.toRowW d [] (fun f vs => PySem.call f vs) := by
  refine Att.attach_call hn hdf fun w s₀ s₁ mg mb fa o pm cd doc a vs ns G Y ho hd hcd hmg hobj hints hlen hg => ?_
  have KX := hY w _ Y
  obtain ⟨fd, cm, hb, hF⟩ := F w mg fa _ KX G.T.g hmg
  refine head_call KX G.T.g G.T.b G.T.builtins G.T.nolimit hg hobj hints (Nat.le_trans hlen hn2) hr hF hb fun H hO hS => ?_
  have e0 : hid [] H = H := by
    funext y
    exact hid_out (by simp)
  refine ⟨[], [.dat (.ro (ns.map .int))], [], fun m hm => (by cases hm), by simp, List.nodup_nil, .dat (.ro (by rw [e0]; exact hS) (ro_ints ns)) .nil, ?_⟩
  rw [good ns hlen]
  intro v H' _ _ rv
  cases rv
  rfl
end Mir

/-! MirP: what the top has written, by names -/
namespace Mir
open PySem PySem.Spec PyProof.Rows L2

inductive Tr where
  | b (T : String)
  | c (x : Str)
def Tr.v (K : PySem.W.Frag) : Tr → Value
  | .b T => .type T
  | .c x => .ref (He.ga K x)
inductive Ad where
  | glo (x : Str)
  | mth (x m : Str)
  | get (x m : Str)
def pAd (K : PySem.W.Frag) (x m : Str) : Addr := He.ma K (He.ga K x) m
def gAd (K : PySem.W.Frag) (x m : Str) : Addr := match PySem.W.recIn K (pAd K x m) "property" with
  | some (.ref g :: _) => g
  | _ => 0
def Ad.a (K : PySem.W.Frag) : Ad → Addr
  | .glo x => He.ga K x
  | .mth x m => He.ma K (He.ga K x) m
  | .get x m => gAd K x m
inductive Fc where
  | he (f : He.Fa)
  | clsF (x : Str)
  | prop (x m : Str)
  | kit (a b : Tr) (r : Bool)
  | eqf (x : Str)
  | rep (x : Str)
  | nf (x y : Str)
  | tupc (x : Str) (vs : List He.Dv)
  /-- the class x has y's method m -/
  | methI (x y m : Str)
  | propI (x y m : Str)
  | eqfI (x y : Str)
  | repI (x y : Str)
  /-- exceptions of the program over ValueError: the class; its own __init__; a base that has none; an except clause; isinstance of several -/
  | oex (x : Str)
  | xin (x : Str)
  | xbs (x : Str)
  | exmT (x : Str) (t : Tr) (b : Bool)
  | xc (x : Str)
  | xfl (x : Str)
  | kitA (a : Tr) (ts : List Tr) (r : Bool)
/-- an own exception class: its object, as it stands in the written part -/
def oexB (K : PySem.W.Frag) (C : Addr) : Bool := match List.lookup C K with
  | some ob => (match ob.cls, ob.data with
    | .type tn, .cls cd => tn == "type" && (match cd.mro, ob.slots.toList with
      | .ref C1 :: more, [_, _, _, _, some (.builtin nw), _] => C1 == C && (nw == "ValueError.__new__" && (!cd.hasDel && (cd.hasDict && PySem.HandSPX.refsVE more)))
      | _, _ => false)
    | _, _ => false)
  | none => false
def Fc.ok (K : PySem.W.Frag) : Fc → Bool
  | .he f => f.ok K
  | .clsF x => (He.Fa.cls x).ok K && (He.eqO (PySem.W.findIn K (.ref (He.ga K x)) "__class__") (some (some (.builtin "object.__class__"))) && (He.eqO (PySem.W.specialIn K (.builtin "object.__class__") "__get__") (some (some (.builtin "getset_descriptor.__get__"))) &&
      (decide (PySem.W.takesIn K (.builtin "object.__class__") = some true) && decide (PySem.W.mroIn K (He.ga K x) (.type "object") = some true))))
  | .prop x m => He.eqO (PySem.W.findIn K (.ref (He.ga K x)) m) (some (some (.ref (pAd K x m)))) && (He.eqO (PySem.W.specialIn K (.ref (pAd K x m)) "__get__") (some (some (.builtin "property.__get__"))) &&
      (decide (PySem.W.takesIn K (.ref (pAd K x m)) = some true) && (match PySem.W.recIn K (pAd K x m) "property" with
        | some (.ref _ :: _) => true
        | _ => false)))
  | .kit a b r => decide (PySem.W.kitOne K (a.v K) (b.v K) = some r)
  | .eqf x => He.eqO (PySem.W.findIn K (.ref (He.ga K x)) "__eq__") (some (some (.ref (He.ma K (He.ga K x) "__eq__")))) && (PySem.W.isFn K (.ref (He.ma K (He.ga K x) "__eq__")) &&
      (He.eqO (PySem.W.findIn K (.ref (He.ga K x)) "__ne__") (some (some (.builtin "object.__ne__"))) && decide (PySem.W.mroIn K (He.ga K x) (.type "object") = some true)))
  | .rep x => He.eqO (PySem.W.findIn K (.ref (He.ga K x)) "__repr__") (some (some (.ref (He.ma K (He.ga K x) "__repr__")))) && PySem.W.isFn K (.ref (He.ma K (He.ga K x) "__repr__"))
  | .nf x y => PySem.W.notFirst K (He.ga K x) (.ref (He.ga K y))
  | .tupc x vs => (He.Fa.glo x).ok K && He.tupB K x vs
  | .methI x y m => He.eqO (PySem.W.findIn K (.ref (He.ga K x)) m) (some (some (.ref (He.ma K (He.ga K y) m)))) && (PySem.W.isFn K (.ref (He.ma K (He.ga K y) m)) && PySem.W.keepIn K (.ref (He.ma K (He.ga K y) m)))
  | .propI x y m => He.eqO (PySem.W.findIn K (.ref (He.ga K x)) m) (some (some (.ref (pAd K y m)))) && (He.eqO (PySem.W.specialIn K (.ref (pAd K y m)) "__get__") (some (some (.builtin "property.__get__"))) &&
      (decide (PySem.W.takesIn K (.ref (pAd K y m)) = some true) && (match PySem.W.recIn K (pAd K y m) "property" with
        | some (.ref _ :: _) => true
        | _ => false)))
  | .eqfI x y => He.eqO (PySem.W.findIn K (.ref (He.ga K x)) "__eq__") (some (some (.ref (He.ma K (He.ga K y) "__eq__")))) && (PySem.W.isFn K (.ref (He.ma K (He.ga K y) "__eq__")) &&
      (He.eqO (PySem.W.findIn K (.ref (He.ga K x)) "__ne__") (some (some (.builtin "object.__ne__"))) && decide (PySem.W.mroIn K (He.ga K x) (.type "object") = some true)))
  | .oex x => oexB K (He.ga K x) && (He.eqO (PySem.W.findIn K (.ref (He.ga K x)) "__setattr__") (some (some (.builtin "object.__setattr__"))) && (decide (PySem.W.subIn K (.ref (He.ga K x)) (.type "BaseException") = some true) && (decide (PySem.W.typeIn K (.ref (He.ga K x)) = some (.type "type")) && PySem.W.keepIn K (.ref (He.ga K x)))))
  | .xin x => He.eqO (PySem.W.findIn K (.ref (He.ga K x)) "__init__") (some (some (.ref (He.ma K (He.ga K x) "__init__")))) && decide (PySem.W.typeIn K (.ref (He.ma K (He.ga K x) "__init__")) = some (.type "function"))
  | .xbs x => He.eqO (PySem.W.specialIn K (.ref (He.ga K x)) "__getattribute__") (some (some (.builtin "type.__getattribute__"))) && (PySem.W.readsIn K (He.ga K x) (.type "type") && (match PySem.W.findCls K (.ref (He.ga K x)) (.type "type") "__init__" with
    | some (.val (.builtin id)) => id == "ValueError.__init__"
    | _ => false))
  | .exmT x t b => decide (PySem.W.exmOne K (.ref (He.ga K x)) (t.v K) = some b)
  | .xc x => (PySem.W.clsIn K (He.ga K x)).isSome && (He.eqO (PySem.W.findIn K (.ref (He.ga K x)) "__getattribute__") (some (some (.builtin "BaseException.__getattribute__"))) && (He.eqO (PySem.W.findIn K (.ref (He.ga K x)) "__getattr__") (some none) && (decide (PySem.W.subIn K (.ref (He.ga K x)) (.type "BaseException") = some true) &&
      (He.eqO (PySem.W.findIn K (.ref (He.ga K x)) "__class__") (some (some (.builtin "object.__class__"))) && (He.eqO (PySem.W.specialIn K (.builtin "object.__class__") "__get__") (some (some (.builtin "getset_descriptor.__get__"))) && (decide (PySem.W.takesIn K (.builtin "object.__class__") = some true) && decide (PySem.W.mroIn K (He.ga K x) (.type "object") = some true)))))))
  | .xfl x => xfB K (He.ga K x)
  | .kitA a ts r => decide (PySem.W.kitAny K (a.v K) (ts.map (Tr.v K)) = some r)
  | .repI x y => He.eqO (PySem.W.findIn K (.ref (He.ga K x)) "__repr__") (some (some (.ref (He.ma K (He.ga K y) "__repr__")))) && PySem.W.isFn K (.ref (He.ma K (He.ga K y) "__repr__"))
section
variable {K : PySem.W.Frag} {x y m : Str}
theorem clsF_ok (c : (Fc.clsF x).ok K = true) : ClsF K (He.ga K x) := by
  obtain ⟨c1, c⟩ := He.ba c
  obtain ⟨c2, c⟩ := He.ba c
  obtain ⟨c3, c⟩ := He.ba c
  obtain ⟨c4, c5⟩ := He.ba c
  exact ⟨He.cls_ok c1, He.eqO_ok c2, He.eqO_ok c3, of_decide_eq_true c4, of_decide_eq_true c5⟩
theorem prop_ok (c : (Fc.prop x m).ok K = true) : PropOf K (He.ga K x) m (pAd K x m) (gAd K x m) := by
  obtain ⟨c1, c⟩ := He.ba c
  obtain ⟨c2, c⟩ := He.ba c
  obtain ⟨c3, c4⟩ := He.ba c
  refine ⟨He.eqO_ok c1, He.eqO_ok c2, of_decide_eq_true c3, ?_⟩
  unfold gAd
  cases h : PySem.W.recIn K (pAd K x m) "property" with
  | none => rw [h] at c4; cases c4
  | some l =>
    rw [h] at c4
    cases l with
    | nil => cases c4
    | cons v r =>
      cases v with
      | ref g => exact ⟨r, rfl⟩
      | _ => cases c4
theorem kit_ok {a b : Tr} {r : Bool} (c : (Fc.kit a b r).ok K = true) : PySem.W.kitOne K (a.v K) (b.v K) = some r := of_decide_eq_true c
theorem eqf_ok (c : (Fc.eqf x).ok K = true) : EqF K (He.ga K x) (He.ma K (He.ga K x) "__eq__") := by
  obtain ⟨c1, c⟩ := He.ba c
  obtain ⟨c2, c⟩ := He.ba c
  obtain ⟨c3, c4⟩ := He.ba c
  exact ⟨He.eqO_ok c1, c2, He.eqO_ok c3, of_decide_eq_true c4⟩
theorem rep_ok (c : (Fc.rep x).ok K = true) : PySem.W.findIn K (.ref (He.ga K x)) "__repr__" = some (some (.ref (He.ma K (He.ga K x) "__repr__"))) ∧ PySem.W.isFn K (.ref (He.ma K (He.ga K x) "__repr__")) = true := by
  obtain ⟨c1, c2⟩ := He.ba c
  exact ⟨He.eqO_ok c1, c2⟩
theorem propI_ok (c : (Fc.propI x y m).ok K = true) : PropOf K (He.ga K x) m (pAd K y m) (gAd K y m) := by
  obtain ⟨c1, c⟩ := He.ba c
  obtain ⟨c2, c⟩ := He.ba c
  obtain ⟨c3, c4⟩ := He.ba c
  refine ⟨He.eqO_ok c1, He.eqO_ok c2, of_decide_eq_true c3, ?_⟩
  unfold gAd
  cases h : PySem.W.recIn K (pAd K y m) "property" with
  | none => rw [h] at c4; cases c4
  | some l =>
    rw [h] at c4
    cases l with
    | nil => cases c4
    | cons v r =>
      cases v with
      | ref g => exact ⟨r, rfl⟩
      | _ => cases c4
theorem eqfI_ok (c : (Fc.eqfI x y).ok K = true) : EqF K (He.ga K x) (He.ma K (He.ga K y) "__eq__") := by
  obtain ⟨c1, c⟩ := He.ba c
  obtain ⟨c2, c⟩ := He.ba c
  obtain ⟨c3, c4⟩ := He.ba c
  exact ⟨He.eqO_ok c1, c2, He.eqO_ok c3, of_decide_eq_true c4⟩
theorem repI_ok (c : (Fc.repI x y).ok K = true) : PySem.W.findIn K (.ref (He.ga K x)) "__repr__" = some (some (.ref (He.ma K (He.ga K y) "__repr__"))) ∧ PySem.W.isFn K (.ref (He.ma K (He.ga K y) "__repr__")) = true := by
  obtain ⟨c1, c2⟩ := He.ba c
  exact ⟨He.eqO_ok c1, c2⟩
theorem oexB_ok {C : Addr} (h : oexB K C = true) : ∃ nm q N bs bm sn sub ab col dd k0 k1 k2 k3 k5, List.lookup C K = some (excClassObj nm q C N bs bm true sn sub ab col dd k0 k1 k2 k3 k5 "ValueError.__new__") ∧ PySem.HandSPX.refsVE bm = true := by
  unfold oexB at h
  split at h
  · rename_i ob ho
    obtain ⟨oc, od, dt, sl⟩ := ob
    dsimp only at h
    split at h
    · rename_i tn cd
      obtain ⟨h1, h⟩ := He.ba h
      split at h
      · rename_i C1 more k0 k1 k2 k3 nw k5 hm hs
        obtain ⟨h2, h⟩ := He.ba h
        obtain ⟨h3, h⟩ := He.ba h
        obtain ⟨h4, h⟩ := He.ba h
        obtain ⟨h5, h6⟩ := He.ba h
        have e1 := beq_iff_eq.mp h1
        have e2 := beq_iff_eq.mp h2
        have e3 := beq_iff_eq.mp h3
        subst e1 e2 e3
        obtain ⟨c1, c2, c3, c4, c5, c6, c7, c8, c9, c10, c11⟩ := cd
        dsimp only at hm h4 h5
        have e4 : c11 = false := by simpa using h4
        subst hm e4 h5
        obtain ⟨l⟩ := sl
        dsimp only at hs
        subst hs
        exact ⟨_, _, _, _, _, _, _, _, _, _, _, _, _, _, _, ho, h6⟩
      · cases h
    · cases h
  · cases h
theorem nf_ok (c : (Fc.nf x y).ok K = true) : PySem.W.notFirst K (He.ga K x) (.ref (He.ga K y)) = true := c
end
/-! ### defs -/
structure DefM where
  ad : Ad
  name : Str
  qual : Str
  st : Stmt
  dfl : List He.Dv := []
  kwd : List (Str × He.Dv) := []
def fnM (K : PySem.W.Frag) (a : Addr) : He.FnW := match K.lookup a with
  | some ⟨_, _, .func fd, _⟩ => some (fd.name, fd.qualname, fd.params, fd.body, fd.scope, fd.globals, fd.closure, fd.builtins)
  | _ => none
def DefM.val (d : DefM) : He.FnW := some (d.name, d.qual, defArgs d.st, .stmts (defBody d.st), defScope d.st, mainGlobals, [], builtinsNs)
def DefM.dvs (K : PySem.W.Frag) (d : DefM) : List V := d.dfl.map (He.Dv.v K)
def DefM.kws (K : PySem.W.Frag) (d : DefM) : List (Str × V) := d.kwd.map fun q => (q.1, q.2.v K)
def DefM.ok (K : PySem.W.Frag) (d : DefM) : Bool := PySem.W.keepIn K (.ref (d.ad.a K)) && (match K.lookup (d.ad.a K) with
  | some ⟨_, _, .func fd, _⟩ => PySem.W.codeIn K fd.code d.qual && (He.dflB K fd.defaults (d.dvs K) && He.kwdB K fd.kwdefaults (d.kws K))
  | _ => false)
abbrev FunM (K : PySem.W.Frag) (d : DefM) (fd : FuncData) : Prop := FunD K d.name d.qual (defArgs d.st) (defBody d.st) (defScope d.st) (d.dvs K) (d.kws K) (d.ad.a K) fd
theorem DefM.fun_ {K : PySem.W.Frag} {d : DefM} (e : fnM K (d.ad.a K) = d.val) (c : d.ok K = true) : ∃ fd, FunM K d fd := by
  obtain ⟨kp, c2⟩ := He.ba c
  unfold fnM at e
  cases q : K.lookup (d.ad.a K) with
  | none => rw [q] at c2; cases c2
  | some o =>
    obtain ⟨oc, od, dt, osl⟩ := o
    rw [q] at c2 e
    cases dt with
    | func fd =>
      obtain ⟨n1, n2, n3, n4, n5, n6, n7, n8, n9, n10, n11, n12, n13, n14, n15⟩ := fd
      have e2 : (some (n1, n2, n3, n4, n5, n6, n7, n15) : He.FnW) = d.val := e
      unfold DefM.val at e2
      simp only [Option.some.injEq, Prod.mk.injEq] at e2
      obtain ⟨h1, h2, h3, h4, h5, h6, h7, h8⟩ := e2
      subst h1 h2 h3 h4 h5 h6 h7 h8
      have c3 : (PySem.W.codeIn K n13 d.qual && (He.dflB K n8 (d.dvs K) && He.kwdB K n9 (d.kws K))) = true := c2
      obtain ⟨k1, k2⟩ := He.ba c3
      obtain ⟨k3, k4⟩ := He.ba k2
      exact ⟨_, ⟨oc, od, n8, n9, n10, n11, n12, n13, n14, osl, rfl, q, k1, He.dflB_ok k3, He.kwdB_ok k4⟩, kp⟩
    | _ => cases c2
/-! ### the hook -/
def obsM (fa : List Fc) (fn : List DefM) (K : PySem.W.Frag) : He.AlD := ((fa.all fun f => f.ok K) && fn.all fun d => d.ok K, fn.map fun d => fnM K (d.ad.a K))
def SaysM (fa : List Fc) (fn : List DefM) (K : PySem.W.Frag) : Prop := obsM fa fn K = (true, fn.map DefM.val)
def obsMG (n : Nat) (fa : List Fc) (fn : List DefM) (g : Addr → Option Obj) : He.AlD := obsM fa fn (He.frG g (He.asD g n))
def hookM (n : Nat) (fa : List Fc) (fn : List DefM) : PySem.W.Hook where
  α := He.AlD
  obs := fun s => obsMG n fa fn s.heap.get?
  val := fun _ => (true, fn.map DefM.val)
  says := fun _ h => ∃ K : PySem.W.Frag, K.In h ∧ SaysM fa fn K
  of := fun _ _ e => ⟨_, He.frG_in, e⟩
  keeps := fun _ _ _ ⟨K, a, c⟩ k => ⟨K, PySem.W.Frag.In.keeps a k, c⟩
theorem obsMG_eq {n : Nat} {fa : List Fc} {fn : List DefM} {g : Addr → Option Obj} {s : Shared} (h : ∀ a, g a = s.heap.get? a) : obsMG n fa fn g = (hookM n fa fn).obs s := by
  obtain rfl : g = s.heap.get? := funext h
  rfl
/-- what stands fast: the written part and the module's names -/
structure Kn (fa : List Fc) (fn : List DefM) (K : PySem.W.Frag) (mg : Str → Option Value) : Prop where
  ns : ∃ h : Heap, K.In h ∧ h.Ns mainGlobals mg
  says : SaysM fa fn K
section
variable {fa : List Fc} {fn : List DefM} {K : PySem.W.Frag} {mg : Str → Option Value} {x y m : Str}
theorem Kn.fact (c : Kn fa fn K mg) (i : Nat) {f : Fc} (h : fa[i]? = some f := by rfl) : f.ok K = true := by
  have z := (He.ba (show ((fa.all fun f => f.ok K) && fn.all fun d => d.ok K) = true from congrArg (fun z : He.AlD => z.1) c.says)).1
  exact List.all_eq_true.mp z f (List.mem_of_getElem? h)
theorem Kn.def_ (c : Kn fa fn K mg) (i : Nat) {d : DefM} (h : fn[i]? = some d := by rfl) : ∃ fd, FunM K d fd := by
  have z := (He.ba (show ((fa.all fun f => f.ok K) && fn.all fun d => d.ok K) = true from congrArg (fun z : He.AlD => z.1) c.says)).2
  have e : fn.map (fun d => fnM K (d.ad.a K)) = fn.map DefM.val := congrArg (fun z : He.AlD => z.2) c.says
  have e2 : (fn.map fun d => fnM K (d.ad.a K))[i]? = (fn.map DefM.val)[i]? := by rw [e]
  rw [List.getElem?_map, List.getElem?_map, h] at e2
  exact DefM.fun_ (Option.some.inj e2) (List.all_eq_true.mp z d (List.mem_of_getElem? h))
theorem Kn.glo (c : Kn fa fn K mg) (i : Nat) (h : fa[i]? = some (.he (.glo x)) := by rfl) : mg x = some (.ref (He.ga K x)) := by
  obtain ⟨hp, a, b⟩ := c.ns
  exact He.glo_ok a b (c.fact i h)
theorem Kn.free (c : Kn fa fn K mg) (i : Nat) (h : fa[i]? = some (.he (.free x)) := by rfl) : mg x = none := by
  obtain ⟨hp, a, b⟩ := c.ns
  exact He.free_ok a b (c.fact i h)
theorem Kn.int (c : Kn fa fn K mg) (i : Nat) {n : Int} (h : fa[i]? = some (.he (.int x n)) := by rfl) : ∃ t, mg x = some (.int n t) := by
  obtain ⟨hp, a, b⟩ := c.ns
  exact He.int_ok a b (c.fact i h)
theorem Kn.str (c : Kn fa fn K mg) (i : Nat) {z : Str} (h : fa[i]? = some (.he (.str x z)) := by rfl) : ∃ t, mg x = some (.str z t) := by
  obtain ⟨hp, a, b⟩ := c.ns
  exact He.str_ok a b (c.fact i h)
theorem Kn.cls (c : Kn fa fn K mg) (i : Nat) (h : fa[i]? = some (.clsF x) := by rfl) : ClsF K (He.ga K x) := clsF_ok (c.fact i h)
theorem Kn.noat (c : Kn fa fn K mg) (i : Nat) (h : fa[i]? = some (.he (.noat x m)) := by rfl) : NoAttr K (He.ga K x) m := He.noat_ok (c.fact i h)
theorem Kn.meth (c : Kn fa fn K mg) (i : Nat) (h : fa[i]? = some (.he (.meth x m)) := by rfl) : Meth K (He.ga K x) m (He.ma K (He.ga K x) m) := He.meth_ok (c.fact i h)
theorem Kn.mkr (c : Kn fa fn K mg) (i : Nat) (h : fa[i]? = some (.he (.mkr x)) := by rfl) : Mk K (He.ga K x) (He.ma K (He.ga K x) "__init__") := He.mkr_ok (c.fact i h)
theorem Kn.prop (c : Kn fa fn K mg) (i : Nat) (h : fa[i]? = some (.prop x m) := by rfl) : ∃ p, PropOf K (He.ga K x) m p (gAd K x m) := ⟨_, prop_ok (c.fact i h)⟩
theorem Kn.kit (c : Kn fa fn K mg) (i : Nat) {a b : Tr} {r : Bool} (h : fa[i]? = some (.kit a b r) := by rfl) : PySem.W.kitOne K (a.v K) (b.v K) = some r := kit_ok (c.fact i h)
theorem Kn.eqf (c : Kn fa fn K mg) (i : Nat) (h : fa[i]? = some (.eqf x) := by rfl) : EqF K (He.ga K x) (He.ma K (He.ga K x) "__eq__") := eqf_ok (c.fact i h)
theorem Kn.rep (c : Kn fa fn K mg) (i : Nat) (h : fa[i]? = some (.rep x) := by rfl) : PySem.W.findIn K (.ref (He.ga K x)) "__repr__" = some (some (.ref (He.ma K (He.ga K x) "__repr__"))) ∧ PySem.W.isFn K (.ref (He.ma K (He.ga K x) "__repr__")) = true := rep_ok (c.fact i h)
theorem Kn.methI (c : Kn fa fn K mg) (i : Nat) (h : fa[i]? = some (.methI x y m) := by rfl) : Meth K (He.ga K x) m (He.ma K (He.ga K y) m) := by
  have z := c.fact i h
  obtain ⟨c1, z⟩ := He.ba z
  obtain ⟨c2, c3⟩ := He.ba z
  exact ⟨He.eqO_ok c1, c2, c3⟩
theorem Kn.propI (c : Kn fa fn K mg) (i : Nat) (h : fa[i]? = some (.propI x y m) := by rfl) : ∃ p, PropOf K (He.ga K x) m p (gAd K y m) := ⟨_, propI_ok (c.fact i h)⟩
theorem Kn.eqfI (c : Kn fa fn K mg) (i : Nat) (h : fa[i]? = some (.eqfI x y) := by rfl) : EqF K (He.ga K x) (He.ma K (He.ga K y) "__eq__") := eqfI_ok (c.fact i h)
theorem Kn.repI (c : Kn fa fn K mg) (i : Nat) (h : fa[i]? = some (.repI x y) := by rfl) : PySem.W.findIn K (.ref (He.ga K x)) "__repr__" = some (some (.ref (He.ma K (He.ga K y) "__repr__"))) ∧ PySem.W.isFn K (.ref (He.ma K (He.ga K y) "__repr__")) = true := repI_ok (c.fact i h)
theorem Kn.oex (c : Kn fa fn K mg) (i : Nat) (h : fa[i]? = some (.oex x) := by rfl) : OexC K (He.ga K x) := by
  have z := c.fact i h
  obtain ⟨c1, z⟩ := He.ba z
  obtain ⟨c2, z⟩ := He.ba z
  obtain ⟨c3, z⟩ := He.ba z
  obtain ⟨c4, c5⟩ := He.ba z
  exact ⟨oexB_ok c1, He.eqO_ok c2, of_decide_eq_true c3, of_decide_eq_true c4, c5⟩
theorem Kn.xin (c : Kn fa fn K mg) (i : Nat) (h : fa[i]? = some (.xin x) := by rfl) : PySem.W.findIn K (.ref (He.ga K x)) "__init__" = some (some (.ref (He.ma K (He.ga K x) "__init__"))) ∧ PySem.W.typeIn K (.ref (He.ma K (He.ga K x) "__init__")) = some (.type "function") := by
  obtain ⟨c1, c2⟩ := He.ba (c.fact i h)
  exact ⟨He.eqO_ok c1, of_decide_eq_true c2⟩
theorem Kn.xbs (c : Kn fa fn K mg) (i : Nat) (h : fa[i]? = some (.xbs x) := by rfl) : PySem.W.specialIn K (.ref (He.ga K x)) "__getattribute__" = some (some (.builtin "type.__getattribute__")) ∧ PySem.W.readsIn K (He.ga K x) (.type "type") = true ∧ PySem.W.findCls K (.ref (He.ga K x)) (.type "type") "__init__" = some (.val (.builtin "ValueError.__init__")) := by
  obtain ⟨c1, z⟩ := He.ba (c.fact i h)
  obtain ⟨c2, c3⟩ := He.ba z
  refine ⟨He.eqO_ok c1, c2, ?_⟩
  split at c3
  · rename_i id e
    rw [e, beq_iff_eq.mp c3]
  · cases c3
theorem Kn.exmT (c : Kn fa fn K mg) (i : Nat) {t : Tr} {b : Bool} (h : fa[i]? = some (.exmT x t b) := by rfl) : PySem.W.exmOne K (.ref (He.ga K x)) (t.v K) = some b := of_decide_eq_true (c.fact i h)
theorem Kn.xfl (c : Kn fa fn K mg) (i : Nat) (h : fa[i]? = some (.xfl x) := by rfl) : XfC K (He.ga K x) := xfB_ok (c.fact i h)
theorem Kn.kitA (c : Kn fa fn K mg) (i : Nat) {a : Tr} {ts : List Tr} {r : Bool} (h : fa[i]? = some (.kitA a ts r) := by rfl) : PySem.W.kitAny K (a.v K) (ts.map (Tr.v K)) = some r := of_decide_eq_true (c.fact i h)
theorem Kn.nof (c : Kn fa fn K mg) (i : Nat) (h : fa[i]? = some (.he (.noat x m)) := by rfl) : PySem.W.findIn K (.ref (He.ga K x)) m = some none := He.eqO_ok (c.fact i h)
theorem Kn.nf (c : Kn fa fn K mg) (i : Nat) (h : fa[i]? = some (.nf x y) := by rfl) : PySem.W.notFirst K (He.ga K x) (.ref (He.ga K y)) = true := nf_ok (c.fact i h)
end
theorem Kn.tup {fa : List Fc} {fn : List DefM} {K : PySem.W.Frag} {mg : Str → Option Value} {x : Str} {vs : List He.Dv} (c : Kn fa fn K mg) (i : Nat) (h : fa[i]? = some (.tupc x vs) := by rfl) : mg x = some (.ref (He.ga K x)) ∧ ∀ H : Hp, SqT K H (He.ga K x) (vs.map (He.Dv.v K)) := by
  obtain ⟨hp, a, b⟩ := c.ns
  obtain ⟨z1, z2⟩ := He.ba (c.fact i h)
  exact ⟨He.glo_ok a b z1, fun H => He.tupB_ok z2 H⟩
/-! ### names of the module as values; {} -/
section
variable {X : Cx} {cm : CM} {W : WX} {x : Str} {pos : Pos}
theorem ge_gint {i : Int} (hg : Gl X x) (hm : ∃ t, X.mg x = some (.int i t)) (hd : (x == ("__debug__" : Str)) = false := by decide) : PE X (.Name x pos) (tE cm X.K W (mC (.int i))) := by
  obtain ⟨t, hm⟩ := hm
  exact ge_const (pe_glob hg hm (v := .int i) ⟨t, rfl⟩ hd) fun _ => .int i
theorem ge_gstr {z : Str} (hg : Gl X x) (hm : ∃ t, X.mg x = some (.str z t)) (hd : (x == ("__debug__" : Str)) = false := by decide) : PE X (.Name x pos) (tE cm X.K W (mC (.str z))) := by
  obtain ⟨t, hm⟩ := hm
  exact ge_const (pe_glob hg hm (v := .str z) ⟨t, rfl⟩ hd) fun _ => .str z
theorem ge_dic0 : PE X (.Dict [] [] pos) (tE cm X.K W (mC (.dic []))) := PE.weak pe_dnewK fun σ H Q ⟨F, S, e1, e2, R, h⟩ => fun p hp => by
  have s := same_new (o := .dK []) hp
  exact h _ _ (R.grow s) (vis_grow s) (.dic (hid_new R.live hp) .nil)
end
/-- the end over a head by facts -/
theorem end_ofM {l : PySem.W.OpenLaw} {n k : Nat} {q : Program} {loose : List Str} {XP : (Str → Option Value) → Heap → Prop} {YP : World → Heap → Prop} {d : DefRec} {x : Str} {Fn : List FA → RF}
    (hn : l.most = some n) (hn2 : n ≤ sizeLine) (hdf : d.params.defaults = []) (hr : Room k callerA)
    (F : ∀ (w : World) (mg : Str → Option Value) (fa : Addr) (h : Heap), YP w h → h.Ns mainGlobals mg → mg d.name = some (.ref fa) →
      ∃ (K : PySem.W.Frag) (fd : FuncData) (cm : CM), K.In h ∧ (∀ (s : Shared) (u : Value), BindsTo s fd ⟨[u], []⟩ [(x, u)]) ∧
        ∀ base : Heap, K.In base → base.Ns mainGlobals mg → FnG l.prog w K mg base (L2.CX l.prog w) k fa fd [x] (spF cm K Fn))
    (good : ∀ ns : List Int, ns.length ≤ n → Fn [.dat (.ro (ns.map .int))] = .ok (.bl true) []) :
    PySem.W.WalkO q loose XP YP l.row.toRowW d [] (fun f vs => PySem.call f vs) := by
  refine Att.attach_call hn hdf fun w s₀ s₁ mg mb fa o pm cd doc a vs ns G Y ho hd hcd hmg hobj hints hlen hg => ?_
  obtain ⟨K, fd, cm, KX, hb, hF⟩ := F w mg fa _ Y G.T.g hmg
  refine head_call KX G.T.g G.T.b G.T.builtins G.T.nolimit hg hobj hints (Nat.le_trans hlen hn2) hr hF hb fun H hO hS => ?_
  have e0 : hid [] H = H := by
    funext y
    exact hid_out (by simp)
  refine ⟨[], [.dat (.ro (ns.map .int))], [], fun m hm => (by cases hm), by simp, List.nodup_nil, .dat (.ro (by rw [e0]; exact hS) (ro_ints ns)) .nil, ?_⟩
  rw [good ns hlen]
  intro v H' _ _ rv
  cases rv
  rfl
end Mir

/-! MirQ: small change -/
namespace Mir
open PySem PySem.Spec PyProof.Rows L2
theorem takes0 {X : Cx} : Takes X W0 := fun u s' x => by
  obtain ⟨a, B, sI, pins, σ, H, cls, d, e, I, nb, up, sky, na, os, ag, w⟩ := x
  exact w.elim
theorem aa0 {α : Type} {p : α → Prop} : ∀ x, x ∈ ([] : List α) → p x := fun x h => by cases h
theorem aa1 {α : Type} {p : α → Prop} {a : α} {l : List α} (h : p a) (r : ∀ x, x ∈ l → p x) : ∀ x, x ∈ a :: l → p x := fun x hx => by
  rcases List.mem_cons.mp hx with e | e
  · rw [e]; exact h
  · exact r x e
theorem vp {vs : List V} {us : List Value} (r : Vals vs us) : ∀ i : Nat, Vals ((vs.drop i).take 1) ((us.drop i).take 1) := by
  induction r with
  | nil => intro i; simp; exact .nil
  | cons a b ih =>
    intro i
    cases i with
    | zero => exact .cons a .nil
    | succ j => simpa using ih j
theorem vapp {vs ws : List V} {us xs : List Value} (r : Vals vs us) (q : Vals ws xs) : Vals (vs ++ ws) (us ++ xs) := by
  induction r with
  | nil => exact q
  | cons a b ih => exact .cons a ih
section
variable {X : Cx} {cm : CM} {W : WX} {a b c e : Expr} {ma mb : ME} {pos : Pos} {g : Dat → Dat → Option Dat}
theorem bind_assoc {α β γ : Type} (r : Rs α) (k : α → Sg → Rs β) (l : β → Sg → Rs γ) : (r.bind k).bind l = r.bind fun a S => (k a S).bind l := by cases r <;> rfl
theorem gt_cmp {op} (o : OpR X (compareOp op) (rD cm X.K g)) (ha : PE X a (tE cm X.K W ma)) (hb : PE X b (tE cm X.K W mb)) (hm : behindInMarks op b = false) : PT X (.Compare a [op] [b] pos) (tT cm X.K W (cTruth (m2 g ma mb))) :=
  PT.weak (pt_cmpR o ha hb hm) fun σ H Q ⟨F, S, e1, e2, R, h⟩ => by
    unfold cTruth m2 at h
    rw [bind_assoc] at h
    refine tG_bind e1 e2 R h fun x H1 da S1 R1 s1 p1 h1 => ?_
    rw [bind_assoc] at h1
    refine tG_bind e1 e2 R1 h1 fun y H2 db S2 R2 s2 p2 h2 => ?_
    cases hg : g da db with
    | none => rw [hg] at h2; exact h2.elim
    | some d =>
      rw [hg, Rs.of_some, Rs.bind_ok] at h2
      cases d <;> try (exact False.elim h2)
      rename_i t
      exact ⟨_, da, db, .bl t, R2.live, p1.mono s2, p2, hg, fun v H' s' rv => by
        cases rv
        exact ⟨t, rfl, h2 t H' (R2.grow s') (vis_grow s') rfl⟩⟩
theorem var_readT {F : Fm} {S : Sg} {σ : L2.St} {H : Hp} {i : Nat} {α β : Type} {R' : Rep β α} {k : Dat → Sg → Rs α} {Q : β → Hp → Prop} (e1 : F.cm = cm) (e2 : F.K = X.K) (R : Rel F S σ H) (h : out F W σ (vis F S σ H) R' Q ((mVar i S).bind k)) {Q' : VK} (q : ∀ x H1 d S1, Rel F S1 σ H1 → Same (vis F S σ H) (vis F S1 σ H1) → Rp cm X.K (vis F S1 σ H1) x d → out F W σ (vis F S1 σ H1) R' Q (k d S1) → Q' x H1) : tVar i σ H Q' := by
  have key := tG_bind (m := mVar i) (R := rE cm X.K) e1 e2 R h q
  obtain ⟨F', S', a1, a2, a3, a4⟩ := key
  unfold mVar at a4
  cases hs : S'[i]? with
  | none => rw [hs] at a4; exact a4.elim
  | some s =>
    rw [hs] at a4
    have hl : i < σ.length := by rw [← a3.len]; exact (List.getElem?_eq_some_iff.mp hs).1
    have hv : σ[i]? = some σ[i] := List.getElem?_eq_getElem hl
    have sl := a3.sl i s _ hs hv
    generalize σ[i] = w at hv sl
    cases s with
    | no => exact a4.elim
    | own j u => exact a4.elim
    | exn c fs => exact a4.elim
    | dat d =>
      cases sl with
      | dat r => exact ⟨_, hv, a4 _ H a3 (Same.refl _) (by rw [← a1, ← a2]; exact r)⟩
    | loc ds =>
      obtain ⟨v, hv', q1, q2, q3⟩ : ∃ v, σ[i]? = some (some v) ∧ Rel F' (S'.set i (.dat (.lst ds))) σ H ∧ Same (vis F' S' σ H) (vis F' (S'.set i (.dat (.lst ds))) σ H) ∧ Rp F'.cm F'.K (vis F' (S'.set i (.dat (.lst ds))) σ H) v (.lst ds) := by
        cases sl with
        | loc eh r =>
          obtain ⟨z1, z2, z3⟩ := a3.freeze hs hv
          exact ⟨_, hv, z1, z2, z3⟩
      exact ⟨v, hv', a4 _ H q1 q2 (by rw [← a1, ← a2]; exact q3)⟩
theorem gt_cmpP {op} {i : Nat} {o : Expr} (oq : OpR X (compareOp op) (rD cm X.K g)) (ho : PE X o (tVar i)) (hb : PE X b (tE cm X.K W mb)) (hm : behindInMarks op b = false) : PT X (.Compare o [op] [b] pos) (tT cm X.K W (cTruth (mOpP g i mb))) :=
  PT.weak (pt_cmpR oq ho hb hm) fun σ H Q ⟨F, S, e1, e2, R, h⟩ => by
    unfold cTruth mOpP at h
    by_cases hz : isMut i S = true
    · rw [if_pos hz, bind_assoc] at h
      obtain ⟨l, ds, vs, M, hl, la, eh, r, _⟩ := R.peek hz
      refine ⟨_, hl, tG_bind e1 e2 R h fun y H1 db S1 R1 s1 p1 h1 => ?_⟩
      cases hd : listAt i S1 with
      | none => rw [hd] at h1; exact h1.elim
      | some ds1 =>
        rw [hd] at h1
        obtain ⟨l', ds', vs', M', hl', la', eh', r', lv, sm, pr⟩ := R1.peek (isMut_of hd)
        rw [hl] at hl'; cases hl'
        rw [hd] at la'; cases la'
        dsimp only at h1
        cases hg : g (.lst ds1) db with
        | none => rw [hg] at h1; exact h1.elim
        | some d =>
          rw [hg] at h1
          dsimp only at h1
          by_cases hs : scal d = true
          · rw [if_pos hs, Rs.bind_ok] at h1
            cases d <;> try (exact False.elim h1)
            rename_i t
            exact ⟨M', _, db, .bl t, lv, by rw [← e1, ← e2]; exact pr, p1.mono (by rw [← e1, ← e2] at *; exact sm), hg, fun v H' s' rv => by
              cases rv
              exact ⟨t, rfl, h1 t H' (R1.grow s') (vis_grow s') rfl⟩⟩
          · rw [if_neg hs] at h1; exact h1.elim
    · rw [if_neg hz] at h
      unfold m2 at h
      rw [bind_assoc] at h
      refine (?_ : tOp (rD cm X.K g) (tVar i) (tE cm X.K W mb) σ H (fun x H' => ∃ k, x = .bl k ∧ Q k H'))
      unfold tOp
      refine var_readT e1 e2 R h fun x H1 d S1 R1 s1 p1 h1 => ?_
      rw [bind_assoc] at h1
      refine tG_bind e1 e2 R1 h1 fun y H2 db S2 R2 s2 p2 h2 => ?_
      cases hg : g d db with
      | none => rw [hg] at h2; exact h2.elim
      | some z =>
        rw [hg, Rs.of_some, Rs.bind_ok] at h2
        cases z <;> try (exact False.elim h2)
        rename_i t
        exact ⟨_, d, db, .bl t, R2.live, p1.mono s2, p2, hg, fun v H' s' rv => by
          cases rv
          exact ⟨t, rfl, h2 t H' (R2.grow s') (vis_grow s') rfl⟩⟩
theorem gt_chain {op op'} {g' : Dat → Dat → Option Dat} {mc : ME} (o : OpR X (compareOp op) (rD cm X.K g)) (o' : OpR X (compareOp op') (rD cm X.K g')) (ha : PE X a (tE cm X.K W ma)) (hb : PE X b (tE cm X.K W mb)) (hc : PE X c (tE cm X.K W mc))
    (hm : lastMarks [op, op'] [b, c] = false := by rfl) (hbl : ∀ x y z, g x y = some z → ∃ t, z = .bl t := by intro x y z h; cases x <;> cases y <;> first | cases h | (cases h; exact ⟨_, rfl⟩)) : PT X (.Compare a [op, op'] [b, c] pos) (tT cm X.K W (cTruth (mChain g g' ma mb mc))) :=
  PT.weak (pt_chain o o' ha hb hc hm) fun σ H Q ⟨F, S, e1, e2, R, h⟩ => by
    unfold cTruth mChain at h
    rw [bind_assoc] at h
    refine tG_bind e1 e2 R h fun x H1 da S1 R1 s1 p1 h1 => ?_
    rw [bind_assoc] at h1
    refine tG_bind e1 e2 R1 h1 fun y H2 db S2 R2 s2 p2 h2 => ?_
    cases hg : g da db with
    | none => rw [hg] at h2; exact False.elim h2
    | some z =>
      rw [hg] at h2
      obtain ⟨t, rfl⟩ := hbl _ _ _ hg
      refine ⟨_, da, db, .bl t, R2.live, p1.mono s2, p2, hg, fun v H3 s3 r3 => ?_⟩
      cases r3
      refine ⟨t, rfl, ?_⟩
      have R3 := R2.grow s3
      have v3 := vis_grow (F := F) (S := S2) (σ := σ) s3
      cases t with
      | false =>
        rw [if_neg (by simp)]
        exact ⟨false, rfl, h2 false H3 R3 v3 rfl⟩
      | true =>
        rw [if_pos rfl]
        have h3 : out F W σ (vis F S2 σ H2) rT Q (((mc S2).bind fun w S4 => Rs.of (g' db w) S4).bind fun d S1 => match d with | .bl b => .ok b S1 | _ => .bad) := h2
        rw [bind_assoc] at h3
        refine tG_bind e1 e2 R3 (out_same v3 h3) fun w H4 dc S4 R4 s4 p4 h4 => ?_
        cases hg' : g' db dc with
        | none => rw [hg'] at h4; exact False.elim h4
        | some d =>
          rw [hg', Rs.of_some, Rs.bind_ok] at h4
          cases d <;> try (exact False.elim h4)
          rename_i b
          exact ⟨_, db, dc, .bl b, R4.live, (p2.mono v3).mono s4, p4, hg', fun v H' s' rv => by
            cases rv
            exact ⟨b, rfl, h4 b H' (R4.grow s') (vis_grow s') rfl⟩⟩
/-- a tuple of targets, the number known -/
def gTpN (n : Nat) (r : MGs) : MG := gTp fun ds S => if ds.length = n then r ds S else .bad
theorem gg_tupN {es : List Expr} {gs : MGs} {k n : Nat} (hc : X.calm = true) (h : PGs X es (tGts cm X.K W gs)) (hn : (assignEach es X.env).length = n := by rfl) (hst : (assignEach es X.env).findIdx? (·.1) = none := by rfl) : PG X (.Tuple es k pos) (tGt cm X.K W (gTpN n gs)) :=
  gg_tup hc (PGs.weak h fun v σ H Q ⟨F, S, d, e1, e2, R, p, o⟩ => by
    have o : outT F W (vis F S σ H) Q (if d.length = n then gs d S else .bad) := o
    by_cases hz : d.length = n
    · rw [if_pos hz] at o; exact ⟨F, S, d, e1, e2, R, p, o⟩
    · rw [if_neg hz] at o; exact o.elim) hn hst fun ds S hz => if_neg hz
end
end Mir

/-! MirR: the mirrors, run: what comes behind is kept as it stands until its state is known -/
namespace Mir
open PySem
section
variable {α β : Type} (S : Sg) (a b d : Dat) (ma mb mc : ME) (ca cb : MT) (g g' : Dat → Dat → Option Dat)
theorem ite_bad {p : Prop} [Decidable p] (x y : Rs α) (k : α → Sg → Rs β) : (if p then x else y).bind k = if p then x.bind k else y.bind k := by split <;> rfl
/-! statements -/
def seqK (b : MS) : Rs Fl → Rs Fl
  | .ok .nx S => b S
  | r => r
theorem r_seq (a b : MS) : mSeq a b S = seqK b (a S) := by
  unfold mSeq seqK
  cases a S with
  | ok f S1 => cases f <;> rfl
  | _ => rfl
@[simp] theorem seqK_nx (k : MS) : seqK k (.ok .nx S) = k S := rfl
@[simp] theorem seqK_rt (k : MS) : seqK k (.ok (.rt d) S) = .ok (.rt d) S := rfl
@[simp] theorem seqK_bk (k : MS) : seqK k (.ok .bk S) = .ok .bk S := rfl
@[simp] theorem seqK_ct (k : MS) : seqK k (.ok .ct S) = .ok .ct S := rfl
@[simp] theorem seqK_exc (c : Str) (fs : List (Str × Dat)) (k : MS) : seqK k (.exc c fs S) = .exc c fs S := rfl
@[simp] theorem seqK_bad (k : MS) : seqK k .bad = .bad := rfl
@[simp] theorem seqK_ite {p : Prop} [Decidable p] (x y : Rs Fl) (k : MS) : seqK k (if p then x else y) = if p then seqK k x else seqK k y := by split <;> rfl
theorem r_next : mNext S = .ok .nx S := rfl
theorem r_retN : mRetN S = .ok (.rt .non) S := rfl
theorem r_break : mBreak S = .ok .bk S := rfl
theorem r_cont : mCont S = .ok .ct S := rfl
theorem r_never : mNever S = .bad := rfl
def retK (r : Rs Dat) : Rs Fl := r.bind fun d S1 => .ok (.rt d) S1
theorem r_ret : mRet ma S = retK (ma S) := rfl
@[simp] theorem retK_ok : retK (.ok d S) = .ok (.rt d) S := rfl
@[simp] theorem retK_ite {p : Prop} [Decidable p] (x y : Rs Dat) : retK (if p then x else y) = if p then retK x else retK y := by split <;> rfl
def dropK (r : Rs Dat) : Rs Fl := r.bind fun _ S1 => .ok .nx S1
theorem r_drop : mDrop ma S = dropK (ma S) := rfl
@[simp] theorem dropK_ok : dropK (.ok d S) = .ok .nx S := rfl
def ifSK (x y : MS) (r : Rs Bool) : Rs Fl := r.bind fun t S1 => if t = true then x S1 else y S1
theorem r_ifS (x y : MS) : mIfS ca x y S = ifSK x y (ca S) := rfl
@[simp] theorem ifSK_ok (x y : MS) (t : Bool) : ifSK x y (.ok t S) = if t = true then x S else y S := rfl
@[simp] theorem ifSK_ite {p : Prop} [Decidable p] (x y : MS) (u v : Rs Bool) : ifSK x y (if p then u else v) = if p then ifSK x y u else ifSK x y v := by split <;> rfl
def stK (r : Rs Unit) : Rs Fl := r.bind fun _ S2 => .ok .nx S2
def asgK (gt : MG) (r : Rs Dat) : Rs Fl := r.bind fun d S1 => stK (gt d S1)
theorem r_asg (gt : MG) : mAsg ma gt S = asgK gt (ma S) := rfl
@[simp] theorem asgK_ok (gt : MG) : asgK gt (.ok d S) = stK (gt d S) := rfl
@[simp] theorem asgK_ite {p : Prop} [Decidable p] (gt : MG) (x y : Rs Dat) : asgK gt (if p then x else y) = if p then asgK gt x else asgK gt y := by split <;> rfl
@[simp] theorem stK_ok : stK (.ok () S) = .ok .nx S := rfl
theorem r_nm (i : Nat) : gNm i d S = .ok () (S.set i (.dat d)) := rfl
theorem r_setF (i : Nat) (m : Sg → Rs (List Dat)) : mSetF i m S = (m S).bind fun ds S1 => .ok .nx (S1.set i (.loc ds)) := rfl
def setFK (i : Nat) (r : Rs (List Dat)) : Rs Fl := r.bind fun ds S1 => .ok .nx (S1.set i (.loc ds))
theorem r_setF' (i : Nat) (m : Sg → Rs (List Dat)) : mSetF i m S = setFK i (m S) := rfl
@[simp] theorem setFK_ok (i : Nat) (ds : List Dat) : setFK i (.ok ds S) = .ok .nx (S.set i (.loc ds)) := rfl
def lLstK (r : Rs (List Dat)) : Rs (List Dat) := r.bind fun ds S1 => if ds.length ≤ lim then .ok ds S1 else .bad
theorem r_lLst (m : MA) : lLst m S = lLstK (m S) := rfl
@[simp] theorem lLstK_ok (ds : List Dat) : lLstK (.ok ds S) = if ds.length ≤ lim then .ok ds S else .bad := rfl
def lListK (r : Rs Dat) : Rs (List Dat) := r.bind fun d S1 => match d with
  | .lst ds => .ok ds S1
  | .tup ds => .ok ds S1
  | .ro ds => .ok ds S1
  | _ => .bad
theorem r_lList : lList ma S = lListK (ma S) := rfl
@[simp] theorem lListK_lst (ds : List Dat) : lListK (.ok (.lst ds) S) = .ok ds S := rfl
@[simp] theorem lListK_tup (ds : List Dat) : lListK (.ok (.tup ds) S) = .ok ds S := rfl
@[simp] theorem lListK_ro (ds : List Dat) : lListK (.ok (.ro ds) S) = .ok ds S := rfl
def parK (i j : Nat) (r : Rs (List Dat)) : Rs Fl := r.bind fun ds S1 => match ds with
  | [a, b] => .ok .nx ((S1.set i (.dat a)).set j (.dat b))
  | _ => .bad
theorem r_par (i j : Nat) (m : MA) : mPar i j m S = parK i j (m S) := rfl
@[simp] theorem parK_ok (i j : Nat) : parK i j (.ok [a, b] S) = .ok .nx ((S.set i (.dat a)).set j (.dat b)) := rfl
def appK (i : Nat) (r : Rs Dat) : Rs Fl := r.bind fun d S1 => if isMut i S1 then appAt i d S1 else .bad
theorem r_app (i : Nat) : mApp i ma S = if isMut i S = true then appK i (ma S) else .bad := rfl
@[simp] theorem appK_ok (i : Nat) : appK i (.ok d S) = if isMut i S = true then appAt i d S else .bad := rfl
def forK (gt : MG) (b : MS) (r : Rs (List Dat)) : Rs Fl := r.bind fun ds S1 => loopS gt b ds S1
theorem r_for (mi : Sg → Rs (List Dat)) (gt : MG) (b : MS) : mFor mi gt b S = forK gt b (mi S) := rfl
@[simp] theorem forK_ok (gt : MG) (b : MS) (ds : List Dat) : forK gt b (.ok ds S) = loopS gt b ds S := rfl
def ofK (f : List Dat → Option (List Dat)) (r : Rs (List Dat)) : Rs (List Dat) := r.bind fun d S1 => Rs.of (f d) S1
theorem r_its (f : List Dat → Option (List Dat)) (m : MA) : mIts f m S = ofK f (m S) := rfl
@[simp] theorem ofK_ok (f : List Dat → Option (List Dat)) (ds : List Dat) : ofK f (.ok ds S) = Rs.of (f ds) S := rfl
def itemsK (r : Rs Dat) : Rs (List Dat) := r.bind fun d S1 => Rs.of (itemsD d) S1
theorem r_items : mItems ma S = itemsK (ma S) := rfl
@[simp] theorem itemsK_ok : itemsK (.ok d S) = Rs.of (itemsD d) S := rfl
def gIxK (i : Nat) (d : Dat) (r : Rs Dat) : Rs Unit := r.bind fun k S1 => match k with
  | .int k => if isMut i S1 then setAt i k d S1 else .bad
  | _ => .bad
theorem r_gIx (i : Nat) : gIx i ma d S = if isMut i S = true then gIxK i d (ma S) else .bad := rfl
@[simp] theorem gIxK_ok (i : Nat) (k : Int) : gIxK i d (.ok (.int k) S) = if isMut i S = true then setAt i k d S else .bad := rfl
def gTpK (n : Nat) (r : MGs) (ds : List Dat) (S : Sg) : Rs Unit := if ds.length = n then r ds S else .bad
theorem r_tpN (n : Nat) (r : MGs) (ds : List Dat) : gTpN n r (.tup ds) S = if ds.length = n then r ds S else .bad := rfl
def gCsK (r : MGs) (ds : List Dat) (u : Rs Unit) : Rs Unit := u.bind fun _ S1 => r ds S1
theorem r_gcs (gt : MG) (r : MGs) (ds : List Dat) : gCs gt r (d :: ds) S = gCsK r ds (gt d S) := rfl
@[simp] theorem gCsK_ok (r : MGs) (ds : List Dat) : gCsK r ds (.ok () S) = r ds S := rfl
theorem r_gnl : gNl [] S = .ok () S := rfl
def stFK (cs : List Str) (i : Nat) (nm : Str) (r : Rs Dat) : Rs Fl := r.bind fun d S1 => stK (stF cs i nm d S1)
theorem r_stF (cs : List Str) (i : Nat) (nm : Str) : mStF cs i nm ma S = stFK cs i nm (ma S) := rfl
@[simp] theorem stFK_ok (cs : List Str) (i : Nat) (nm : Str) : stFK cs i nm (.ok d S) = stK (stF cs i nm d S) := rfl
/-! expressions -/
theorem r_C : mC d S = .ok d S := rfl
def k2b (g : Dat → Dat → Option Dat) (a : Dat) (r : Rs Dat) : Rs Dat := r.bind fun b S2 => Rs.of (g a b) S2
def k2 (g : Dat → Dat → Option Dat) (mb : ME) (r : Rs Dat) : Rs Dat := r.bind fun a S1 => k2b g a (mb S1)
theorem r_2 : m2 g ma mb S = k2 g mb (ma S) := rfl
@[simp] theorem k2_ok : k2 g mb (.ok a S) = k2b g a (mb S) := rfl
@[simp] theorem k2b_ok : k2b g a (.ok b S) = Rs.of (g a b) S := rfl
@[simp] theorem k2_ite {p : Prop} [Decidable p] (x y : Rs Dat) : k2 g mb (if p then x else y) = if p then k2 g mb x else k2 g mb y := by split <;> rfl
@[simp] theorem k2b_ite {p : Prop} [Decidable p] (x y : Rs Dat) : k2b g a (if p then x else y) = if p then k2b g a x else k2b g a y := by split <;> rfl
def k1 (f : Dat → Option Dat) (r : Rs Dat) : Rs Dat := r.bind fun a S1 => Rs.of (f a) S1
theorem r_1 (f : Dat → Option Dat) : m1 f ma S = k1 f (ma S) := rfl
@[simp] theorem k1_ok (f : Dat → Option Dat) : k1 f (.ok a S) = Rs.of (f a) S := rfl
theorem r_nil : mNil S = .ok [] S := rfl
def kc2 (a : Dat) (r : Rs (List Dat)) : Rs (List Dat) := r.bind fun r S2 => .ok (a :: r) S2
def kc (mr : MA) (r : Rs Dat) : Rs (List Dat) := r.bind fun a S1 => kc2 a (mr S1)
theorem r_cons (mr : MA) : mCons ma mr S = kc mr (ma S) := rfl
@[simp] theorem kc_ok (mr : MA) : kc mr (.ok a S) = kc2 a (mr S) := rfl
@[simp] theorem kc2_ok (ds : List Dat) : kc2 a (.ok ds S) = .ok (a :: ds) S := rfl
@[simp] theorem kc_ite {p : Prop} [Decidable p] (mr : MA) (x y : Rs Dat) : kc mr (if p then x else y) = if p then kc mr x else kc mr y := by split <;> rfl
@[simp] theorem kc2_ite {p : Prop} [Decidable p] (x y : Rs (List Dat)) : kc2 a (if p then x else y) = if p then kc2 a x else kc2 a y := by split <;> rfl
def kf (f : List Dat → Option Dat) (r : Rs (List Dat)) : Rs Dat := r.bind fun ds S1 => Rs.of (f ds) S1
theorem r_call (f : List Dat → Option Dat) (m : MA) : mCall f m S = kf f (m S) := rfl
theorem r_lst (m : MA) : mLst m S = kf mkLst (m S) := rfl
theorem r_tup (m : MA) : mTup m S = kf mkTup (m S) := rfl
@[simp] theorem kf_ok (f : List Dat → Option Dat) (ds : List Dat) : kf f (.ok ds S) = Rs.of (f ds) S := rfl
@[simp] theorem kf_ite {p : Prop} [Decidable p] (f : List Dat → Option Dat) (x y : Rs (List Dat)) : kf f (if p then x else y) = if p then kf f x else kf f y := by split <;> rfl
def kIf (ma mb : ME) (r : Rs Bool) : Rs Dat := r.bind fun t S1 => if t = true then ma S1 else mb S1
theorem r_if : mIf ca ma mb S = kIf ma mb (ca S) := rfl
@[simp] theorem kIf_ok (t : Bool) : kIf ma mb (.ok t S) = if t = true then ma S else mb S := rfl
@[simp] theorem kIf_ite {p : Prop} [Decidable p] (x y : Rs Bool) : kIf ma mb (if p then x else y) = if p then kIf ma mb x else kIf ma mb y := by split <;> rfl
def kAnd (b : ME) (r : Rs Dat) : Rs Dat := r.bind fun d S1 => match d with
  | .bl true => b S1
  | .bl false => .ok (.bl false) S1
  | _ => .bad
def kOr (b : ME) (r : Rs Dat) : Rs Dat := r.bind fun d S1 => match d with
  | .bl true => .ok (.bl true) S1
  | .bl false => b S1
  | _ => .bad
theorem r_and : mAnd ma mb S = kAnd mb (ma S) := rfl
theorem r_or : mOr ma mb S = kOr mb (ma S) := rfl
@[simp] theorem kAnd_bl (t : Bool) : kAnd mb (.ok (.bl t) S) = if t = true then mb S else .ok (.bl false) S := by cases t <;> rfl
@[simp] theorem kOr_bl (t : Bool) : kOr mb (.ok (.bl t) S) = if t = true then .ok (.bl true) S else mb S := by cases t <;> rfl
@[simp] theorem kAnd_ite {p : Prop} [Decidable p] (x y : Rs Dat) : kAnd mb (if p then x else y) = if p then kAnd mb x else kAnd mb y := by split <;> rfl
@[simp] theorem kOr_ite {p : Prop} [Decidable p] (x y : Rs Dat) : kOr mb (if p then x else y) = if p then kOr mb x else kOr mb y := by split <;> rfl
def kNot (r : Rs Dat) : Rs Dat := r.bind fun d S1 => match d with
  | .bl b => .ok (.bl (!b)) S1
  | _ => .bad
@[simp] theorem kNot_bl (t : Bool) : kNot (.ok (.bl t) S) = .ok (.bl (!t)) S := rfl
@[simp] theorem kNot_ite {p : Prop} [Decidable p] (x y : Rs Dat) : kNot (if p then x else y) = if p then kNot x else kNot y := by split <;> rfl
theorem r_not : mNot ma S = kNot (ma S) := by unfold mNot kNot; cases ma S <;> first | rfl | (rename_i d S1; cases d <;> rfl)
def kTr (r : Rs Dat) : Rs Bool := r.bind fun d S1 => match d with
  | .bl b => .ok b S1
  | _ => .bad
theorem r_truth : cTruth ma S = kTr (ma S) := rfl
@[simp] theorem kTr_bl (t : Bool) : kTr (.ok (.bl t) S) = .ok t S := rfl
@[simp] theorem kTr_ite {p : Prop} [Decidable p] (x y : Rs Dat) : kTr (if p then x else y) = if p then kTr x else kTr y := by split <;> rfl
def cAndK (cb : MT) (r : Rs Bool) : Rs Bool := r.bind fun t S1 => if t = true then cb S1 else .ok false S1
def cOrK (cb : MT) (r : Rs Bool) : Rs Bool := r.bind fun t S1 => if t = true then .ok true S1 else cb S1
def cNotK (r : Rs Bool) : Rs Bool := r.bind fun t S1 => .ok (!t) S1
theorem r_cand : cAnd ca cb S = cAndK cb (ca S) := rfl
theorem r_cor : cOr ca cb S = cOrK cb (ca S) := rfl
theorem r_cnot : cNot ca S = cNotK (ca S) := rfl
@[simp] theorem cAndK_ok (t : Bool) : cAndK cb (.ok t S) = if t = true then cb S else .ok false S := rfl
@[simp] theorem cOrK_ok (t : Bool) : cOrK cb (.ok t S) = if t = true then .ok true S else cb S := rfl
@[simp] theorem cNotK_ok (t : Bool) : cNotK (.ok t S) = .ok (!t) S := rfl
@[simp] theorem cAndK_ite {p : Prop} [Decidable p] (x y : Rs Bool) : cAndK cb (if p then x else y) = if p then cAndK cb x else cAndK cb y := by split <;> rfl
@[simp] theorem cOrK_ite {p : Prop} [Decidable p] (x y : Rs Bool) : cOrK cb (if p then x else y) = if p then cOrK cb x else cOrK cb y := by split <;> rfl
@[simp] theorem cNotK_ite {p : Prop} [Decidable p] (x y : Rs Bool) : cNotK (if p then x else y) = if p then cNotK x else cNotK y := by split <;> rfl
def kCh3 (g' : Dat → Dat → Option Dat) (y : Dat) (mc : ME) (r : Rs Dat) : Rs Dat := r.bind fun z S3 => match z with
  | .bl true => k2b g' y (mc S3)
  | .bl false => .ok (.bl false) S3
  | _ => .bad
def kCh2 (g g' : Dat → Dat → Option Dat) (x : Dat) (mc : ME) (r : Rs Dat) : Rs Dat := r.bind fun y S2 => kCh3 g' y mc (Rs.of (g x y) S2)
def kCh (g g' : Dat → Dat → Option Dat) (mb mc : ME) (r : Rs Dat) : Rs Dat := r.bind fun x S1 => kCh2 g g' x mc (mb S1)
theorem r_chain : mChain g g' ma mb mc S = kCh g g' mb mc (ma S) := rfl
@[simp] theorem kCh_ok : kCh g g' mb mc (.ok a S) = kCh2 g g' a mc (mb S) := rfl
@[simp] theorem kCh2_ok : kCh2 g g' a mc (.ok b S) = kCh3 g' b mc (Rs.of (g a b) S) := rfl
@[simp] theorem kCh3_bl (t : Bool) : kCh3 g' b mc (.ok (.bl t) S) = if t = true then k2b g' b (mc S) else .ok (.bl false) S := by cases t <;> rfl
def ixSK (i : Nat) (r : Rs Dat) : Rs Dat := r.bind fun k S1 => match listAt i S1 with
  | some ds => Rs.of (ixD (.lst ds) k) S1
  | none => .bad
theorem r_ixS (i : Nat) : mIxS i ma S = if isMut i S = true then ixSK i (ma S) else k2 ixD ma (mVar i S) := rfl
@[simp] theorem ixSK_ok (i : Nat) : ixSK i (.ok d S) = match listAt i S with
  | some ds => Rs.of (ixD (.lst ds) d) S
  | none => .bad := rfl
def opPK (g : Dat → Dat → Option Dat) (i : Nat) (r : Rs Dat) : Rs Dat := r.bind fun b S1 => match listAt i S1 with
  | some ds => (match g (.lst ds) b with
    | some d => if scal d = true then .ok d S1 else .bad
    | none => .bad)
  | none => .bad
theorem r_opP (i : Nat) : mOpP g i mb S = if isMut i S = true then opPK g i (mb S) else k2 g mb (mVar i S) := rfl
@[simp] theorem opPK_ok (i : Nat) : opPK g i (.ok d S) = match listAt i S with
  | some ds => (match g (.lst ds) d with
    | some d => if scal d = true then .ok d S else .bad
    | none => .bad)
  | none => .bad := rfl
/-! texts -/
def jnK (mb : ME) (r : Rs Dat) : Rs Dat := r.bind fun a S1 => match a with
  | .str x => k2b joinD (.str x) (mb S1)
  | _ => .bad
theorem r_jn : mJn ma mb S = jnK mb (ma S) := rfl
@[simp] theorem jnK_ok (x : Str) : jnK mb (.ok (.str x) S) = k2b joinD (.str x) (mb S) := rfl
/-! calls -/
def fFK (S : Sg) (is : List Nat) : RF → Rs Dat
  | .ok d outs => (match wb S is outs with
    | some S' => .ok d S'
    | none => .bad)
  | .exc c es outs => (match wb S is outs with
    | some S' => .exc c es S'
    | none => .bad)
  | .bad => .bad
@[simp] theorem fFK_ok (is : List Nat) (os : List Own) : fFK S is (.ok d os) = (match wb S is os with | some S' => .ok d S' | none => .bad) := rfl
def apK (Fn : List FA → RF) (S : Sg) : Option (List FA × List Nat) → Rs Dat
  | none => .bad
  | some (fs, is) => if nodupB is = true then fFK S is (Fn fs) else .bad
theorem r_apply (Fn : List FA → RF) (as : List AV) : applyF Fn as S = apK Fn S (fetch S as) := by
  unfold applyF apK
  cases fetch S as with
  | none => rfl
  | some p =>
    obtain ⟨fs, is⟩ := p
    dsimp only
    by_cases h : nodupB is = true
    · rw [if_pos h, if_pos h]; cases Fn fs <;> rfl
    · rw [if_neg h, if_neg h]
@[simp] theorem apK_some (Fn : List FA → RF) (fs : List FA) (is : List Nat) : apK Fn S (some (fs, is)) = if nodupB is = true then fFK S is (Fn fs) else .bad := rfl
def cfK2 (Fn : List FA → RF) (n m : Nat) (arr : List AV → List AV → List AV) (as : List AV) (r : Rs (List AV)) : Rs Dat := r.bind fun bs S2 => if as.length = n ∧ bs.length = m then applyF Fn (arr as bs) S2 else .bad
def cfK (Fn : List FA → RF) (n m : Nat) (arr : List AV → List AV → List AV) (mk : MAv) (r : Rs (List AV)) : Rs Dat := r.bind fun as S1 => cfK2 Fn n m arr as (mk S1)
theorem r_callF (Fn : List FA → RF) (n m : Nat) (arr : List AV → List AV → List AV) (mr mk : MAv) : mCallF Fn n m arr mr mk S = cfK Fn n m arr mk (mr S) := rfl
@[simp] theorem cfK_ok (Fn : List FA → RF) (n m : Nat) (arr : List AV → List AV → List AV) (mk : MAv) (as : List AV) : cfK Fn n m arr mk (.ok as S) = cfK2 Fn n m arr as (mk S) := rfl
@[simp] theorem cfK2_ok (Fn : List FA → RF) (n m : Nat) (arr : List AV → List AV → List AV) (as bs : List AV) : cfK2 Fn n m arr as (.ok bs S) = if as.length = n ∧ bs.length = m then applyF Fn (arr as bs) S else .bad := rfl
theorem r_vnil : vNil S = .ok [] S := rfl
def vd2 (d : Dat) (r : Rs (List AV)) : Rs (List AV) := r.bind fun r S2 => .ok (.dat d :: r) S2
def vd (mr : MAv) (r : Rs Dat) : Rs (List AV) := r.bind fun d S1 => vd2 d (mr S1)
theorem r_vdat (mr : MAv) : vDat ma mr S = vd mr (ma S) := rfl
@[simp] theorem vd_ok (mr : MAv) : vd mr (.ok d S) = vd2 d (mr S) := rfl
@[simp] theorem vd2_ok (as : List AV) : vd2 d (.ok as S) = .ok (.dat d :: as) S := rfl
@[simp] theorem vd_ite {p : Prop} [Decidable p] (mr : MAv) (x y : Rs Dat) : vd mr (if p then x else y) = if p then vd mr x else vd mr y := by split <;> rfl
def vs2 (i : Nat) (r : Rs (List AV)) : Rs (List AV) := r.bind fun r S2 => .ok (.slot i :: r) S2
theorem r_vslot (i : Nat) (mr : MAv) : vSlot i mr S = if isLent i S = true then vs2 i (mr S) else .bad := rfl
@[simp] theorem vs2_ok (i : Nat) (as : List AV) : vs2 i (.ok as S) = .ok (.slot i :: as) S := rfl
def mkK2 (c : Str) (Fn : List FA → RF) (n m : Nat) (arr : List AV → List AV → List AV) (as : List AV) (r : Rs (List AV)) : Rs Dat := r.bind fun bs S2 => if as.length = n ∧ bs.length = m then (match datsOf (arr as bs) with
  | some fs => makeF c Fn fs S2
  | none => .bad) else .bad
def mkK (c : Str) (Fn : List FA → RF) (n m : Nat) (arr : List AV → List AV → List AV) (mk : MAv) (r : Rs (List AV)) : Rs Dat := r.bind fun as S1 => mkK2 c Fn n m arr as (mk S1)
theorem r_make (c : Str) (Fn : List FA → RF) (n m : Nat) (arr : List AV → List AV → List AV) (mr mk : MAv) : mMake c Fn n m arr mr mk S = mkK c Fn n m arr mk (mr S) := rfl
@[simp] theorem mkK_ok (c : Str) (Fn : List FA → RF) (n m : Nat) (arr : List AV → List AV → List AV) (mk : MAv) (as : List AV) : mkK c Fn n m arr mk (.ok as S) = mkK2 c Fn n m arr as (mk S) := rfl
@[simp] theorem mkK2_ok (c : Str) (Fn : List FA → RF) (n m : Nat) (arr : List AV → List AV → List AV) (as bs : List AV) : mkK2 c Fn n m arr as (.ok bs S) = if as.length = n ∧ bs.length = m then (match datsOf (arr as bs) with | some fs => makeF c Fn fs S | none => .bad) else .bad := rfl
def propK (cs : List Str) (Fn : List FA → RF) (r : Rs Dat) : Rs Dat := r.bind fun d S1 => match d with
  | .ins c fs => if cs.contains c then (applyF Fn [.dat (.ins c fs)] S1).calm else .bad
  | _ => .bad
theorem r_prop (cs : List Str) (Fn : List FA → RF) : mProp cs Fn ma S = propK cs Fn (ma S) := rfl
@[simp] theorem propK_ok (cs : List Str) (Fn : List FA → RF) (c : Str) (fs : List (Str × Dat)) : propK cs Fn (.ok (.ins c fs) S) = if cs.contains c = true then (applyF Fn [.dat (.ins c fs)] S).calm else .bad := rfl
end
end Mir

/-! MirS: slices, attributes as targets, pop, tuples of the module, arguments that are lent or not -/
namespace Mir
open PySem PySem.Spec PyProof.Rows L2
section
variable {X : Cx} {cm : CM} {W : WX} {a b e o : Expr} {es : List Expr} {ma mb : ME} {mr mk : MAv} {pos p p2 : Pos} {nm x : Str}
/-! ### slices -/
abbrev MO := Sg → Rs (Option Int)
abbrev rO : Rep (Option Int) (Option Int) := fun _ _ a b => a = b
abbrev tO (cm : CM) (K : PySem.W.Frag) (W : WX) (m : MO) : TO := tG cm K W rO m
def oN : MO := fun S => .ok none S
def oS (m : ME) : MO := fun S => (m S).bind fun d S1 => match d with
  | .int i => .ok (some i) S1
  | _ => .bad
theorem PO.weak {eo : Option Expr} {t t' : TO} (h : PO X eo t) (i : ∀ σ H Q, t' σ H Q → t σ H Q) : PO X eo t' := ⟨fun pins s σ H Q I q => h.run pins s σ H Q I (i σ H Q q)⟩
theorem go_none : PO X none (tO cm X.K W oN) := PO.weak po_none fun σ H Q ⟨F, S, e1, e2, R, h⟩ => h none H R (Same.refl _) rfl
theorem go_some (he : PE X e (tE cm X.K W ma)) : PO X (some e) (tO cm X.K W (oS ma)) := PO.weak (po_some he) fun σ H Q ⟨F, S, e1, e2, R, h⟩ => tG_bind e1 e2 R h fun x H1 d S1 R1 s1 p1 h1 => by
  cases p1 with
  | int i => exact ⟨i, rfl, h1 (some i) H1 R1 (Same.refl _) rfl⟩
  | _ => exact False.elim h1
def cutL {α : Type} (xs : List α) (lo hi : Option Int) : List α := (xs.drop (HT.sIx xs.length 0 lo)).take (HT.sIx xs.length xs.length hi - HT.sIx xs.length 0 lo)
theorem cut_rp {K : PySem.W.Frag} {G : Hp} {vs : List V} {ds : List Dat} (r : RpAll cm K G vs ds) (lo hi : Option Int) : RpAll cm K G (cutV vs lo hi) (cutL ds lo hi) := by
  have dr : ∀ {vs : List V} {ds : List Dat}, RpAll cm K G vs ds → ∀ n, RpAll cm K G (vs.drop n) (ds.drop n) := by
    intro vs ds r n
    induction n generalizing vs ds with
    | zero => exact r
    | succ n ih =>
      cases r with
      | nil => exact .nil
      | cons a b => exact ih b
  have tk : ∀ {vs : List V} {ds : List Dat}, RpAll cm K G vs ds → ∀ n, RpAll cm K G (vs.take n) (ds.take n) := by
    intro vs ds r n
    induction n generalizing vs ds with
    | zero => exact .nil
    | succ n ih =>
      cases r with
      | nil => exact .nil
      | cons a b => exact .cons a (ih b)
  unfold cutV cutL
  rw [r.length]
  exact tk (dr r _) _
def sliceD (d : Dat) (lo hi : Option Int) : Option Dat := match d with
  | .lst ds => some (.lst (cutL ds lo hi))
  | .ro ds => some (.lst (cutL ds lo hi))
  | _ => none
def mSl (m : ME) (ml mh : MO) : ME := fun S => (m S).bind fun d S1 => (ml S1).bind fun lo S2 => (mh S2).bind fun hi S3 => Rs.of (sliceD d lo hi) S3
theorem ge_slice {lo hi : Option Expr} {ml mh : MO} (he : PE X e (tE cm X.K W ma)) (hl : PO X lo (tO cm X.K W ml)) (hh : PO X hi (tO cm X.K W mh)) : PE X (.Subscript e (.Slice lo hi none p2) pos) (tE cm X.K W (mSl ma ml mh)) :=
  PE.weak (pe_slice sl_list he hl hh) fun σ H Q ⟨F, S, e1, e2, R, h⟩ => tG_bind e1 e2 R h fun x H1 d S1 R1 s1 p1 h1 => tG_bind e1 e2 R1 h1 fun l H2 l' S2 R2 s2 q2 h2 => tG_bind e1 e2 R2 h2 fun u H3 u' S3 R3 s3 q3 h3 => by
    cases q2
    cases q3
    cases p1 with
    | @lst aa vv dd ha ra =>
      have ha3 := s3 _ _ (s2 _ _ ha)
      refine ⟨_, _, rfl, SqL.of (hid_le _ _ ha3), fun p hp => ?_⟩
      have sn := same_new (o := .lst (cutV vv l u)) hp
      exact h3 _ _ (R3.grow sn) (vis_grow sn) (.lst (hid_new R3.live hp) (cut_rp (RpAll.mono ((s2.trans s3).trans (vis_grow sn)) ra) l u))
    | @ro aa vv dd ha ra =>
      refine ⟨_, _, rfl, Same.seq hid_le (Same.seq (s2.trans s3) ha), fun p hp => ?_⟩
      have sn := same_new (o := .lst (cutV vv l u)) hp
      exact h3 _ _ (R3.grow sn) (vis_grow sn) (.lst (hid_new R3.live hp) (cut_rp (RpAll.mono ((s2.trans s3).trans (vis_grow sn)) ra) l u))
    | _ => exact False.elim h3
/-- x[lo:hi], x a list of one's own, or not -/
def mSlS (i : Nat) (ml mh : MO) : ME := fun S => if isMut i S = true then (ml S).bind fun lo S2 => (mh S2).bind fun hi S3 => (match listAt i S3 with
  | some ds => .ok (.lst (cutL ds lo hi)) S3
  | none => .bad) else mSl (mVar i) ml mh S
theorem ge_sliceS {i : Nat} {lo hi : Option Expr} {ml mh : MO} (ho : PE X o (tVar i)) (hl : PO X lo (tO cm X.K W ml)) (hh : PO X hi (tO cm X.K W mh)) : PE X (.Subscript o (.Slice lo hi none p2) pos) (tE cm X.K W (mSlS i ml mh)) :=
  PE.weak (pe_slice sl_list ho hl hh) fun σ H Q ⟨F, S, e1, e2, R, h⟩ => by
    unfold mSlS at h
    by_cases hz : isMut i S = true
    · rw [if_pos hz] at h
      obtain ⟨l0, ds0, vs0, M0, hl0, la0, eh0, r0, _⟩ := R.peek hz
      refine ⟨_, hl0, tG_bind e1 e2 R h fun l H2 l' S2 R2 s2 q2 h2 => tG_bind e1 e2 R2 h2 fun u H3 u' S3 R3 s3 q3 h3 => ?_⟩
      cases q2
      cases q3
      cases hd : listAt i S3 with
      | none => rw [hd] at h3; exact h3.elim
      | some ds =>
        rw [hd] at h3
        obtain ⟨l1, ds1, vs1, M1, hl1, la1, eh1, r1, _⟩ := R3.peek (isMut_of hd)
        rw [hl0] at hl1; cases hl1
        rw [hd] at la1; cases la1
        refine ⟨_, _, rfl, SqL.of eh1, fun p hp => ?_⟩
        have sn := same_new (o := .lst (cutV vs1 l u)) hp
        exact h3 _ _ (R3.grow sn) (vis_grow sn) (.lst (hid_new R3.live hp) (cut_rp (RpAll.mono (vis_grow sn) (by rw [← e1, ← e2]; exact r1)) l u))
    · rw [if_neg hz] at h
      unfold mSl at h
      unfold tSl
      refine var_readT e1 e2 R h fun x H1 d S1 R1 s1 p1 h1 => tG_bind e1 e2 R1 h1 fun l H2 l' S2 R2 s2 q2 h2 => tG_bind e1 e2 R2 h2 fun u H3 u' S3 R3 s3 q3 h3 => ?_
      cases q2
      cases q3
      cases p1 with
      | @lst aa vv dd ha ra =>
        have ha3 := s3 _ _ (s2 _ _ ha)
        refine ⟨_, _, rfl, SqL.of (hid_le _ _ ha3), fun p hp => ?_⟩
        have sn := same_new (o := .lst (cutV vv l u)) hp
        exact h3 _ _ (R3.grow sn) (vis_grow sn) (.lst (hid_new R3.live hp) (cut_rp (RpAll.mono ((s2.trans s3).trans (vis_grow sn)) ra) l u))
      | @ro aa vv dd ha ra =>
        refine ⟨_, _, rfl, Same.seq hid_le (Same.seq (s2.trans s3) ha), fun p hp => ?_⟩
        have sn := same_new (o := .lst (cutV vv l u)) hp
        exact h3 _ _ (R3.grow sn) (vis_grow sn) (.lst (hid_new R3.live hp) (cut_rp (RpAll.mono ((s2.trans s3).trans (vis_grow sn)) ra) l u))
      | _ => exact False.elim h3
/-! ### self.f as a target -/
def gFld (cs : List Str) (i : Nat) (nm : Str) : MG := fun d S => stF cs i nm d S
theorem gg_fld {cs : List Str} {i : Nat} (hc : ∀ c, c ∈ cs → Cls X.K (cm c) ∧ NoAttr X.K (cm c) nm) (ho : PE X o (tVar i)) : PG X (.Attribute o nm pos) (tGt cm X.K W (gFld cs i nm)) := by
  refine ⟨fun pins s σ H v u Q I r ⟨F, S, d, e1, e2, R, p, h⟩ => ?_⟩
  rw [assign_Attribute]
  have h' : outT F W (vis F S σ H) Q (stF cs i nm d S) := h
  cases hr : stF cs i nm d S with
  | bad => rw [hr] at h'; exact h'.elim
  | exc c fs S2 =>
    exfalso
    obtain ⟨_, _, _, _, _, z, _⟩ := st_ok hc e1 e2 R p hr (fun z => by cases z)
    cases z
  | ok w S2 =>
    obtain ⟨a, C, dx, fs, S', z, b1, b2, b3, b4, b5, b6, b7⟩ := st_ok hc e1 e2 R p hr (fun z => by cases z)
    cases z
    rw [hr] at h'
    refine wpAny_bind (wpAny_holding (thn (ho.run pins s σ H (fun y H1 => y = .ref a ∧ H1 = H) I ⟨_, b1, rfl, rfl⟩) fun ov s1 ⟨y, H1, I1, ry, ey, eH⟩ => ?_))
    subst ey
    subst eH
    obtain rfl : ov = Value.ref a := ry
    refine wpAny_bind (wpAny_standAt (wpAny_bind (wpAny_holding (setattr_ok I1 b2 b3 b4 b5 r fun s3 I3 => ?_))))
    exact wpAny_release ⟨σ, _, I3, h' σ _ b6 b7⟩
/-! ### x.pop() -/
def popAt (i : Nat) (S : Sg) : Rs Fl := match S[i]? with
  | some (.loc ds) => if ds.length = 0 then .bad else .ok .nx (S.set i (.loc ds.dropLast))
  | some (.own n (.lst ds)) => if ds.length = 0 then .bad else .ok .nx (S.set i (.own n (.lst ds.dropLast)))
  | _ => .bad
def mPop (i : Nat) : MS := fun S => if isMut i S = true then popAt i S else .bad
theorem drop_rp {K : PySem.W.Frag} {G : Hp} : ∀ {vs : List V} {ds : List Dat}, RpAll cm K G vs ds → RpAll cm K G vs.dropLast ds.dropLast
  | _, _, .nil => .nil
  | _, _, .cons a .nil => .nil
  | _, _, .cons a (.cons b r) => .cons a (drop_rp (.cons b r))
theorem gs_pop {i : Nat} {apos cpos : Pos} (ho : PE X o (tVar i)) (hab : attributeBase o "pop" X.env (eval o X.env) = eval o X.env := by rfl) (hln : (apos.endLine == cpos.line) = true := by rfl) (hs : swapsWith (.Call (.Attribute o "pop" apos) [] [] cpos) none pos.line X.env = pure false := by rfl) :
    PS X (.Expr (.Call (.Attribute o "pop" apos) [] [] cpos) pos) (tS cm X.K W (mPop i)) :=
  PS.weak (ps_expr (pe_bm0 PySem.F.plainAttrs_list PySem.F.slot_list_pop PySem.F.type_list_pop mt_pop ho hab hln) hs) fun D σ H ⟨F, S, e1, e2, R, h⟩ => by
    unfold mPop at h
    by_cases hz : isMut i S = true
    · rw [if_pos hz] at h
      obtain ⟨l, vs, ds, hl, eh, r, hs⟩ := slot_mut R hz
      obtain ⟨s', a1, a2, a3, a4⟩ := slot_set R hl (drop_rp r) hs
      have ln := r.length
      have fin : ds.length ≠ 0 → outS F W (vis F S σ H) D (.ok .nx (S.set i s')) → rPop (.ref l) [] H fun _ H3 => D.nx σ H3 := fun hn ho => by
        have hlt : vs.length - 1 < vs.length := by omega
        exact ⟨l, vs, vs[vs.length - 1], rfl, rfl, eh, List.getElem?_eq_getElem hlt, ho σ _ a3 a4⟩
      refine ⟨_, hl, .inl ⟨rfl, _, SqL.of eh⟩, ?_⟩
      unfold popAt at h
      rcases hs with hs | ⟨n, hs, _⟩
      · rw [hs] at h
        dsimp only at h
        by_cases hn : ds.length = 0
        · rw [if_pos hn] at h; exact h.elim
        · rw [if_neg hn] at h
          rw [a1 hs] at fin
          exact fin hn h
      · rw [hs] at h
        dsimp only at h
        by_cases hn : ds.length = 0
        · rw [if_pos hn] at h; exact h.elim
        · rw [if_neg hn] at h
          rw [a2 n hs] at fin
          exact fin hn h
    · rw [if_neg hz] at h; exact h.elim
/-! ### an argument, lent if it is one's own -/
def vVar (i : Nat) (mr : MAv) : MAv := fun S => if isLent i S = true then vSlot i mr S else vDat (mVar i) mr S
theorem gv_var {i : Nat} (ho : PE X e (tVar i)) (hr : PA X es (tAv cm X.K W mr)) (hs : starEach (e :: es) X.env = (false, eval e X.env) :: starEach es X.env := by rfl) : PA X (e :: es) (tAv cm X.K W (vVar i mr)) := by
  refine ⟨fun ps pins s σ H Q I ⟨F, S, e1, e2, R, h⟩ => ?_⟩
  unfold vVar at h
  by_cases hz : isLent i S = true
  · rw [if_pos hz] at h
    exact (gv_slot ho hr hs).run ps pins s σ H Q I ⟨F, S, e1, e2, R, h⟩
  · rw [if_neg hz] at h
    exact (gv_dat (ge_var ho) hr hs).run ps pins s σ H Q I ⟨F, S, e1, e2, R, h⟩
/-! ### a tuple of the module -/
theorem ge_gtup {ds : List Dat} {vs : List V} {ga : Addr} (hg : Gl X x) (hm : X.mg x = some (.ref ga)) (ht : ∀ H : Hp, SqT X.K H ga vs) (hr : ∀ G : Hp, RpAll cm X.K G vs ds) (hd : (x == ("__debug__" : Str)) = false := by decide) : PE X (.Name x pos) (tE cm X.K W (mC (.tup ds))) :=
  ge_const (pe_glob hg hm (v := .ref ga) rfl hd) fun G => .tup (ht G) (hr G)
end
end Mir

/-! MirT: new lists by comprehensions and ranges -/
namespace Mir
open PySem PySem.Spec PyProof.Rows L2
/-- a heap without an address -/
def cutH (H : Hp) (p : Addr) : Hp := fun a => if a = p then none else H a
theorem cutH_upd {H : Hp} {p : Addr} {o : HO} (h : H p = some o) : upd (cutH H p) p o = H := by
  funext a
  by_cases e : a = p
  · rw [e, upd_same, h]
  · rw [upd_ne e]; unfold cutH; rw [if_neg e]
theorem cutH_ne {H : Hp} {p a : Addr} (e : a ≠ p) : cutH H p a = H a := by unfold cutH; rw [if_neg e]
theorem vis_cut {F : Fm} {S : Sg} {σ : L2.St} {H : Hp} {p : Addr} {o : HO} : vis F S σ (cutH H p) = vis (F.hide p o) S σ H := by
  funext a
  unfold vis
  by_cases ha : a ∈ F.M ++ locs S σ
  · rw [hid_in ha, hid_in (show a ∈ (F.hide p o).M ++ locs S σ from List.mem_cons_of_mem _ ha)]
  · rw [hid_out ha]
    by_cases e : a = p
    · rw [hid_in (show a ∈ (F.hide p o).M ++ locs S σ by rw [e]; exact List.mem_cons_self ..)]
      unfold cutH; rw [if_pos e]
    · have hn : a ∉ (F.hide p o).M ++ locs S σ := fun z => (List.mem_cons.mp (show a ∈ p :: (F.M ++ locs S σ) from z)).elim e ha
      rw [hid_out hn, cutH_ne e]
theorem Rel.cut {F : Fm} {S S0 : Sg} {σ σ0 : L2.St} {H H1 : Hp} {p : Addr} {o : HO} (R0 : Rel F S0 σ0 H1) (hp : H1 p = none) (R : Rel (F.hide p o) S σ H) : Rel F S σ (cutH H p) := by
  have hM : p ∉ F.M := fun z => R0.liv p z hp
  have h0 : F.H0 p = none := R0.fresh0 hp
  have hA : p ∉ F.A0 := fun z => hM (R0.ain p z)
  have hL : p ∉ locs S σ := fun z => R.lom p z (List.mem_cons_self ..)
  refine ⟨R.len, fun i s v a b => ?_, R.nd, R.new, R.ond, R.and_, R0.ain, fun a h => ?_, fun l hl z => R.lom l hl (List.mem_cons_of_mem _ z), fun q h => ?_, fun a x q n => ?_⟩
  · rw [vis_cut (o := o)]
    have y := (R.sl i s v a b).mono (Same.refl _) (H' := cutH H p) fun l x ev n1 n2 n3 q => by
      have hne : l ≠ p := fun z => by
        rw [z] at ev
        cases s with
        | no => exact n1 rfl
        | dat d => exact n2 d rfl
        | exn c fs => exact n3 c fs rfl
        | loc ds => exact hL (mem_locs.mpr ⟨i, ds, a, by rw [b, ev]⟩)
        | own j u =>
          have y := R.sl i _ v a b
          rw [ev] at y
          cases y with
          | own e0 _ => exact hA (List.mem_of_getElem? e0)
      rw [cutH_ne hne]; exact q
    cases y with
    | no => exact .no
    | dat r => exact .dat r
    | loc h r => exact .loc h r
    | own h r => exact .own h r
    | exn e0 q r => exact .exn e0 q r
  · have hne : a ≠ p := fun z => hM (by rw [← z]; exact h)
    rw [cutH_ne hne]
    exact R.liv a (List.mem_cons_of_mem _ h)
  · have t := R.tmp q (List.mem_cons_of_mem _ h)
    have t0 := R0.tmp q h
    have hne : q.1 ≠ p := fun z => hM (by rw [← z]; exact t0.2.1)
    exact ⟨by rw [cutH_ne hne]; exact t.1, t0.2⟩
  · have hne : a ≠ p := fun z => by rw [z, h0] at q; cases q
    rw [cutH_ne hne]
    exact R.keep a x q n
section
variable {X : Cx} {cm : CM} {W : WX} {elt tg iter a b : Expr} {ifs : List Expr} {scope : Scope} {own : List (Str × Nat)} {pos p p2 : Pos} {mi : Sg → Rs (List Dat)} {t : TG} {g : Dat → Sg → Option Sg} {c : MT} {e ma mb : ME}
def lLc (mi : Sg → Rs (List Dat)) (g : Dat → Sg → Option Sg) (c : MT) (e : ME) (vs : List Nat) : Sg → Rs (List Dat) := fun S => (mi S).bind fun ds S1 => loopC g c e vs ds [] (wipeS S1 vs)
theorem loopC_calm : ∀ (vs : List Nat) (ds ac : List Dat) (S : Sg) c0 fs S', loopC g c e vs ds ac S ≠ .exc c0 fs S' := by
  intro vs ds
  induction ds with
  | nil => intro ac S c0 fs S' z; cases z
  | cons d ds ih =>
    intro ac S c0 fs S' z
    unfold loopC at z
    cases h1 : g d S with
    | none => rw [h1] at z; cases z
    | some S1 =>
      rw [h1, Rs.of_some, Rs.bind_ok] at z
      cases h2 : c S1 with
      | bad => rw [h2] at z; cases z
      | exc _ _ _ => rw [h2] at z; cases z
      | ok t S2 =>
        rw [h2, Rs.calm_ok, Rs.bind_ok] at z
        cases t with
        | false => exact ih _ _ _ _ _ z
        | true =>
          rw [if_pos rfl] at z
          cases h3 : e S2 with
          | bad => rw [h3] at z; cases z
          | exc _ _ _ => rw [h3] at z; cases z
          | ok y S3 =>
            rw [h3, Rs.calm_ok, Rs.bind_ok] at z
            by_cases hz : ac.length < lim
            · rw [if_pos hz] at z; exact ih _ _ _ _ _ z
            · rw [if_neg hz] at z; cases z
theorem gl_lc (hc : X.calm = true) (hN : X.N.Nodup) (hi : PI X tg iter (tG cm X.K W (rIt cm X.K) mi)) (ok : BlkOk X.N X.env.scope scope own) (tk : TgOk cm X.K t (own.map (·.2)) g)
    (hg : ∀ (s : Shared) (H : Hp) (C : Addr) (cl : List (Str × Addr)) (fp : List Addr), PG (X.blk s H scope (compEnvC scope cl C X.env) fp) tg t)
    (ht : ∀ (s : Shared) (H : Hp) (C : Addr) (cl : List (Str × Addr)) (fp : List Addr), PTs (X.blk s H scope (compEnvC scope cl C X.env) fp) ifs (tT cm X.K W0 c))
    (he : ∀ (s : Shared) (H : Hp) (C : Addr) (cl : List (Str × Addr)) (fp : List Addr), PE (X.blk s H scope (compEnvC scope cl C X.env) fp) elt (tE cm X.K W0 e)) (hs : ∀ x, foldedSetIterable iter X.env x = pure x := by intro _; rfl) :
    PE X (.ListComp elt [⟨tg, iter, ifs, 0⟩] scope pos) (tL cm X.K W (lLc mi g c e (own.map (·.2)))) :=
  PE.weak (pe_lc hc hN hi ok hg ht he hs) fun σ H Q ⟨F, S, e1, e2, R, h⟩ => lc_read tk e1 e2 (by
    refine ⟨F, S, e1, e2, R, ?_⟩
    unfold lLc at h
    cases hm : mi S with
    | bad => rw [hm] at h; exact h
    | exc c0 fs S1 => rw [hm] at h; exact h
    | ok ds S1 =>
      rw [hm, Rs.bind_ok] at h
      intro J H1 R1 s1 p1
      refine ⟨ds, S1, R1, p1, ?_⟩
      cases hl : loopC g c e (own.map (·.2)) ds [] (wipeS S1 (own.map (·.2))) with
      | bad => rw [hl] at h; exact h.elim
      | exc _ _ _ => exact absurd hl (loopC_calm _ _ _ _ _ _ _)
      | ok acc S2 =>
        rw [hl] at h
        refine ⟨acc, S2, rfl, fun D us H2 hD R2 s2 r2 => ?_⟩
        have eD := (R2.tmp (D, .lst us) (List.mem_cons_self ..)).1
        have ev : vis F S2 σ (cutH H2 D) = vis (F.hide D (.lst us)) S2 σ H2 := vis_cut
        have z := h D us (cutH H2 D) (Rel.cut R1 hD R2) (by rw [ev]; exact s1.trans s2) (by unfold cutH; rw [if_pos rfl]) (by rw [ev, e1, e2]; exact r2)
        rw [cutH_upd eD] at z
        exact z)
/-! ### list(range(..)) -/
def rgD (a b : Int) : List Dat := (List.range (b - a).toNat).map fun (i : Nat) => Dat.int (a + (i : Int))
theorem rg_rp {K : PySem.W.Frag} {G : Hp} (a b : Int) : RpAll cm K G (rgV a b) (rgD a b) := by
  unfold rgV rgD
  induction (List.range (b - a).toNat) with
  | nil => exact .nil
  | cons x r ih => exact .cons (.int _) ih
def lRg1 (m : ME) : Sg → Rs (List Dat) := fun S => (m S).bind fun d S1 => match d with
  | .int n => if -(2 ^ 62) ≤ n ∧ n < 1000000 then .ok (rgD 0 n) S1 else .bad
  | _ => .bad
theorem gl_range1 {rp : Pos} (hgl : Gl X "list") (hml : X.mg "list" = none) (hg : Gl X "range") (hm : X.mg "range" = none) (ha : PE X a (tE cm X.K W ma)) (na : starEach [a] X.env = (false, eval a X.env) :: starEach [] X.env := by rfl) (hc : X.calm = true := by rfl)
    (na2 : starEach [Expr.Call (.Name "range" rp) [a] [] p2] X.env = (false, eval (Expr.Call (.Name "range" rp) [a] [] p2) X.env) :: starEach [] X.env := by rfl) : PE X (.Call (.Name "list" p) [.Call (.Name "range" rp) [a] [] p2] [] pos) (tL cm X.K W (lRg1 ma)) :=
  PE.weak (pe_listRg hc hgl hml (prg_1 hg hm ha na) na2) fun σ H Q ⟨F, S, e1, e2, R, h⟩ => tG_bindL e1 e2 R h fun x H1 d S1 R1 s1 p1 h1 => by
    cases p1 with
    | int n =>
      dsimp only at h1
      by_cases hz : -(2 ^ 62) ≤ n ∧ n < 1000000
      · rw [if_pos hz] at h1
        refine ⟨n, rfl, ⟨by omega, by omega, hz.1, by omega, by omega⟩, fun q hq => ?_⟩
        exact h1 q _ H1 R1 (Same.refl _) hq (rg_rp 0 n)
      · rw [if_neg hz] at h1; exact h1.elim
    | _ => exact False.elim h1
/-- a new list as a plain value -/
def mFresh (mL : Sg → Rs (List Dat)) : ME := fun S => (mL S).bind fun ds S1 => .ok (.lst ds) S1
theorem ge_fresh {x : Expr} {mL : Sg → Rs (List Dat)} (h : PE X x (tL cm X.K W mL)) : PE X x (tE cm X.K W (mFresh mL)) := PE.weak h fun σ H Q ⟨F, S, e1, e2, R, h⟩ => by
  refine ⟨F, S, e1, e2, R, ?_⟩
  unfold mFresh at h
  cases hm : mL S with
  | bad => rw [hm] at h; exact h
  | exc c0 fs S1 => rw [hm] at h; exact h
  | ok ds S1 =>
    rw [hm, Rs.bind_ok] at h
    intro l xs H1 R1 s1 hl rx
    have sn := same_new (o := .lst xs) hl
    exact h _ _ (R1.grow sn) (s1.trans (vis_grow sn)) (.lst (hid_new R1.live hl) (by rw [← e1, ← e2]; exact RpAll.mono (vis_grow sn) rx))
/-- f(k = v, ..) -/
theorem ge_callFK0 {k : Nat} {f : Addr} {fd : FuncData} {ps ks : List Str} {Fn : List FA → RF} {x : Str} {gV : List V → List V → List V} {arr : List AV → List AV → List AV} {kwl : List Keyword} {mk : MAv} (Fk : FnG X.prog X.w X.K X.mg X.base (L2.CX X.prog X.w) k f fd ps (spF cm X.K Fn)) (hr : Room k X.A) (hgd : X.A.guards = some []) (tk : Takes X W) (hg : Gl X x) (hm : X.mg x = some (.ref f)) (hk : PySem.W.keepIn X.K (.ref f) = true) (hb : ∃ g, KBn X.K fd ps 0 ks g gV) (hA : Arr 0 ks.length gV arr)
    (hkw : PK X kwl (tAv cm X.K W mk)) (hall : (backToKw pos (keywordEach kwl X.env)).all (·.1.isSome) = true := by rfl) (hks : (backToKw pos (keywordEach kwl X.env)).filterMap (·.1) = ks := by rfl)
    (hdb : (x == ("__debug__" : Str)) = false := by decide) (hpl : ((backTo pos (starEach [] X.env)).any (·.1) || (backToKw pos (keywordEach kwl X.env)).any (·.1.isNone)) = false := by rfl) :
    PE X (.Call (.Name x p) [] kwl pos) (tE cm X.K W (mCallF Fn 0 ks.length arr vNil mk)) := by
  obtain ⟨g, hb⟩ := hb
  refine ⟨fun pins s σ H Q I ⟨F, S, e1, e2, R, h⟩ => wpAny_Call_Name_kw (ld_glob I hg hm (PySem.W.callWith_KW0 (h₀ := X.base) I.ok.mod.kin hk hall (thn (hkw.run pos pins s σ H (fun zs H2 => ∃ bs S2, Rel F S2 σ H2 ∧ AvsOk cm X.K σ (vis F S2 σ H2) zs bs ∧ (([] : List AV).length = 0 ∧ bs.length = ks.length) ∧ out F W σ (vis F S2 σ H2) (rE cm X.K) Q (applyF Fn (arr [] bs) S2)) I
      (tG_bind e1 e2 R h fun zs H2 bs S2 R2 s2 p2 h2 => ?_)) fun ws s2 ⟨zs, H2, I2, rz, bs, S2, R2, q2, hl, h2⟩ => ⟨I2.kIn, ?_⟩) hpl) hdb)⟩
  · by_cases hz : ([] : List AV).length = 0 ∧ bs.length = ks.length
    · rw [if_pos hz] at h2
      exact ⟨bs, S2, R2, p2, hz, h2⟩
    · rw [if_neg hz] at h2; exact h2.elim
  · rw [hks]
    have lz : zs.length = ks.length := by rw [AvsOk.length q2]; exact hl.2
    exact run_g (us := []) Fk hr hgd tk I2 (hb.to s2 [] ws I2.kIn rfl (by rw [← rz.length]; exact lz)) (hb.rel .nil rz) (apply_ok e1 e2 R2 (hA.ok rfl lz .nil q2) h2)
/-! ### name = [..] on one line -/
theorem lc_imp {vs : List Nat} (tk : TgOk cm X.K t vs g) {σ : L2.St} {H : Hp} {Q : VK} (h : tE cm X.K W (mLc mi g c e vs) σ H Q) : tLc (tG cm X.K W (rIt cm X.K) mi) t (tT cm X.K W0 c) (tE cm X.K W0 e) vs σ H Q := by
  obtain ⟨F, S, e1, e2, R, h⟩ := h
  refine lc_read tk e1 e2 ⟨F, S, e1, e2, R, ?_⟩
  unfold mLc at h
  cases hm : mi S with
  | bad => rw [hm] at h; exact h
  | exc c0 fs S1 => rw [hm] at h; exact h
  | ok ds S1 =>
    rw [hm, Rs.bind_ok] at h
    intro J H1 R1 s1 p1
    refine ⟨ds, S1, R1, p1, ?_⟩
    cases hl : loopC g c e vs ds [] (wipeS S1 vs) with
    | bad => rw [hl] at h; exact h.elim
    | exc _ _ _ => exact absurd hl (loopC_calm _ _ _ _ _ _ _)
    | ok acc S2 =>
      rw [hl, Rs.bind_ok] at h
      refine ⟨acc, S2, rfl, fun D us H2 hD R2 s2 r2 => ?_⟩
      obtain ⟨R3, s3, r3⟩ := lc_end (cm := cm) R1 R2 r2
      exact h _ H2 R3 (s1.trans (s2.trans s3)) (r3 hD)
theorem lcL_imp {vs : List Nat} (tk : TgOk cm X.K t vs g) {σ : L2.St} {H : Hp} {Q : VK} (h : tL cm X.K W (lLc mi g c e vs) σ H Q) : tLc (tG cm X.K W (rIt cm X.K) mi) t (tT cm X.K W0 c) (tE cm X.K W0 e) vs σ H Q := by
  obtain ⟨F, S, e1, e2, R, h⟩ := h
  refine lc_read tk e1 e2 ⟨F, S, e1, e2, R, ?_⟩
  unfold lLc at h
  cases hm : mi S with
  | bad => rw [hm] at h; exact h
  | exc c0 fs S1 => rw [hm] at h; exact h
  | ok ds S1 =>
    rw [hm, Rs.bind_ok] at h
    intro J H1 R1 s1 p1
    refine ⟨ds, S1, R1, p1, ?_⟩
    cases hl : loopC g c e vs ds [] (wipeS S1 vs) with
    | bad => rw [hl] at h; exact h.elim
    | exc _ _ _ => exact absurd hl (loopC_calm _ _ _ _ _ _ _)
    | ok acc S2 =>
      rw [hl] at h
      refine ⟨acc, S2, rfl, fun D us H2 hD R2 s2 r2 => ?_⟩
      have eD := (R2.tmp (D, .lst us) (List.mem_cons_self ..)).1
      have ev : vis F S2 σ (cutH H2 D) = vis (F.hide D (.lst us)) S2 σ H2 := vis_cut
      have z := h D us (cutH H2 D) (Rel.cut R1 hD R2) (by rw [ev]; exact s1.trans s2) (by unfold cutH; rw [if_pos rfl]) (by rw [ev, e1, e2]; exact r2)
      rw [cutH_upd eD] at z
      exact z
theorem gs_setLc {i : Nat} {y : Str} {py spos : Pos} (hc : X.calm = true) (hN : X.N.Nodup) (hy : X.N[i]? = some y) (hyl : X.env.scope.names.lookup y = some .local)
    (hi : PI X tg iter (tG cm X.K W (rIt cm X.K) mi)) (ok : BlkOk X.N X.env.scope scope own) (tk : TgOk cm X.K t (own.map (·.2)) g)
    (hg : ∀ (s : Shared) (H : Hp) (C : Addr) (cl : List (Str × Addr)) (fp : List Addr), PG (X.blk s H scope (compEnvC scope cl C X.env) fp) tg t)
    (ht : ∀ (s : Shared) (H : Hp) (C : Addr) (cl : List (Str × Addr)) (fp : List Addr), PTs (X.blk s H scope (compEnvC scope cl C X.env) fp) ifs (tT cm X.K W0 c))
    (he : ∀ (s : Shared) (H : Hp) (C : Addr) (cl : List (Str × Addr)) (fp : List Addr), PE (X.blk s H scope (compEnvC scope cl C X.env) fp) elt (tE cm X.K W0 e)) (hs : ∀ x, foldedSetIterable iter X.env x = pure x := by intro _; rfl)
    (hsw : swapsWith (.ListComp elt [⟨tg, iter, ifs, 0⟩] scope pos) (some (.Name y py)) spos.line X.env = pure true := by rfl) :
    PS X (.Assign [.Name y py] (.ListComp elt [⟨tg, iter, ifs, 0⟩] scope pos) spos) (tS cm X.K W (mAsg (mLc mi g c e (own.map (·.2))) (gNm i))) :=
  PS.weak (ps_setLc hc hN hy hyl hsw hi ok hg ht he hs) fun D σ H ⟨F, S, e1, e2, R, h⟩ => lc_imp tk (tG_bindS e1 e2 R h fun x H1 da S1 R1 s1 p1 h1 => by
    obtain ⟨R', s'⟩ := R1.dat (i := i) (v := x) (d := da) (by rw [e1, e2]; exact p1)
    exact h1 _ H1 R' s')
theorem gs_setLcF {i : Nat} {y : Str} {py spos : Pos} (hc : X.calm = true) (hN : X.N.Nodup) (hy : X.N[i]? = some y) (hyl : X.env.scope.names.lookup y = some .local)
    (hi : PI X tg iter (tG cm X.K W (rIt cm X.K) mi)) (ok : BlkOk X.N X.env.scope scope own) (tk : TgOk cm X.K t (own.map (·.2)) g)
    (hg : ∀ (s : Shared) (H : Hp) (C : Addr) (cl : List (Str × Addr)) (fp : List Addr), PG (X.blk s H scope (compEnvC scope cl C X.env) fp) tg t)
    (ht : ∀ (s : Shared) (H : Hp) (C : Addr) (cl : List (Str × Addr)) (fp : List Addr), PTs (X.blk s H scope (compEnvC scope cl C X.env) fp) ifs (tT cm X.K W0 c))
    (he : ∀ (s : Shared) (H : Hp) (C : Addr) (cl : List (Str × Addr)) (fp : List Addr), PE (X.blk s H scope (compEnvC scope cl C X.env) fp) elt (tE cm X.K W0 e)) (hs : ∀ x, foldedSetIterable iter X.env x = pure x := by intro _; rfl)
    (hsw : swapsWith (.ListComp elt [⟨tg, iter, ifs, 0⟩] scope pos) (some (.Name y py)) spos.line X.env = pure true := by rfl) :
    PS X (.Assign [.Name y py] (.ListComp elt [⟨tg, iter, ifs, 0⟩] scope pos) spos) (tS cm X.K W (mSetF i (lLc mi g c e (own.map (·.2))))) :=
  PS.weak (ps_setLc hc hN hy hyl hsw hi ok hg ht he hs) fun D σ H ⟨F, S, e1, e2, R, h⟩ => lcL_imp tk (by
    refine ⟨F, S, e1, e2, R, ?_⟩
    unfold mSetF at h
    cases hm : lLc mi g c e (own.map (·.2)) S with
    | bad => rw [hm] at h; exact h
    | exc c fs S1 => rw [hm] at h; exact h σ
    | ok ds S1 =>
      rw [hm] at h
      intro l xs H1 R1 s1 hl rx
      obtain ⟨R', s'⟩ := R1.newLoc (i := i) (ds := ds) hl rx
      exact h _ _ R' (s1.trans s'))
end
end Mir

/-! MirU: native functions: how a mirror runs, told by equations; codes of native values -/
namespace Mir
open PySem L2
/-! ### codes -/
abbrev eI : Int → Dat := Dat.int
abbrev eB : Bool → Dat := Dat.bl
abbrev eS : Str → Dat := Dat.str
abbrev eU : Unit → Dat := fun _ => .non
abbrev eD : Dat → Dat := fun d => d
abbrev eL {α : Type} (f : α → Dat) (xs : List α) : Dat := .lst (xs.map f)
abbrev eT {α : Type} (f : α → Dat) (xs : List α) : Dat := .tup (xs.map f)
abbrev eR {α : Type} (f : α → Dat) (xs : List α) : Dat := .ro (xs.map f)
def eO {α : Type} (f : α → Dat) : Option α → Dat
  | none => .non
  | some a => f a
abbrev e1 {α : Type} (f : α → Dat) (p : α) : Dat := .tup [f p]
abbrev e2 {α β : Type} (f : α → Dat) (g : β → Dat) (p : α × β) : Dat := .tup [f p.1, g p.2]
abbrev e3 {α β γ : Type} (f : α → Dat) (g : β → Dat) (h : γ → Dat) (p : α × β × γ) : Dat := .tup [f p.1, g p.2.1, h p.2.2]
abbrev e4 {α β γ δ : Type} (f : α → Dat) (g : β → Dat) (h : γ → Dat) (i : δ → Dat) (p : α × β × γ × δ) : Dat := .tup [f p.1, g p.2.1, h p.2.2.1, i p.2.2.2]
theorem bind_some {α β : Type} {o : Option α} {k : α → Option β} {b : β} (h : o.bind k = some b) : ∃ a, o = some a ∧ k a = some b := by
  cases o with
  | none => cases h
  | some a => exact ⟨a, rfl, h⟩
theorem ite_some {α : Type} {t : Bool} {x y : Option α} {a : α} (h : (if t = true then x else y) = some a) : (t = true ∧ x = some a) ∨ (t = false ∧ y = some a) := by
  cases t with
  | true => exact .inl ⟨rfl, h⟩
  | false => exact .inr ⟨rfl, h⟩
section
variable {α β γ : Type} {S S1 S2 S3 S4 : Sg} {a b c d d' : Dat} {ma mb : ME} {mr : MA} {g g' : Dat → Dat → Option Dat} {i j : Nat}
theorem x_eq (h : ma S = .ok d S1) (e : d = d') : ma S = .ok d' S1 := by rw [h, e]
theorem x_C : mC d S = .ok d S := rfl
theorem x_var (h : S[i]? = some (.dat d)) : mVar i S = .ok d S := by unfold mVar; rw [h]
theorem x_varL {ds : List Dat} (h : S[i]? = some (.loc ds)) (h2 : S.set i (.dat (.lst ds)) = S1) : mVar i S = .ok (.lst ds) S1 := by unfold mVar; rw [h, ← h2]
theorem x_2 (ha : ma S = .ok a S1) (hb : mb S1 = .ok b S2) (h : g a b = some c) : m2 g ma mb S = .ok c S2 := by
  unfold m2; rw [ha, Rs.bind_ok, hb, Rs.bind_ok, h]; rfl
theorem x_1 {f : Dat → Option Dat} (ha : ma S = .ok a S1) (h : f a = some c) : m1 f ma S = .ok c S1 := by
  unfold m1; rw [ha, Rs.bind_ok, h]; rfl
theorem x_nil : mNil S = .ok [] S := rfl
theorem x_cons {ds : List Dat} (ha : ma S = .ok a S1) (hr : mr S1 = .ok ds S2) : mCons ma mr S = .ok (a :: ds) S2 := by
  unfold mCons; rw [ha, Rs.bind_ok, hr]; rfl
theorem x_call {f : List Dat → Option Dat} {ds : List Dat} (hr : mr S = .ok ds S1) (h : f ds = some c) : mCall f mr S = .ok c S1 := by
  unfold mCall; rw [hr, Rs.bind_ok, h]; rfl
theorem x_lst {ds : List Dat} (hr : mr S = .ok ds S1) (h : ds.length ≤ lim) : mLst mr S = .ok (.lst ds) S1 := x_call hr (by unfold mkLst; rw [if_pos h])
theorem x_tup {ds : List Dat} (hr : mr S = .ok ds S1) (h : ds.length ≤ lim) : mTup mr S = .ok (.tup ds) S1 := x_call hr (by unfold mkTup; rw [if_pos h])
theorem x_ifP {ct : MT} {t : Bool} {f : α → Dat} {x y : α} (hc : ct S = .ok t S1) (ha : ma S1 = .ok (f x) S2) (hb : mb S1 = .ok (f y) S2) : mIf ct ma mb S = .ok (f (if t = true then x else y)) S2 := by
  unfold mIf; rw [hc, Rs.bind_ok]; cases t <;> simp [ha, hb]
theorem x_ifQ {ct : MT} {t : Bool} {f : α → Dat} {st : α → Sg} {nA nB : Option α} {v : α} (hc : ct S = .ok t S1) (ha : ∀ v, nA = some v → ma S1 = .ok (f v) (st v)) (hb : ∀ v, nB = some v → mb S1 = .ok (f v) (st v)) (h : (if t = true then nA else nB) = some v) : mIf ct ma mb S = .ok (f v) (st v) := by
  unfold mIf; rw [hc, Rs.bind_ok]
  cases t with
  | true => exact ha v h
  | false => exact hb v h
theorem x_andP {x y : Bool} (ha : ma S = .ok (.bl x) S1) (hb : mb S1 = .ok (.bl y) S1) : mAnd ma mb S = .ok (.bl (x && y)) S1 := by
  unfold mAnd; rw [ha, Rs.bind_ok]; cases x <;> simp [hb]
theorem x_orP {x y : Bool} (ha : ma S = .ok (.bl x) S1) (hb : mb S1 = .ok (.bl y) S1) : mOr ma mb S = .ok (.bl (x || y)) S1 := by
  unfold mOr; rw [ha, Rs.bind_ok]; cases x <;> simp [hb]
theorem x_andQ {x : Bool} {val : α → Bool} {st : α → Sg} {nB : Option α} {v v0 : α} (ha : ma S = .ok (.bl x) S1) (hb : ∀ v, nB = some v → mb S1 = .ok (.bl (val v)) (st v)) (h0 : val v0 = false) (h1 : st v0 = S1) (h : (if x = true then nB else some v0) = some v) : mAnd ma mb S = .ok (.bl (val v)) (st v) := by
  unfold mAnd; rw [ha, Rs.bind_ok]
  cases x with
  | true => exact hb v h
  | false => cases h; rw [h0, h1]
theorem x_orQ {x : Bool} {val : α → Bool} {st : α → Sg} {nB : Option α} {v v0 : α} (ha : ma S = .ok (.bl x) S1) (hb : ∀ v, nB = some v → mb S1 = .ok (.bl (val v)) (st v)) (h0 : val v0 = true) (h1 : st v0 = S1) (h : (if x = true then some v0 else nB) = some v) : mOr ma mb S = .ok (.bl (val v)) (st v) := by
  unfold mOr; rw [ha, Rs.bind_ok]
  cases x with
  | true => cases h; rw [h0, h1]
  | false => exact hb v h
theorem x_not {x : Bool} (ha : ma S = .ok (.bl x) S1) : mNot ma S = .ok (.bl (!x)) S1 := by unfold mNot; rw [ha]; rfl
theorem t_truth {x : Bool} (ha : ma S = .ok (.bl x) S1) : cTruth ma S = .ok x S1 := by unfold cTruth; rw [ha]; rfl
theorem t_andP {ca cb : MT} {x y : Bool} (ha : ca S = .ok x S1) (hb : cb S1 = .ok y S1) : cAnd ca cb S = .ok (x && y) S1 := by
  unfold cAnd; rw [ha, Rs.bind_ok]; cases x <;> simp [hb]
theorem t_orP {ca cb : MT} {x y : Bool} (ha : ca S = .ok x S1) (hb : cb S1 = .ok y S1) : cOr ca cb S = .ok (x || y) S1 := by
  unfold cOr; rw [ha, Rs.bind_ok]; cases x <;> simp [hb]
theorem t_andQ {ca cb : MT} {x : Bool} {val : α → Bool} {st : α → Sg} {nB : Option α} {v v0 : α} (ha : ca S = .ok x S1) (hb : ∀ v, nB = some v → cb S1 = .ok (val v) (st v)) (h0 : val v0 = false) (h1 : st v0 = S1) (h : (if x = true then nB else some v0) = some v) : cAnd ca cb S = .ok (val v) (st v) := by
  unfold cAnd; rw [ha, Rs.bind_ok]
  cases x with
  | true => exact hb v h
  | false => cases h; rw [h0, h1]; rfl
theorem t_orQ {ca cb : MT} {x : Bool} {val : α → Bool} {st : α → Sg} {nB : Option α} {v v0 : α} (ha : ca S = .ok x S1) (hb : ∀ v, nB = some v → cb S1 = .ok (val v) (st v)) (h0 : val v0 = true) (h1 : st v0 = S1) (h : (if x = true then some v0 else nB) = some v) : cOr ca cb S = .ok (val v) (st v) := by
  unfold cOr; rw [ha, Rs.bind_ok]
  cases x with
  | true => cases h; rw [h0, h1]; rfl
  | false => exact hb v h
theorem t_not {ca : MT} {x : Bool} (ha : ca S = .ok x S1) : cNot ca S = .ok (!x) S1 := by unfold cNot; rw [ha]; rfl
theorem x_chain {x y : Bool} {mc : ME} {w : Dat} (ha : ma S = .ok a S1) (hb : mb S1 = .ok b S2) (hc : mc S2 = .ok w S2) (h1 : g a b = some (.bl x)) (h2 : g' b w = some (.bl y)) : mChain g g' ma mb mc S = .ok (.bl (x && y)) S2 := by
  unfold mChain; rw [ha, Rs.bind_ok, hb, Rs.bind_ok, h1, Rs.of_some, Rs.bind_ok]
  cases x with
  | true => simp only [hc, Rs.bind_ok, h2, Rs.of_some, Bool.true_and]
  | false => rfl
/-! lists that the def changes -/
theorem x_ixS {ds : List Dat} (hm : isMut i S = true) (hi : ma S = .ok b S1) (hl : listAt i S1 = some ds) (h : ixD (.lst ds) b = some c) : mIxS i ma S = .ok c S1 := by
  unfold mIxS; rw [if_pos hm, hi, Rs.bind_ok]; simp only [hl, h, Rs.of_some]
theorem x_ixV (hm : isMut i S = false) (hv : mVar i S = .ok a S1) (hi : ma S1 = .ok b S2) (h : ixD a b = some c) : mIxS i ma S = .ok c S2 := by
  unfold mIxS; rw [hm]; exact x_2 hv hi h
theorem x_callP {f : List Dat → Option Dat} {ds : List Dat} (hm : isMut i S = true) (hl : listAt i S = some ds) (h : f [.lst ds] = some c) (hs : scal c = true) : mCallP f i S = .ok c S := by
  unfold mCallP; rw [if_pos hm]; simp only [hl, h, hs]; rfl
theorem x_callV {f : List Dat → Option Dat} (hm : isMut i S = false) (hv : mVar i S = .ok a S1) (h : f [a] = some c) : mCallP f i S = .ok c S1 := by
  unfold mCallP; rw [hm]; exact x_call (x_cons hv x_nil) h
theorem x_opP {ds : List Dat} (hm : isMut i S = true) (hb : mb S = .ok b S1) (hl : listAt i S1 = some ds) (h : g (.lst ds) b = some c) (hs : scal c = true) : mOpP g i mb S = .ok c S1 := by
  unfold mOpP; rw [if_pos hm, hb, Rs.bind_ok]; simp only [hl, h, hs]; rfl
theorem x_opV (hm : isMut i S = false) (hv : mVar i S = .ok a S1) (hb : mb S1 = .ok b S2) (h : g a b = some c) : mOpP g i mb S = .ok c S2 := by
  unfold mOpP; rw [hm]; exact x_2 hv hb h
theorem o_n : oN S = .ok none S := rfl
theorem o_s {n : Int} (h : ma S = .ok (.int n) S1) : oS ma S = .ok (some n) S1 := by unfold oS; rw [h]; rfl
theorem x_sl {ml mh : MO} {lo hi : Option Int} (ha : ma S = .ok a S1) (hl : ml S1 = .ok lo S2) (hh : mh S2 = .ok hi S3) (h : sliceD a lo hi = some c) : mSl ma ml mh S = .ok c S3 := by
  unfold mSl; rw [ha, Rs.bind_ok, hl, Rs.bind_ok, hh, Rs.bind_ok, h]; rfl
theorem x_slS {ml mh : MO} {lo hi : Option Int} {ds : List Dat} (hm : isMut i S = true) (hl : ml S = .ok lo S1) (hh : mh S1 = .ok hi S2) (h : listAt i S2 = some ds) : mSlS i ml mh S = .ok (.lst (cutL ds lo hi)) S2 := by
  unfold mSlS; rw [if_pos hm, hl, Rs.bind_ok, hh, Rs.bind_ok]; simp only [h]
theorem x_slV {ml mh : MO} {lo hi : Option Int} (hm : isMut i S = false) (hv : mVar i S = .ok a S1) (hl : ml S1 = .ok lo S2) (hh : mh S2 = .ok hi S3) (h : sliceD a lo hi = some c) : mSlS i ml mh S = .ok c S3 := by
  unfold mSlS; rw [hm]; exact x_sl hv hl hh h
/-! calls of defs -/
theorem v_nil : vNil S = .ok [] S := rfl
theorem v_dat {m : MAv} {as : List AV} (ha : ma S = .ok a S1) (hr : m S1 = .ok as S2) : vDat ma m S = .ok (.dat a :: as) S2 := by unfold vDat; rw [ha, Rs.bind_ok, hr]; rfl
theorem v_slot {m : MAv} {as : List AV} (hm : isLent i S = true) (hr : m S = .ok as S2) : vSlot i m S = .ok (.slot i :: as) S2 := by unfold vSlot; rw [if_pos hm, hr]; rfl
theorem v_varS {m : MAv} {as : List AV} (hm : isLent i S = true) (hr : m S = .ok as S2) : vVar i m S = .ok (.slot i :: as) S2 := by unfold vVar; rw [if_pos hm]; exact v_slot hm hr
theorem v_varV {m : MAv} {as : List AV} (hm : isLent i S = false) (ha : mVar i S = .ok a S1) (hr : m S1 = .ok as S2) : vVar i m S = .ok (.dat a :: as) S2 := by unfold vVar; rw [hm]; exact v_dat ha hr
theorem x_apply {Fn : List FA → RF} {as : List AV} {fs : List FA} {is : List Nat} {outs : List Own} (hf : fetch S as = some (fs, is)) (nd : nodupB is = true) (hF : Fn fs = .ok d outs) (hw : wb S is outs = some S1) : applyF Fn as S = .ok d S1 := by
  unfold applyF; simp only [hf, nd, if_true, hF, hw]
theorem x_callF {Fn : List FA → RF} {n m : Nat} {arr : List AV → List AV → List AV} {mA mK : MAv} {as bs : List AV} {fs : List FA} {is : List Nat} {outs : List Own} (ha : mA S = .ok as S1) (hk : mK S1 = .ok bs S2) (hl : as.length = n ∧ bs.length = m) (hf : fetch S2 (arr as bs) = some (fs, is)) (nd : nodupB is = true) (hF : Fn fs = .ok d outs) (hw : wb S2 is outs = some S3) : mCallF Fn n m arr mA mK S = .ok d S3 := by
  unfold mCallF; rw [ha, Rs.bind_ok, hk, Rs.bind_ok, if_pos hl]; exact x_apply hf nd hF hw
theorem x_make {cn : Str} {Fn : List FA → RF} {n m : Nat} {arr : List AV → List AV → List AV} {mA mK : MAv} {as bs : List AV} {fs : List FA} {gs : List (Str × Dat)} (ha : mA S = .ok as S1) (hk : mK S1 = .ok bs S2) (hl : as.length = n ∧ bs.length = m) (hf : datsOf (arr as bs) = some fs) (hF : Fn (.own (.obj cn []) :: fs) = .ok .non [.obj cn gs]) : mMake cn Fn n m arr mA mK S = .ok (.ins cn gs) S2 := by
  unfold mMake; rw [ha, Rs.bind_ok, hk, Rs.bind_ok, if_pos hl]; simp only [hf, makeF, hF, if_true]
theorem x_meth {cs : List Str} {nm : Str} {Fn : List FA → RF} {n : Nat} {arr : List AV → List AV → List AV} {mA : MAv} {as : List AV} {cn : Str} {gs : List (Str × Dat)} {fs : List FA} {is : List Nat} {outs : List Own} (ho : ma S = .ok (.ins cn gs) S1) (hc : (cs.contains cn && (gs.lookup nm).isNone) = true) (ha : mA S1 = .ok as S2) (hl : as.length = n) (hf : fetch S2 (arr (.dat (.ins cn gs) :: as) []) = some (fs, is)) (nd : nodupB is = true) (hF : Fn fs = .ok d outs) (hw : wb S2 is outs = some S3) : mMeth cs nm Fn n arr ma mA S = .ok d S3 := by
  unfold mMeth; rw [ho, Rs.bind_ok]; simp only [hc, if_true]; rw [ha, Rs.bind_ok, if_pos hl]; exact x_apply hf nd hF hw
theorem x_prop {cs : List Str} {Fn : List FA → RF} {cn : Str} {gs : List (Str × Dat)} (ho : ma S = .ok (.ins cn gs) S1) (hc : cs.contains cn = true) (hF : Fn [.dat (.ins cn gs)] = .ok d []) : mProp cs Fn ma S = .ok d S1 := by
  unfold mProp; rw [ho, Rs.bind_ok]; simp only [hc, if_true]; rw [x_apply (S1 := S1) (fs := [.dat (.ins cn gs)]) (is := []) (outs := []) rfl rfl hF rfl]; rfl
theorem x_lend {Fn : List FA → RF} {mL : Sg → Rs (List Dat)} {ds : List Dat} {o : Own} (hl : mL S = .ok ds S1) (hF : Fn [.own (.lst ds)] = .ok d [o]) : mLend Fn mL S = .ok d S1 := by
  unfold mLend; rw [hl, Rs.bind_ok]; simp only [hF]
theorem x_jn {x : Str} (ha : ma S = .ok (.str x) S1) (hb : mb S1 = .ok b S2) (h : joinD (.str x) b = some c) : mJn ma mb S = .ok c S2 := by
  unfold mJn; rw [ha, Rs.bind_ok]; simp only []; rw [hb, Rs.bind_ok, h]; rfl
theorem x_fldO {cs : List Str} {nm cn : Str} {k : Nat} {gs : List (Str × Dat)} (h : S[i]? = some (.own k (.obj cn gs))) (hc : cs.contains cn = true) (hl : gs.lookup nm = some d) : mFldO cs i nm S = .ok d S := by
  unfold mFldO; simp only [h, hc, if_true, hl]; rfl
theorem x_fstr {ms : List ME} {x : Str} (h : joinM ms Str.empty S = .ok x S1) : mFStr ms S = .ok (.str x) S1 := by unfold mFStr; rw [h]; rfl
theorem j_nil {acc : Str} : joinM [] acc S = .ok acc S := rfl
theorem j_cons {ms : List ME} {acc y z : Str} (ha : ma S = .ok (.str y) S1) (hl : (acc ++ y).length ≤ sizeLine) (hr : joinM ms (acc ++ y) S1 = .ok z S2) : joinM (ma :: ms) acc S = .ok z S2 := by
  unfold joinM; rw [ha, Rs.bind_ok]; simp only [hl, if_true]; exact hr
/-! new lists -/
theorem l_lst {ds : List Dat} (h : mr S = .ok ds S1) (hl : ds.length ≤ lim) : lLst mr S = .ok ds S1 := by unfold lLst; rw [h, Rs.bind_ok, if_pos hl]
theorem l_list {ds : List Dat} (h : ma S = .ok (.lst ds) S1) : lList ma S = .ok ds S1 := by unfold lList; rw [h]; rfl
theorem l_listT {ds : List Dat} (h : ma S = .ok (.tup ds) S1) : lList ma S = .ok ds S1 := by unfold lList; rw [h]; rfl
theorem l_listR {ds : List Dat} (h : ma S = .ok (.ro ds) S1) : lList ma S = .ok ds S1 := by unfold lList; rw [h]; rfl
theorem l_call {L : List Dat → Option (List Dat)} {n : Nat} {mA : MAv} {as : List AV} {ds es : List Dat} (ha : mA S = .ok as S1) (hl : as.length = n) (hd : datsA as = some ds) (h : L ds = some es) : lCall L n mA S = .ok es S1 := by
  unfold lCall; rw [ha, Rs.bind_ok, if_pos hl]; simp only [hd, h]; rfl
theorem x_fresh {mL : Sg → Rs (List Dat)} {ds : List Dat} (h : mL S = .ok ds S1) : mFresh mL S = .ok (.lst ds) S1 := by unfold mFresh; rw [h]; rfl
/-! ### statements: P of what a def's body, or a loop's body, ends with -/
variable {P : Rs Fl → Prop} {m m' rest : MS}
theorem s_last (k : P (mSeq m mNext S)) : P (m S) := by
  have e : mSeq m mNext S = m S := by
    unfold mSeq mNext
    cases m S with
    | ok f S1 => cases f <;> rfl
    | _ => rfl
  rw [← e]; exact k
theorem s_assoc (k : P (mSeq m (mSeq m' rest) S)) : P (mSeq (mSeq m m') rest S) := by
  have e : mSeq (mSeq m m') rest S = mSeq m (mSeq m' rest) S := by
    unfold mSeq
    cases h : m S with
    | ok f S1 => cases f <;> rfl
    | _ => rfl
  rw [e]; exact k
theorem s_run (h : m S = .ok .nx S1) (k : P (rest S1)) : P (mSeq m rest S) := by
  have e : mSeq m rest S = rest S1 := by unfold mSeq; rw [h]
  rw [e]; exact k
theorem s_out {r : Rs Fl} (h : m S = r) (hr : ∀ S1, r ≠ .ok .nx S1) (k : P r) : P (mSeq m rest S) := by
  have e : mSeq m rest S = r := by
    unfold mSeq; rw [h]
    cases r with
    | ok f S1 =>
      cases f with
      | nx => exact absurd rfl (hr S1)
      | _ => rfl
    | _ => rfl
  rw [e]; exact k
theorem s_next (k : P (rest S)) : P (mSeq mNext rest S) := s_run rfl k
theorem s_ret (he : ma S = .ok d S1) (k : P (.ok (.rt d) S1)) : P (mSeq (mRet ma) rest S) := s_out (r := .ok (.rt d) S1) (by unfold mRet; rw [he]; rfl) (fun _ h => by cases h) k
theorem s_retN (k : P (.ok (.rt .non) S)) : P (mSeq mRetN rest S) := s_out (r := .ok (.rt .non) S) rfl (fun _ h => by cases h) k
theorem s_brk (k : P (.ok .bk S)) : P (mSeq mBreak rest S) := s_out (r := .ok .bk S) rfl (fun _ h => by cases h) k
theorem s_cont (k : P (.ok .ct S)) : P (mSeq mCont rest S) := s_out (r := .ok .ct S) rfl (fun _ h => by cases h) k
theorem s_asg (he : ma S = .ok d S1) (hS : S1.set i (.dat d) = S2) (k : P (rest S2)) : P (mSeq (mAsg ma (gNm i)) rest S) := s_run (by unfold mAsg gNm; rw [he, Rs.bind_ok, Rs.bind_ok, hS]) k
theorem s_asgG {gt : MG} (he : ma S = .ok d S1) (hg : gt d S1 = .ok () S2) (k : P (rest S2)) : P (mSeq (mAsg ma gt) rest S) := s_run (by unfold mAsg; rw [he, Rs.bind_ok, hg]; rfl) k
theorem s_drop (he : ma S = .ok d S1) (k : P (rest S1)) : P (mSeq (mDrop ma) rest S) := s_run (by unfold mDrop; rw [he]; rfl) k
theorem s_if {ct : MT} {t : Bool} (hc : ct S = .ok t S1) (ha : t = true → P (mSeq m rest S1)) (hb : t = false → P (mSeq m' rest S1)) : P (mSeq (mIfS ct m m') rest S) := by
  have e : mSeq (mIfS ct m m') rest S = if t = true then mSeq m rest S1 else mSeq m' rest S1 := by
    unfold mSeq mIfS
    rw [hc, Rs.bind_ok]
    cases t <;> rfl
  rw [e]
  cases t with
  | true => exact ha rfl
  | false => exact hb rfl
theorem s_setF {mL : Sg → Rs (List Dat)} {ds : List Dat} (h : mL S = .ok ds S1) (hS : S1.set i (.loc ds) = S2) (k : P (rest S2)) : P (mSeq (mSetF i mL) rest S) := s_run (by unfold mSetF; rw [h, Rs.bind_ok, hS]) k
theorem s_par (h : mr S = .ok [a, b] S1) (hS : (S1.set i (.dat a)).set j (.dat b) = S2) (k : P (rest S2)) : P (mSeq (mPar i j mr) rest S) := s_run (by unfold mPar; rw [h, Rs.bind_ok]; simp only [hS]) k
theorem s_appL {ds : List Dat} (hm : isMut i S = true) (he : ma S = .ok d S1) (h : S1[i]? = some (.loc ds)) (hl : ds.length < lim) (hS : S1.set i (.loc (ds ++ [d])) = S2) (k : P (rest S2)) : P (mSeq (mApp i ma) rest S) := s_run (by
  unfold mApp; rw [if_pos hm, he, Rs.bind_ok]
  have m1 : isMut i S1 = true := by unfold isMut; rw [h]
  rw [if_pos m1]
  unfold appAt
  simp only [h, hl, if_true, hS]) k
theorem s_appO {ds : List Dat} {n : Nat} (hm : isMut i S = true) (he : ma S = .ok d S1) (h : S1[i]? = some (.own n (.lst ds))) (hl : ds.length < lim) (hS : S1.set i (.own n (.lst (ds ++ [d]))) = S2) (k : P (rest S2)) : P (mSeq (mApp i ma) rest S) := s_run (by
  unfold mApp; rw [if_pos hm, he, Rs.bind_ok]
  have m1 : isMut i S1 = true := by unfold isMut; rw [h]
  rw [if_pos m1]
  unfold appAt
  simp only [h, hl, if_true, hS]) k
theorem s_popL {ds : List Dat} (h : S[i]? = some (.loc ds)) (hl : ds.length ≠ 0) (hS : S.set i (.loc ds.dropLast) = S2) (k : P (rest S2)) : P (mSeq (mPop i) rest S) := s_run (by
  have m1 : isMut i S = true := by unfold isMut; rw [h]
  unfold mPop; rw [if_pos m1]
  unfold popAt
  simp only [h, hl, if_false, hS]) k
theorem s_ixL {ds : List Dat} {n : Int} {mi : ME} {k' : Nat} (he : ma S = .ok d S1) (hm : isMut i S1 = true) (hi : mi S1 = .ok (.int n) S2) (h : S2[i]? = some (.loc ds)) (hn : ixN ds.length n = some k') (hS : S2.set i (.loc (ds.set k' d)) = S3) (k : P (rest S3)) : P (mSeq (mAsg ma (gIx i mi)) rest S) := s_asgG he (by
  unfold gIx; rw [if_pos hm, hi, Rs.bind_ok]
  have m1 : isMut i S2 = true := by unfold isMut; rw [h]
  simp only [m1, if_true]
  unfold setAt
  simp only [h, hn, hS]) k
theorem s_stF {cs : List Str} {nm cn : Str} {k' : Nat} {gs : List (Str × Dat)} (he : ma S = .ok d S1) (h : S1[i]? = some (.own k' (.obj cn gs))) (hc : cs.contains cn = true ∧ gs.length < 1000) (hS : S1.set i (.own k' (.obj cn (putD nm d gs))) = S2) (k : P (rest S2)) : P (mSeq (mStF cs i nm ma) rest S) := s_run (by
  unfold mStF; rw [he, Rs.bind_ok]; unfold stF; simp only [h]; rw [if_pos hc, Rs.bind_ok, hS]) k
/-! targets -/
theorem g_nm {i : Nat} : gNm i d S = .ok () (S.set i (.dat d)) := rfl
theorem g_tp {gs : MGs} {n : Nat} {ds : List Dat} (hn : ds.length = n) (h : gs ds S = .ok () S1) : gTpN n gs (.tup ds) S = .ok () S1 := by unfold gTpN gTp; simp only [hn, if_true, h]
theorem g_nl : gNl [] S = .ok () S := rfl
theorem g_cs {gt : MG} {gs : MGs} {ds : List Dat} (h : gt d S = .ok () S1) (hr : gs ds S1 = .ok () S2) : gCs gt gs (d :: ds) S = .ok () S2 := by unfold gCs; simp only []; rw [h, Rs.bind_ok, hr]
theorem g_fld {cs : List Str} {nm cn : Str} {k' : Nat} {gs : List (Str × Dat)} (h : S[i]? = some (.own k' (.obj cn gs))) (hc : cs.contains cn = true ∧ gs.length < 1000) (hS : S.set i (.own k' (.obj cn (putD nm d gs))) = S1) : gFld cs i nm d S = .ok () S1 := by
  unfold gFld stF; simp only [h]; rw [if_pos hc, hS]
/-! iterables -/
theorem i_its {f : List Dat → Option (List Dat)} {ds es : List Dat} (h : mr S = .ok ds S1) (hf : f ds = some es) : mIts f mr S = .ok es S1 := by unfold mIts; rw [h, Rs.bind_ok, hf]; rfl
theorem i_items {es : List Dat} (h : ma S = .ok a S1) (hf : itemsD a = some es) : mItems ma S = .ok es S1 := by unfold mItems; rw [h, Rs.bind_ok, hf]; rfl
end
/-! ### loops -/
inductive Stp (ρ σ : Type) where
  | nx (s : σ)
  | bk (s : σ)
  | rt (r : ρ)
/-- a loop that may break or return -/
def forL {ι ρ σ : Type} (b : ι → σ → Option (Stp ρ σ)) : List ι → σ → Option (Stp ρ σ)
  | [], s => some (.nx s)
  | x :: xs, s => (b x s).bind fun st => match st with
    | .nx s' => forL b xs s'
    | .bk s' => some (.nx s')
    | .rt r => some (.rt r)
/-- a loop that goes through -/
def foldO {ι σ : Type} (b : ι → σ → Option σ) : List ι → σ → Option σ
  | [], s => some s
  | x :: xs, s => (b x s).bind fun s' => foldO b xs s'
def LN {σ : Type} (T : σ → (Nat → Slot) → Sg) (s : σ) (r : Rs Fl) : Prop := ∃ j, r = .ok .nx (T s j) ∨ r = .ok .ct (T s j)
def LB {ρ σ : Type} (T : σ → (Nat → Slot) → Sg) (RT : ρ → Rs Fl → Prop) (st : Stp ρ σ) (r : Rs Fl) : Prop := match st with
  | .nx s => LN T s r
  | .bk s => ∃ j, r = .ok .bk (T s j)
  | .rt v => RT v r
def LE {ρ σ : Type} (T : σ → (Nat → Slot) → Sg) (RT : ρ → Rs Fl → Prop) (st : Stp ρ σ) (r : Rs Fl) : Prop := match st with
  | .nx s => ∃ j, r = .ok .nx (T s j)
  | .bk _ => False
  | .rt v => RT v r
theorem ln_nx {σ : Type} {T : σ → (Nat → Slot) → Sg} {s : σ} {S : Sg} (h : T s (fun i => S.getD i .no) = S) : LN T s (.ok .nx S) := ⟨_, .inl (by rw [h])⟩
theorem ln_ct {σ : Type} {T : σ → (Nat → Slot) → Sg} {s : σ} {S : Sg} (h : T s (fun i => S.getD i .no) = S) : LN T s (.ok .ct S) := ⟨_, .inr (by rw [h])⟩
theorem lb_bk {ρ σ : Type} {T : σ → (Nat → Slot) → Sg} {RT : ρ → Rs Fl → Prop} {s : σ} {S : Sg} (h : T s (fun i => S.getD i .no) = S) : LB T RT (.bk s) (.ok .bk S) := ⟨_, by rw [h]⟩
theorem foldO_ok {ι σ : Type} {T : σ → (Nat → Slot) → Sg} {f : ι → Dat} {g : MG} {b : MS} {nb : ι → σ → Option σ}
    (hb : ∀ x s j s', nb x s = some s' → ∃ S1, g (f x) (T s j) = .ok () S1 ∧ LN T s' (b S1)) : ∀ (its : List ι) (s : σ) (j : Nat → Slot) (s' : σ), foldO nb its s = some s' → ∃ j', loopS g b (its.map f) (T s j) = .ok .nx (T s' j')
  | [], s, j, s', h => by cases h; exact ⟨j, rfl⟩
  | x :: xs, s, j, s', h => by
    obtain ⟨s1, h1, h2⟩ := bind_some h
    obtain ⟨S1, e1, j1, e2⟩ := hb x s j s1 h1
    obtain ⟨j2, e3⟩ := foldO_ok hb xs s1 j1 s' h2
    refine ⟨j2, ?_⟩
    rw [List.map_cons]
    unfold loopS
    rw [e1, Rs.bind_ok]
    rcases e2 with e2 | e2 <;> · rw [e2]; exact e3
theorem forL_ok {ι ρ σ : Type} {T : σ → (Nat → Slot) → Sg} {RT : ρ → Rs Fl → Prop} {f : ι → Dat} {g : MG} {b : MS} {nb : ι → σ → Option (Stp ρ σ)}
    (hR : ∀ v r, RT v r → ∃ d S, r = .ok (.rt d) S)
    (hb : ∀ x s j st, nb x s = some st → ∃ S1, g (f x) (T s j) = .ok () S1 ∧ LB T RT st (b S1)) : ∀ (its : List ι) (s : σ) (j : Nat → Slot) (st : Stp ρ σ), forL nb its s = some st → LE T RT st (loopS g b (its.map f) (T s j))
  | [], s, j, s', h => by cases h; exact ⟨j, rfl⟩
  | x :: xs, s, j, st, h => by
    obtain ⟨st1, h1, h2⟩ := bind_some h
    obtain ⟨S1, e1, e2⟩ := hb x s j st1 h1
    rw [List.map_cons]
    unfold loopS
    rw [e1, Rs.bind_ok]
    cases st1 with
    | nx s1 =>
      obtain ⟨j1, e2⟩ := e2
      have e3 := forL_ok hR hb xs s1 j1 st h2
      rcases e2 with e2 | e2 <;> · rw [e2]; exact e3
    | bk s1 =>
      obtain ⟨j1, e2⟩ := e2
      cases h2
      rw [e2]
      exact ⟨j1, rfl⟩
    | rt v =>
      cases h2
      obtain ⟨d, S2, e3⟩ := hR v _ e2
      have e4 : RT v (b S1) := e2
      rw [e3] at e4 ⊢
      exact e4
section
variable {S S1 S2 : Sg} {P : Rs Fl → Prop} {rest : MS}
theorem s_for {mi : Sg → Rs (List Dat)} {g : MG} {b : MS} {ds : List Dat} (h : mi S = .ok ds S1) (k : P (mSeq (loopS g b ds) rest S1)) : P (mSeq (mFor mi g b) rest S) := by
  have e : mSeq (mFor mi g b) rest S = mSeq (loopS g b ds) rest S1 := by unfold mSeq mFor; rw [h]; rfl
  rw [e]; exact k
theorem s_le {ρ σ : Type} {T : σ → (Nat → Slot) → Sg} {RT : ρ → Rs Fl → Prop} {st : Stp ρ σ} {m : MS} (hR : ∀ v r, RT v r → ∃ d S, r = .ok (.rt d) S) (h : LE T RT st (m S)) (kn : ∀ s j, st = .nx s → P (rest (T s j))) (kr : ∀ v r, st = .rt v → RT v r → P r) : P (mSeq m rest S) := by
  cases st with
  | nx s =>
    obtain ⟨j, e⟩ := h
    exact s_run e (kn s j rfl)
  | bk s => exact h.elim
  | rt v =>
    have h' : RT v (m S) := h
    obtain ⟨d, S2, e⟩ := hR v _ h'
    exact s_out (r := m S) rfl (fun S3 z => by rw [e] at z; cases z) (kr v _ rfl h')
end
/-! ### while -/
def whileF {σ : Type} (c : σ → Option Bool) (b : σ → Option σ) : Nat → σ → Option σ
  | 0, _ => none
  | n + 1, s => (c s).bind fun t => if t = true then (b s).bind fun s' => whileF c b n s' else some s
noncomputable def whileO {σ : Type} (c : σ → Option Bool) (b : σ → Option σ) (s : σ) : Option σ := open Classical in if h : ∃ n, whileF c b n s ≠ none then whileF c b (choose h) s else none
theorem whileF_mono {σ : Type} {c : σ → Option Bool} {b : σ → Option σ} : ∀ {n m : Nat} {s s' : σ}, n ≤ m → whileF c b n s = some s' → whileF c b m s = some s'
  | 0, _, _, _, _, h => by cases h
  | n + 1, 0, _, _, hm, _ => absurd hm (by omega)
  | n + 1, m + 1, s, s', hm, h => by
    unfold whileF at h ⊢
    obtain ⟨t, h1, h2⟩ := bind_some h
    rw [h1]
    show (if t = true then _ else _) = _
    cases t with
    | true =>
      obtain ⟨s1, h3, h4⟩ := bind_some h2
      have := whileF_mono (show n ≤ m by omega) h4
      simp only [if_true, h3]
      exact this
    | false => exact h2
theorem whileO_of {σ : Type} {c : σ → Option Bool} {b : σ → Option σ} {n : Nat} {s s' : σ} (h : whileF c b n s = some s') : whileO c b s = some s' := by
  unfold whileO
  have hx : ∃ n, whileF c b n s ≠ none := ⟨n, by rw [h]; simp⟩
  rw [dif_pos hx]
  have hc := Classical.choose_spec hx
  cases e : whileF c b (Classical.choose hx) s with
  | none => exact absurd e hc
  | some z =>
    have a := whileF_mono (Nat.le_max_left n (Classical.choose hx)) h
    have b := whileF_mono (Nat.le_max_right n (Classical.choose hx)) e
    rw [a] at b
    exact b.symm
theorem whileO_some {σ : Type} {c : σ → Option Bool} {b : σ → Option σ} {s s' : σ} (h : whileO c b s = some s') : ∃ n, whileF c b n s = some s' := by
  unfold whileO at h
  split at h
  · exact ⟨_, h⟩
  · cases h
theorem whileN_ok {σ : Type} {T : σ → (Nat → Slot) → Sg} {ct : MT} {b : MS} {nc : σ → Option Bool} {nb : σ → Option σ}
    (hc : ∀ s j t, nc s = some t → ct (T s j) = .ok t (T s j)) (hb : ∀ s j s', nb s = some s' → LN T s' (b (T s j))) : ∀ (n : Nat) (s : σ) (j : Nat → Slot) (s' : σ), whileF nc nb n s = some s' → ∃ j', whileN ct b n (T s j) = .ok .nx (T s' j')
  | 0, _, _, _, h => by cases h
  | n + 1, s, j, s', h => by
    unfold whileF at h
    obtain ⟨t, h1, h2⟩ := bind_some h
    have e1 := hc s j t h1
    unfold whileN
    rw [e1, Rs.bind_ok]
    cases t with
    | true =>
      obtain ⟨s1, h3, h4⟩ := bind_some h2
      obtain ⟨j1, e2⟩ := hb s j s1 h3
      obtain ⟨j2, e3⟩ := whileN_ok hc hb n s1 j1 s' h4
      refine ⟨j2, ?_⟩
      rw [if_pos rfl]
      rcases e2 with e2 | e2 <;> · rw [e2]; exact e3
    | false =>
      cases h2
      exact ⟨j, rfl⟩
theorem whileO_ok {σ : Type} {T : σ → (Nat → Slot) → Sg} {ct : MT} {b : MS} {nc : σ → Option Bool} {nb : σ → Option σ}
    (hc : ∀ s j t, nc s = some t → ct (T s j) = .ok t (T s j)) (hb : ∀ s j s', nb s = some s' → LN T s' (b (T s j))) (s : σ) (j : Nat → Slot) (s' : σ) (h : whileO nc nb s = some s') : ∃ j', mWhile ct b (T s j) = .ok .nx (T s' j') := by
  obtain ⟨n, hn⟩ := whileO_some h
  obtain ⟨j', e⟩ := whileN_ok hc hb n s j s' hn
  exact ⟨j', by rw [mWhile_of (n := n) (by rw [e]; simp), e]⟩
/-! ### comprehensions -/
/-- every item drawn from a state: none where the test says no -/
def lcS {ι α σ : Type} (nb : ι → σ → Option (Option α × σ)) : List ι → σ → Option (List α × σ)
  | [], s => some ([], s)
  | x :: xs, s => (nb x s).bind fun p => (lcS nb xs p.2).bind fun q => some (p.1.toList ++ q.1, q.2)
def mapS {ι α σ : Type} (nb : ι → σ → Option (α × σ)) : List ι → σ → Option (List α × σ)
  | [], s => some ([], s)
  | x :: xs, s => (nb x s).bind fun p => (mapS nb xs p.2).bind fun q => some (p.1 :: q.1, q.2)
def mapO {ι α : Type} (nb : ι → Option α) : List ι → Option (List α)
  | [] => some []
  | x :: xs => (nb x).bind fun p => (mapO nb xs).bind fun q => some (p :: q)
def lcO {ι α : Type} (nb : ι → Option (Option α)) : List ι → Option (List α)
  | [] => some []
  | x :: xs => (nb x).bind fun p => (lcO nb xs).bind fun q => some (p.toList ++ q)
def capL {α : Type} (xs : List α) : Option (List α) := if xs.length ≤ lim then some xs else none
theorem capL_some {α : Type} {xs ys : List α} (h : capL xs = some ys) : xs = ys ∧ ys.length ≤ lim := by
  unfold capL at h
  split at h
  · cases h; exact ⟨rfl, by assumption⟩
  · cases h
theorem capL_of {α : Type} {xs : List α} (h : xs.length ≤ lim) : capL xs = some xs := if_pos h
def capS {α σ : Type} (o : Option (List α × σ)) : Option (List α × σ) := o.bind fun p => if p.1.length ≤ lim then some p else none
def capO {α : Type} (o : Option (List α)) : Option (List α) := o.bind capL
section
variable {ι α σ : Type} {T : σ → Sg} {f : ι → Dat} {fo : α → Dat} {g : Dat → Sg → Option Sg} {c : MT} {e : ME} {vs : List Nat}
theorem loopC_lcS {nb : ι → σ → Option (Option α × σ)} (hb : ∀ x s p, nb x s = some p → ∃ S1, g (f x) (T s) = some S1 ∧ match p.1 with
      | none => ∃ S2, c S1 = .ok false S2 ∧ wipeS S2 vs = T p.2
      | some y => ∃ S2 S3, c S1 = .ok true S2 ∧ e S2 = .ok (fo y) S3 ∧ wipeS S3 vs = T p.2) : ∀ (its : List ι) (acc : List Dat) (s : σ) (ys : List α) (s' : σ), lcS nb its s = some (ys, s') → acc.length + ys.length ≤ lim → loopC g c e vs (its.map f) acc (T s) = .ok (acc ++ ys.map fo) (T s')
  | [], acc, s, ys, s', h, _ => by cases h; simp [loopC]
  | x :: xs, acc, s, ys, s', h, hl => by
    unfold lcS at h
    obtain ⟨⟨o, s1⟩, h1, h2⟩ := bind_some h
    obtain ⟨⟨qs, s2⟩, h3, h4⟩ := bind_some h2
    obtain ⟨rfl, rfl⟩ : o.toList ++ qs = ys ∧ s2 = s' := by
      have := Option.some.inj h4
      exact ⟨congrArg Prod.fst this, congrArg Prod.snd this⟩
    obtain ⟨S1, e1, e2⟩ := hb x s _ h1
    rw [List.map_cons]
    unfold loopC
    rw [e1, Rs.of_some, Rs.bind_ok]
    cases o with
    | none =>
      obtain ⟨S2, e3, e4⟩ := e2
      rw [e3, Rs.calm_ok, Rs.bind_ok, if_neg (by simp), e4]
      exact loopC_lcS hb xs acc s1 qs s2 h3 (by simpa using hl)
    | some y =>
      obtain ⟨S2, S3, e3, e4, e5⟩ := e2
      have hl2 : acc.length + (qs.length + 1) ≤ lim := by simpa using hl
      rw [e3, Rs.calm_ok, Rs.bind_ok, if_pos rfl, e4, Rs.calm_ok, Rs.bind_ok, if_pos (by omega), e5]
      have ih := loopC_lcS hb xs (acc ++ [fo y]) s1 qs s2 h3 (by simp; omega)
      rw [ih]
      simp
theorem lc_S {nb : ι → σ → Option (Option α × σ)} {mi : Sg → Rs (List Dat)} {S S1 : Sg} {its : List ι} {s s' : σ} {ys : List α} (hi : mi S = .ok (its.map f) S1) (hw : wipeS S1 vs = T s)
    (hb : ∀ x s p, nb x s = some p → ∃ S1, g (f x) (T s) = some S1 ∧ match p.1 with
      | none => ∃ S2, c S1 = .ok false S2 ∧ wipeS S2 vs = T p.2
      | some y => ∃ S2 S3, c S1 = .ok true S2 ∧ e S2 = .ok (fo y) S3 ∧ wipeS S3 vs = T p.2) (h : capS (lcS nb its s) = some (ys, s')) : lLc mi g c e vs S = .ok (ys.map fo) (T s') := by
  unfold capS at h
  obtain ⟨p, h1, h2⟩ := bind_some h
  split at h2
  · cases h2
    unfold lLc
    rw [hi, Rs.bind_ok, hw]
    have := loopC_lcS hb its [] s ys s' h1 (by simpa using by assumption)
    simpa using this
  · cases h2
theorem lcS_mapS {nb : ι → σ → Option (α × σ)} : ∀ (its : List ι) (s : σ), lcS (fun x s => (nb x s).bind fun p => some (some p.1, p.2)) its s = mapS nb its s
  | [], s => rfl
  | x :: xs, s => by
    unfold lcS mapS
    cases nb x s with
    | none => rfl
    | some p => simp [lcS_mapS xs p.2]
theorem lc_mapS {nb : ι → σ → Option (α × σ)} {mi : Sg → Rs (List Dat)} {S S1 : Sg} {its : List ι} {s s' : σ} {ys : List α} (hi : mi S = .ok (its.map f) S1) (hw : wipeS S1 vs = T s)
    (hb : ∀ x s p, nb x s = some p → ∃ S1 S3, g (f x) (T s) = some S1 ∧ e S1 = .ok (fo p.1) S3 ∧ wipeS S3 vs = T p.2) (h : capS (mapS nb its s) = some (ys, s')) : lLc mi g cYes e vs S = .ok (ys.map fo) (T s') := by
  refine lc_S (nb := fun x s => (nb x s).bind fun p => some (some p.1, p.2)) hi hw (fun x s p hp => ?_) (by rw [lcS_mapS]; exact h)
  obtain ⟨q, h1, h2⟩ := bind_some hp
  cases h2
  obtain ⟨S1, S3, a1, a2, a3⟩ := hb x s q h1
  exact ⟨S1, a1, S1, S3, rfl, a2, a3⟩
theorem lcS_lcO {nb : ι → Option (Option α)} : ∀ (its : List ι), lcS (σ := Unit) (fun x s => (nb x).bind fun p => some (p, ())) its () = (lcO nb its).bind fun ys => some (ys, ())
  | [] => rfl
  | x :: xs => by
    unfold lcS lcO
    cases nb x with
    | none => rfl
    | some p =>
      simp only [Option.bind_some]
      rw [lcS_lcO xs]
      cases lcO nb xs <;> rfl
theorem lc_O {nb : ι → Option (Option α)} {mi : Sg → Rs (List Dat)} {S S1 S0 : Sg} {its : List ι} {ys : List α} (hi : mi S = .ok (its.map f) S1) (hw : wipeS S1 vs = S0)
    (hb : ∀ x p, nb x = some p → ∃ S1, g (f x) S0 = some S1 ∧ match p with
      | none => ∃ S2, c S1 = .ok false S2 ∧ wipeS S2 vs = S0
      | some y => ∃ S2 S3, c S1 = .ok true S2 ∧ e S2 = .ok (fo y) S3 ∧ wipeS S3 vs = S0) (h : capO (lcO nb its) = some ys) : lLc mi g c e vs S = .ok (ys.map fo) S0 := by
  refine lc_S (σ := Unit) (T := fun _ => S0) (s := ()) (s' := ()) (nb := fun x s => (nb x).bind fun p => some (p, ())) hi hw (fun x s p hp => ?_) ?_
  · obtain ⟨q, h1, h2⟩ := bind_some hp
    cases h2
    exact hb x q h1
  · unfold capO at h
    obtain ⟨zs, h1, h2⟩ := bind_some h
    obtain ⟨rfl, h3⟩ := capL_some h2
    unfold capS
    rw [lcS_lcO, h1]
    simp [h3]
theorem lcO_mapO {nb : ι → Option α} : ∀ (its : List ι), lcO (fun x => (nb x).bind fun p => some (some p)) its = mapO nb its
  | [] => rfl
  | x :: xs => by
    unfold lcO mapO
    cases nb x with
    | none => rfl
    | some p => simp [lcO_mapO xs]
theorem lc_mapO {nb : ι → Option α} {mi : Sg → Rs (List Dat)} {S S1 S0 : Sg} {its : List ι} {ys : List α} (hi : mi S = .ok (its.map f) S1) (hw : wipeS S1 vs = S0)
    (hb : ∀ x p, nb x = some p → ∃ S1 S3, g (f x) S0 = some S1 ∧ e S1 = .ok (fo p) S3 ∧ wipeS S3 vs = S0) (h : capO (mapO nb its) = some ys) : lLc mi g cYes e vs S = .ok (ys.map fo) S0 := by
  refine lc_O (nb := fun x => (nb x).bind fun p => some (some p)) hi hw (fun x p hp => ?_) (by rw [lcO_mapO]; exact h)
  obtain ⟨q, h1, h2⟩ := bind_some hp
  cases h2
  obtain ⟨S1, S3, a1, a2, a3⟩ := hb x q h1
  exact ⟨S1, a1, S1, S3, rfl, a2, a3⟩
theorem lcO_map {F : ι → α} : ∀ (its : List ι), mapO (fun x => some (F x)) its = some (its.map F)
  | [] => rfl
  | x :: xs => by unfold mapO; simp [lcO_map xs]
theorem lc_map {F : ι → α} {mi : Sg → Rs (List Dat)} {S S1 S0 : Sg} {its : List ι} {ys : List α} (hi : mi S = .ok (its.map f) S1) (hw : wipeS S1 vs = S0)
    (hb : ∀ x, ∃ S1 S3, g (f x) S0 = some S1 ∧ e S1 = .ok (fo (F x)) S3 ∧ wipeS S3 vs = S0) (h : capL (its.map F) = some ys) : lLc mi g cYes e vs S = .ok (ys.map fo) S0 :=
  lc_mapO (nb := fun x => some (F x)) hi hw (fun x p hp => by cases hp; exact hb x) (by unfold capO; rw [lcO_map]; exact h)
theorem lcO_filter {F : ι → α} {C : ι → Bool} : ∀ (its : List ι), lcO (fun x => some (if C x = true then some (F x) else none)) its = some ((its.filter C).map F)
  | [] => rfl
  | x :: xs => by
    unfold lcO
    rw [lcO_filter xs]
    cases h : C x <;> simp [h]
theorem lc_filter {F : ι → α} {C : ι → Bool} {mi : Sg → Rs (List Dat)} {S S1 S0 : Sg} {its : List ι} {ys : List α} (hi : mi S = .ok (its.map f) S1) (hw : wipeS S1 vs = S0)
    (hb : ∀ x, ∃ S1 S3, g (f x) S0 = some S1 ∧ c S1 = .ok (C x) S1 ∧ e S1 = .ok (fo (F x)) S3 ∧ wipeS S1 vs = S0 ∧ wipeS S3 vs = S0) (h : capL ((its.filter C).map F) = some ys) : lLc mi g c e vs S = .ok (ys.map fo) S0 :=
  lc_O (nb := fun x => some (if C x = true then some (F x) else none)) hi hw (fun x p hp => by
    cases hp
    obtain ⟨S1, S3, a1, a2, a3, a4, a5⟩ := hb x
    refine ⟨S1, a1, ?_⟩
    cases hC : C x with
    | true => rw [hC] at a2; exact ⟨S1, S3, a2, a3, a5⟩
    | false => rw [hC] at a2; exact ⟨S1, a2, a4⟩) (by unfold capO; rw [lcO_filter]; exact h)
end
theorem x_lc {mi : Sg → Rs (List Dat)} {g : Dat → Sg → Option Sg} {c : MT} {e : ME} {vs : List Nat} {S S1 : Sg} {ds : List Dat} (h : lLc mi g c e vs S = .ok ds S1) : mLc mi g c e vs S = .ok (.lst ds) S1 := by
  have e' : mLc mi g c e vs S = (lLc mi g c e vs S).bind fun acc S2 => .ok (.lst acc) S2 := by
    unfold mLc lLc
    cases mi S <;> rfl
  rw [e', h]; rfl
theorem c_yes {S : Sg} : cYes S = .ok true S := rfl
/-! ### native operations, and what the trees say -/
def ixN? {α : Type} (xs : List α) (i : Int) : Option α := L2.atI xs i
def mulN (a b : Int) : Option Int := if small64 a || small64 b then some (a * b) else none
def modN (a b : Int) : Option Int := if 0 < b then some (a % b) else none
def divN (a b : Int) : Option Int := if 0 < b ∧ b < 1073741824 then some (a / b) else none
def catN {α : Type} (xs ys : List α) : Option (List α) := if xs.length + ys.length ≤ lim then some (xs ++ ys) else none
def repN {α : Type} (xs : List α) (j : Int) : Option (List α) := if -(2 ^ 63) ≤ j ∧ j < 2 ^ 63 ∧ xs.length * j.toNat ≤ lim then some (List.replicate j.toNat xs).flatten else none
def appN {α : Type} (xs : List α) (x : α) : Option (List α) := if xs.length < lim then some (xs ++ [x]) else none
def popN {α : Type} (xs : List α) : Option (List α) := if xs.length = 0 then none else some xs.dropLast
def setN {α : Type} (xs : List α) (n : Int) (x : α) : Option (List α) := (L2.ixN xs.length n).map fun k => xs.set k x
def maxN : List Int → Option Int
  | [] => none
  | n :: r => some (maxI (n :: r))
def minN : List Int → Option Int
  | [] => none
  | n :: r => some (minI (n :: r))
def rangeI (a b : Int) : List Int := (List.range (b - a).toNat).map fun (k : Nat) => a + (k : Int)
def range1N (b : Int) : Option (List Int) := if -(2 ^ 62) ≤ b ∧ b < 2 ^ 62 then some (rangeI 0 b) else none
def range2N (a b : Int) : Option (List Int) := if -(2 ^ 62) ≤ a ∧ a < 2 ^ 62 ∧ -(2 ^ 62) ≤ b ∧ b < 2 ^ 62 then some (rangeI a b) else none
def lrangeN (b : Int) : Option (List Int) := if -(2 ^ 62) ≤ b ∧ b < 1000000 then some (rangeI 0 b) else none
def enumN {α : Type} (n : Nat) : List α → List (Int × α)
  | [] => []
  | x :: xs => ((n : Int), x) :: enumN (n + 1) xs
theorem atI_map {α β : Type} (f : α → β) (xs : List α) (i : Int) : L2.atI (xs.map f) i = (L2.atI xs i).map f := by
  unfold L2.atI
  rw [List.length_map]
  cases L2.ixN xs.length i with
  | none => rfl
  | some k => simp
theorem q_ix {α : Type} {f : α → Dat} {xs : List α} {i : Int} {x : α} (h : ixN? xs i = some x) : ixD (eL f xs) (.int i) = some (f x) := by
  show L2.atI (xs.map f) i = _
  rw [atI_map, show L2.atI xs i = some x from h]; rfl
theorem q_ixT {α : Type} {f : α → Dat} {xs : List α} {i : Int} {x : α} (h : ixN? xs i = some x) : ixD (eT f xs) (.int i) = some (f x) := by
  show L2.atI (xs.map f) i = _
  rw [atI_map, show L2.atI xs i = some x from h]; rfl
theorem q_ixR {α : Type} {f : α → Dat} {xs : List α} {i : Int} {x : α} (h : ixN? xs i = some x) : ixD (eR f xs) (.int i) = some (f x) := by
  show L2.atI (xs.map f) i = _
  rw [atI_map, show L2.atI xs i = some x from h]; rfl
theorem q_mul {a b c : Int} (h : mulN a b = some c) : mulD (.int a) (.int b) = some (.int c) := by
  unfold mulN at h
  show mulI a b = _
  unfold mulI
  split at h
  · rename_i z; cases h; rw [if_pos z]
  · cases h
theorem q_mod {a b c : Int} (h : modN a b = some c) : modD (.int a) (.int b) = some (.int c) := by
  unfold modN at h
  split at h
  · rename_i z; cases h; show (if 0 < b then _ else _) = _; rw [if_pos z]
  · cases h
theorem q_div {a b c : Int} (h : divN a b = some c) : fdivD (.int a) (.int b) = some (.int c) := by
  unfold divN at h
  split at h
  · rename_i z; cases h; show (if 0 < b ∧ b < 1073741824 then _ else _) = _; rw [if_pos z]
  · cases h
theorem q_cat {α : Type} {f : α → Dat} {xs ys zs : List α} (h : catN xs ys = some zs) : addD (eL f xs) (eL f ys) = some (eL f zs) := by
  unfold catN at h
  split at h
  · rename_i z; cases h
    show (if (xs.map f).length + (ys.map f).length ≤ lim then _ else _) = _
    rw [List.length_map, List.length_map, if_pos z, ← List.map_append]
  · cases h
theorem map_flatten_rep {α β : Type} (f : α → β) (xs : List α) (n : Nat) : (List.replicate n (xs.map f)).flatten = ((List.replicate n xs).flatten).map f := by
  induction n with
  | zero => rfl
  | succ n ih => rw [List.replicate_succ, List.replicate_succ, List.flatten_cons, List.flatten_cons, List.map_append, ih]
theorem q_rep {α : Type} {f : α → Dat} {xs zs : List α} {j : Int} (h : repN xs j = some zs) : mulD (eL f xs) (.int j) = some (eL f zs) := by
  unfold repN at h
  split at h
  · rename_i z; cases h
    show (if -(2 ^ 63) ≤ j ∧ j < 2 ^ 63 ∧ (xs.map f).length * j.toNat ≤ lim then _ else _) = _
    rw [List.length_map, if_pos z, map_flatten_rep]
  · cases h
theorem q_max2 {a b : Int} : maxC [.int a, .int b] = some (.int (max a b)) := by
  show some (Dat.int (if b > a then b else a)) = _
  congr 2
  split <;> omega
theorem q_min2 {a b : Int} : minC [.int a, .int b] = some (.int (min a b)) := by
  show some (Dat.int (if b < a then b else a)) = _
  congr 2
  split <;> omega
theorem intsOf_map : ∀ xs : List Int, intsOf (xs.map Dat.int) = some xs
  | [] => rfl
  | x :: xs => by simp [intsOf, intsOf_map xs]
theorem boolsOf_map : ∀ xs : List Bool, boolsOf (xs.map Dat.bl) = some xs
  | [] => rfl
  | x :: xs => by simp [boolsOf, boolsOf_map xs]
theorem strsOf_map : ∀ xs : List Str, strsOf (xs.map Dat.str) = some xs
  | [] => rfl
  | x :: xs => by simp [strsOf, strsOf_map xs]
theorem q_max {xs : List Int} {m : Int} (h : maxN xs = some m) : maxC [eL eI xs] = some (.int m) := by
  cases xs with
  | nil => cases h
  | cons x r => cases h; show (match intsOf ((x :: r).map Dat.int) with | some (n :: r) => some (Dat.int (maxI (n :: r))) | _ => none) = _; rw [intsOf_map]
theorem q_min {xs : List Int} {m : Int} (h : minN xs = some m) : minC [eL eI xs] = some (.int m) := by
  cases xs with
  | nil => cases h
  | cons x r => cases h; show (match intsOf ((x :: r).map Dat.int) with | some (n :: r) => some (Dat.int (minI (n :: r))) | _ => none) = _; rw [intsOf_map]
theorem q_sum {xs : List Int} : sumC [eL eI xs] = some (.int xs.sum) := by
  show (intsOf (xs.map Dat.int)).map _ = _; rw [intsOf_map]; rfl
theorem q_all {xs : List Bool} : allC [eL eB xs] = some (.bl (xs.all id)) := by
  show (boolsOf (xs.map Dat.bl)).map _ = _; rw [boolsOf_map]; rfl
theorem q_any {xs : List Bool} : anyC [eL eB xs] = some (.bl (xs.any id)) := by
  show (boolsOf (xs.map Dat.bl)).map _ = _; rw [boolsOf_map]; rfl
theorem q_len {α : Type} {f : α → Dat} {xs : List α} : lenC [eL f xs] = some (.int xs.length) := by
  show some (Dat.int ((xs.map f).length : Nat)) = _; rw [List.length_map]
theorem q_lenT {α : Type} {f : α → Dat} {xs : List α} : lenC [eT f xs] = some (.int xs.length) := by
  show some (Dat.int ((xs.map f).length : Nat)) = _; rw [List.length_map]
theorem q_lenR {α : Type} {f : α → Dat} {xs : List α} : lenC [eR f xs] = some (.int xs.length) := by
  show some (Dat.int ((xs.map f).length : Nat)) = _; rw [List.length_map]
theorem q_abs {a : Int} : absC [.int a] = some (.int (if a < 0 then -a else a)) := rfl
theorem q_slice {α : Type} {f : α → Dat} {xs : List α} {lo hi : Option Int} : sliceD (eL f xs) lo hi = some (eL f (cutL xs lo hi)) := by
  show some (Dat.lst (cutL (xs.map f) lo hi)) = some (Dat.lst ((cutL xs lo hi).map f))
  unfold cutL
  rw [List.length_map, List.map_take, List.map_drop]
theorem cutL_map {α β : Type} (f : α → β) (xs : List α) (lo hi : Option Int) : cutL (xs.map f) lo hi = (cutL xs lo hi).map f := by
  unfold cutL
  rw [List.length_map, List.map_take, List.map_drop]
theorem q_eqI {a b : Int} : eqD (.int a) (.int b) = some (.bl (decide (a = b))) := rfl
theorem q_neI {a b : Int} : neD (.int a) (.int b) = some (.bl (!decide (a = b))) := rfl
theorem q_eqS {a b : Str} : eqD (.str a) (.str b) = some (.bl (decide (a = b))) := rfl
theorem q_neS {a b : Str} : neD (.str a) (.str b) = some (.bl (!decide (a = b))) := rfl
theorem q_eqB {a b : Bool} : eqD (.bl a) (.bl b) = some (.bl (decide (a = b))) := rfl
theorem q_neB {a b : Bool} : neD (.bl a) (.bl b) = some (.bl (!decide (a = b))) := rfl
theorem q_eq {a b : Dat} {t : Bool} (h : eqB a b = some t) : eqD a b = some (.bl t) := by unfold eqD; rw [h]; rfl
theorem q_ne {a b : Dat} {t : Bool} (h : eqB a b = some t) : neD a b = some (.bl (!t)) := by unfold neD; rw [h]; rfl
theorem q_in {a b : Dat} {t : Bool} (h : inB a b = some t) : inD a b = some (.bl t) := by unfold inD; rw [h]; rfl
theorem q_notIn {a b : Dat} {t : Bool} (h : inB a b = some t) : notInD a b = some (.bl (!t)) := by unfold notInD; rw [h]; rfl
theorem q_isN {α : Type} {f : α → Dat} {o : Option α} (hf : ∀ a, f a ≠ .non) : isND (eO f o) .non = some (.bl o.isNone) := by
  cases o with
  | none => rfl
  | some a =>
    show isND (f a) .non = _
    have := hf a
    unfold isND
    cases h : f a <;> first | rfl | exact absurd h this
theorem q_notN {α : Type} {f : α → Dat} {o : Option α} (hf : ∀ a, f a ≠ .non) : notND (eO f o) .non = some (.bl o.isSome) := by
  cases o with
  | none => rfl
  | some a =>
    show notND (f a) .non = _
    have := hf a
    unfold notND
    cases h : f a <;> first | rfl | exact absurd h this
theorem q_repr {d : Dat} {s : Str} (h : reprS d = some s) : reprC [d] = some (.str s) := by show (reprS d).map Dat.str = _; rw [h]; rfl
theorem q_range1 {b : Int} {xs : List Int} (h : range1N b = some xs) : range1 [.int b] = some (xs.map eI) := by
  unfold range1N at h
  split at h
  · rename_i z; cases h
    show (if -(2 ^ 62) ≤ b ∧ b < 2 ^ 62 then _ else _) = _
    rw [if_pos z]
    unfold rangeI
    rw [List.map_map, show b - 0 = b by omega]
    rfl
  · cases h
theorem q_range2 {a b : Int} {xs : List Int} (h : range2N a b = some xs) : range2 [.int a, .int b] = some (xs.map eI) := by
  unfold range2N at h
  split at h
  · rename_i z; cases h
    show (if -(2 ^ 62) ≤ a ∧ a < 2 ^ 62 ∧ -(2 ^ 62) ≤ b ∧ b < 2 ^ 62 then _ else _) = _
    rw [if_pos z]
    unfold rangeI
    rw [List.map_map]
    rfl
  · cases h
theorem l_range1 {ma : ME} {S S1 : Sg} {b : Int} {xs : List Int} (he : ma S = .ok (.int b) S1) (h : lrangeN b = some xs) : lRg1 ma S = .ok (xs.map eI) S1 := by
  unfold lrangeN at h
  split at h
  · rename_i z; cases h
    unfold lRg1
    rw [he, Rs.bind_ok]
    simp only [z]
    rw [if_pos ⟨trivial, trivial⟩]
    unfold rgD rangeI
    rw [List.map_map]
    rfl
  · cases h
theorem enumFrom_map {α : Type} {f : α → Dat} : ∀ (n : Nat) (xs : List α), enumFrom n (xs.map f) = (enumN n xs).map (e2 eI f)
  | _, [] => rfl
  | n, x :: xs => by simp [enumFrom, enumN, enumFrom_map (n + 1) xs]
theorem q_enum {α : Type} {f : α → Dat} {xs : List α} : enumD [eL f xs] = some ((enumN 0 xs).map (e2 eI f)) := by
  show some (enumFrom 0 (xs.map f)) = _; rw [enumFrom_map]
theorem q_zip {α β : Type} {f : α → Dat} {h : β → Dat} {xs : List α} {ys : List β} : zipD [eL f xs, eL h ys] = some ((xs.zip ys).map (e2 f h)) := by
  show some (List.zipWith _ (xs.map f) (ys.map h)) = _
  congr 1
  induction xs generalizing ys with
  | nil => rfl
  | cons x xs ih =>
    cases ys with
    | nil => rfl
    | cons y ys => simp [ih]
theorem q_app {α : Type} {f : α → Dat} {xs ys : List α} {x : α} (h : appN xs x = some ys) : (xs.map f).length < lim ∧ xs.map f ++ [f x] = ys.map f := by
  unfold appN at h
  split at h
  · rename_i z; cases h; exact ⟨by rw [List.length_map]; exact z, by simp⟩
  · cases h
theorem q_pop {α : Type} {f : α → Dat} {xs ys : List α} (h : popN xs = some ys) : (xs.map f).length ≠ 0 ∧ (xs.map f).dropLast = ys.map f := by
  unfold popN at h
  split at h
  · cases h
  · rename_i z; cases h; exact ⟨by rw [List.length_map]; exact z, by rw [List.map_dropLast]⟩
theorem q_set {α : Type} {f : α → Dat} {xs ys : List α} {n : Int} {x : α} (h : setN xs n x = some ys) : ∃ k, ixN (xs.map f).length n = some k ∧ (xs.map f).set k (f x) = ys.map f := by
  unfold setN at h
  cases e : L2.ixN xs.length n with
  | none => rw [e] at h; cases h
  | some k =>
    rw [e] at h
    cases h
    exact ⟨k, by rw [List.length_map]; exact e, by rw [List.map_set]⟩
/-- the end of a def -/
theorem f_end {np n : Nat} {m : MS} {as : List FA} {r : RF} (hl : as.length = np) (h : endF (nOwn as) (m (mkSlots 0 as ++ List.replicate (n - np) .no)) = r) : runDef np n m as = r := by
  unfold runDef; rw [if_pos hl]; exact h
theorem mul_l {a b : Int} (h : small64 a = true) : mulN a b = some (a * b) := by unfold mulN; rw [h]; rfl
theorem mul_r {a b : Int} (h : small64 b = true) : mulN a b = some (a * b) := by unfold mulN; rw [h, Bool.or_true]; rfl
theorem mod_of {a b : Int} (h : 0 < b) : modN a b = some (a % b) := if_pos h
theorem div_of {a b : Int} (h : 0 < b) (h2 : b < 1073741824) : divN a b = some (a / b) := if_pos ⟨h, h2⟩
theorem q_pow {a : Int} {j : Int} {n : Nat} (hn : j = (n : Int)) (h1 : n ≤ 1000000) (h2 : a.natAbs < 2 ^ 64) : powD (.int a) (.int j) = some (.int (a ^ n)) := by
  subst hn
  show (if 0 ≤ (n : Int) ∧ (n : Int) ≤ 1000000 ∧ a.natAbs < 2 ^ 64 then some (Dat.int (a ^ (n : Int).toNat)) else none) = _
  rw [if_pos ⟨by omega, by omega, h2⟩]
  rfl
section
variable {S S1 S2 S3 : Sg} {d : Dat} {ma : ME} {i : Nat} {P : Rs Fl → Prop} {m m' rest : MS}
theorem s_ifT {ct : MT} {t : Bool} (hc : ct S = .ok t S1) (ht : t = true) (k : P (mSeq m rest S1)) : P (mSeq (mIfS ct m m') rest S) := s_if hc (fun _ => k) (fun z => by rw [ht] at z; cases z)
theorem s_ifF {ct : MT} {t : Bool} (hc : ct S = .ok t S1) (ht : t = false) (k : P (mSeq m' rest S1)) : P (mSeq (mIfS ct m m') rest S) := s_if hc (fun z => by rw [ht] at z; cases z) (fun _ => k)
theorem s_appL' {ds ds' : List Dat} (hm : isMut i S = true) (he : ma S = .ok d S1) (h : S1[i]? = some (.loc ds)) (hq : ds.length < lim ∧ ds ++ [d] = ds') (hS : S1.set i (.loc ds') = S2) (k : P (rest S2)) : P (mSeq (mApp i ma) rest S) := s_appL hm he h hq.1 (by rw [hq.2]; exact hS) k
theorem s_appO' {ds ds' : List Dat} {n : Nat} (hm : isMut i S = true) (he : ma S = .ok d S1) (h : S1[i]? = some (.own n (.lst ds))) (hq : ds.length < lim ∧ ds ++ [d] = ds') (hS : S1.set i (.own n (.lst ds')) = S2) (k : P (rest S2)) : P (mSeq (mApp i ma) rest S) := s_appO hm he h hq.1 (by rw [hq.2]; exact hS) k
theorem s_popL' {ds ds' : List Dat} (h : S[i]? = some (.loc ds)) (hq : ds.length ≠ 0 ∧ ds.dropLast = ds') (hS : S.set i (.loc ds') = S2) (k : P (rest S2)) : P (mSeq (mPop i) rest S) := s_popL h hq.1 (by rw [hq.2]; exact hS) k
theorem s_ixL' {ds ds' : List Dat} {n : Int} {mi : ME} (he : ma S = .ok d S1) (hm : isMut i S1 = true) (hi : mi S1 = .ok (.int n) S2) (h : S2[i]? = some (.loc ds)) (hq : ∃ k, ixN ds.length n = some k ∧ ds.set k d = ds') (hS : S2.set i (.loc ds') = S3) (k : P (rest S3)) : P (mSeq (mAsg ma (gIx i mi)) rest S) := by
  obtain ⟨k', h1, h2⟩ := hq
  exact s_ixL he hm hi h h1 (by rw [h2]; exact hS) k
end
/-! ### ends -/
def Ends (k : Nat) (q : RF) (x : Rs Fl) : Prop := endF k x = q
def RTo {ρ : Type} (k : Nat) (res : ρ → RF) (v : ρ) (x : Rs Fl) : Prop := (∃ d S, x = .ok (.rt d) S) ∧ Ends k (res v) x
theorem rto {ρ : Type} {k : Nat} {res : ρ → RF} : ∀ v x, RTo k res v x → ∃ d S, x = .ok (.rt d) S := fun _ _ h => h.1
theorem rto_of {ρ : Type} {k : Nat} {res : ρ → RF} {v : ρ} {d : Dat} {S : Sg} (h : Ends k (res v) (.ok (.rt d) S)) : RTo k res v (.ok (.rt d) S) := ⟨⟨_, _, rfl⟩, h⟩
theorem f_run {np n : Nat} {m : MS} {as : List FA} {r : RF} {k : Nat} {S : Sg} (hl : as.length = np) (hk : nOwn as = k) (hS : mkSlots 0 as ++ List.replicate (n - np) .no = S) (h : Ends k r (m S)) : runDef np n m as = r := by
  unfold runDef; rw [if_pos hl, hk, hS]; exact h
def thenL {ρ σ τ : Type} (inj : ρ → τ) (o : Option (Stp ρ σ)) (k : σ → Option τ) : Option τ := o.bind fun st => match st with
  | .nx s => k s
  | .bk _ => none
  | .rt v => some (inj v)
theorem thenL_some {ρ σ τ : Type} {inj : ρ → τ} {o : Option (Stp ρ σ)} {k : σ → Option τ} {a : τ} (h : thenL inj o k = some a) : (∃ s, o = some (.nx s) ∧ k s = some a) ∨ (∃ v, o = some (.rt v) ∧ inj v = a) := by
  obtain ⟨st, h1, h2⟩ := bind_some h
  cases st with
  | nx s => exact .inl ⟨s, h1, h2⟩
  | bk s => cases h2
  | rt v => exact .inr ⟨v, h1, Option.some.inj h2⟩
/-! ### the draws -/
structure Rg where
  a : Int
  b : Int
  a0 : 0 ≤ a
  b0 : 0 ≤ b
  b1 : b < 2147483648
def Rg.ds (s : Rg) : List Dat := [.int s.a, .int s.b]
def Rg.own (s : Rg) : Own := .lst s.ds
def Rg.nb (s : Rg) : Int := (s.b * 48311 + 20011) % 2147483563
def Rg.val (s : Rg) (n : Int) : Int := if 0 < s.a then s.a % n else s.nb * s.nb % 2147483497 / 17 % n
def Rg.next (s : Rg) (n : Int) : Rg := if z : 0 < s.a ∧ 0 < n then ⟨s.a / n, s.b, Int.ediv_nonneg s.a0 (Int.le_of_lt z.2), s.b0, s.b1⟩ else ⟨s.a, s.nb, s.a0, Int.emod_nonneg _ (by decide), Int.lt_trans (Int.emod_lt_of_pos _ (by decide)) (by decide)⟩
theorem Rg.val0 (s : Rg) {n : Int} (h : 0 < n) : 0 ≤ s.val n := by
  unfold Rg.val
  split
  · exact Int.emod_nonneg _ (by omega)
  · exact Int.emod_nonneg _ (by omega)
theorem Rg.val1 (s : Rg) {n : Int} (h : 0 < n) : s.val n < n := by
  unfold Rg.val
  split
  · exact Int.emod_lt_of_pos _ h
  · exact Int.emod_lt_of_pos _ h
theorem small_of {i : Int} (h0 : 0 ≤ i) (h1 : i < 2147483648) : small64 i = true := by
  unfold small64
  simp only [Bool.and_eq_true, decide_eq_true_eq]
  omega
theorem nb_small (s : Rg) : small64 s.nb = true := small_of (Int.emod_nonneg _ (by decide)) (Int.lt_trans (Int.emod_lt_of_pos _ (by decide)) (by decide))
def drawN (s : Rg) (n : Int) : Option (Int × Rg) := if 0 < n ∧ n < 1073741824 then some (s.val n, s.next n) else none
/-- a draw -/
theorem drawN_of (s : Rg) {n : Int} (h : 0 < n) (h2 : n < 1073741824) : ∃ v s', drawN s n = some (v, s') ∧ 0 ≤ v ∧ v < n := ⟨_, _, if_pos ⟨h, h2⟩, s.val0 h, s.val1 h⟩
/-- a cell's source -/
def rngN (ns : List Int) (k : Nat) : Rg :=
  let c : Int := ns.getD k (7 * (k : Int) + 3)
  ⟨max 0 ((c.natAbs : Int) - 1000000000000000000), ((c.natAbs : Int) % 2147483549 + 1) * (2 * (k : Int) + 5) ^ 3 % 2147483543 + 1, by omega, by
    have := Int.emod_nonneg (((c.natAbs : Int) % 2147483549 + 1) * (2 * (k : Int) + 5) ^ 3) (show (2147483543 : Int) ≠ 0 by decide)
    omega, by
    have := Int.emod_lt_of_pos (((c.natAbs : Int) % 2147483549 + 1) * (2 * (k : Int) + 5) ^ 3) (show (0 : Int) < 2147483543 by decide)
    omega⟩
section
variable {S S1 S2 : Sg} {a b d : Dat} {ma mb : ME} {i : Nat} {P : Rs Fl → Prop} {rest : MS} {r : Rs Bool} {rd : Rs Dat}
theorem t_andF {ca cb : MT} (ha : ca S = .ok false S1) : cAnd ca cb S = .ok false S1 := by unfold cAnd; rw [ha]; rfl
theorem t_orT {ca cb : MT} (ha : ca S = .ok true S1) : cOr ca cb S = .ok true S1 := by unfold cOr; rw [ha]; rfl
theorem t_andT {ca cb : MT} (ha : ca S = .ok true S1) (hb : cb S1 = r) : cAnd ca cb S = r := by unfold cAnd; rw [ha, Rs.bind_ok, if_pos rfl, hb]
theorem t_orF {ca cb : MT} (ha : ca S = .ok false S1) (hb : cb S1 = r) : cOr ca cb S = r := by unfold cOr; rw [ha, Rs.bind_ok, if_neg (by simp), hb]
theorem x_andF (ha : ma S = .ok (.bl false) S1) : mAnd ma mb S = .ok (.bl false) S1 := by unfold mAnd; rw [ha]; rfl
theorem x_orT (ha : ma S = .ok (.bl true) S1) : mOr ma mb S = .ok (.bl true) S1 := by unfold mOr; rw [ha]; rfl
theorem x_andT (ha : ma S = .ok (.bl true) S1) (hb : mb S1 = rd) : mAnd ma mb S = rd := by unfold mAnd; rw [ha, Rs.bind_ok]; exact hb
theorem x_orF (ha : ma S = .ok (.bl false) S1) (hb : mb S1 = rd) : mOr ma mb S = rd := by unfold mOr; rw [ha, Rs.bind_ok]; exact hb
theorem x_ifT {ct : MT} (hc : ct S = .ok true S1) (h : ma S1 = rd) : mIf ct ma mb S = rd := by unfold mIf; rw [hc, Rs.bind_ok, if_pos rfl, h]
theorem x_ifF {ct : MT} (hc : ct S = .ok false S1) (h : mb S1 = rd) : mIf ct ma mb S = rd := by unfold mIf; rw [hc, Rs.bind_ok, if_neg (by simp), h]
theorem s_stF' {cs : List Str} {nm cn : Str} {k' : Nat} {gs gs' : List (Str × Dat)} (he : ma S = .ok d S1) (h : S1[i]? = some (.own k' (.obj cn gs))) (hc : cs.contains cn = true ∧ gs.length < 1000) (hp : putD nm d gs = gs') (hS : S1.set i (.own k' (.obj cn gs')) = S2) (k : P (rest S2)) : P (mSeq (mStF cs i nm ma) rest S) := s_stF he h hc (by rw [hp]; exact hS) k
theorem g_fld' {cs : List Str} {nm cn : Str} {k' : Nat} {gs gs' : List (Str × Dat)} (h : S[i]? = some (.own k' (.obj cn gs))) (hc : cs.contains cn = true ∧ gs.length < 1000) (hp : putD nm d gs = gs') (hS : S.set i (.own k' (.obj cn gs')) = S1) : gFld cs i nm d S = .ok () S1 := g_fld h hc (by rw [hp]; exact hS)
theorem ma_eq2 {mr : MA} {a' b' : Dat} (h : mr S = .ok [a, b] S1) (e1 : a = a') (e2 : b = b') : mr S = .ok [a', b'] S1 := by rw [h, e1, e2]
theorem s_rto {ρ : Type} {k : Nat} {res : ρ → RF} {v : ρ} {m : MS} (h : RTo k res v (m S)) (hp : P (m S)) : P (mSeq m rest S) := by
  obtain ⟨d, S2, e⟩ := h.1
  exact s_out (r := m S) rfl (fun S3 z => by rw [e] at z; cases z) hp
end
/-! texts -/
def fcat : Str → List Str → Option Str
  | acc, [] => some acc
  | acc, y :: ys => if (acc ++ y).length ≤ sizeLine then fcat (acc ++ y) ys else none
theorem j_nilN {S : Sg} {acc z : Str} (h : fcat acc [] = some z) : joinM [] acc S = .ok z S := by cases h; rfl
theorem j_consN {S S1 S2 : Sg} {ma : ME} {ms : List ME} {acc y z : Str} {ys : List Str} (ha : ma S = .ok (.str y) S1) (h : fcat acc (y :: ys) = some z) (hr : fcat (acc ++ y) ys = some z → joinM ms (acc ++ y) S1 = .ok z S2) : joinM (ma :: ms) acc S = .ok z S2 := by
  unfold fcat at h
  split at h
  · rename_i w; exact j_cons ha w (hr h)
  · cases h
theorem q_fmt {d : Dat} {s : Str} (h : fmtS d = some s) : fmtC d = some (.str s) := by unfold fmtC; rw [h]; rfl
theorem q_fmtR {d : Dat} {s : Str} (h : reprS d = some s) : fmtR d = some (.str s) := by unfold fmtR; rw [h]; rfl
def joinN (a : Str) (ys : List Str) : Option Str := if (ys.map (·.length)).sum + ys.length * a.length ≤ 16777216 then some (Txt.join a ys) else none
theorem q_join {a : Str} {ys : List Str} {z : Str} (h : joinN a ys = some z) : joinD (.str a) (eL eS ys) = some (.str z) := by
  unfold joinN at h
  unfold joinD eL
  have e := strsOf_map ys
  simp only [show ys.map eS = ys.map Dat.str from rfl, e]
  split at h
  · rename_i w; cases h; rw [if_pos w]
  · cases h
def strN (i : Int) : Option Str := if showI i then some (toString i) else none
theorem q_str {i : Int} {s : Str} (h : strN i = some s) : strC [.int i] = some (.str s) := by
  unfold strN at h
  show (if showI i then _ else _) = _
  split at h
  · rename_i w; cases h; rw [if_pos w]
  · cases h
def scatN (x y : Str) : Option Str := if x.length + y.length ≤ lim then some (x ++ y) else none
theorem q_scat {x y z : Str} (h : scatN x y = some z) : addD (.str x) (.str y) = some (.str z) := by
  unfold scatN at h
  show (if x.length + y.length ≤ lim then _ else _) = _
  split at h
  · rename_i w; cases h; rw [if_pos w]
  · cases h
def isiB (tab : List (String × Bool)) (ct : List (Str × Bool)) (d : Dat) : Option Bool := match isiT tab ct d with
  | some (.bl b) => some b
  | _ => none
theorem q_isiB {tab : List (String × Bool)} {ct : List (Str × Bool)} {d : Dat} {t : Bool} (h : isiB tab ct d = some t) : isiT tab ct d = some (.bl t) := by
  unfold isiB at h
  split at h
  · rename_i b e; cases h; exact e
  · cases h
def isNB (d : Dat) : Option Bool := match d with
  | .non => some true
  | _ => some false
theorem q_isNB {d : Dat} {t : Bool} (h : isNB d = some t) : isND d .non = some (.bl t) := by cases d <;> cases h <;> rfl
theorem q_notNB {d : Dat} {t : Bool} (h : isNB d = some t) : notND d .non = some (.bl (!t)) := by cases d <;> cases h <;> rfl
theorem lb_nx {ρ σ : Type} {T : σ → (Nat → Slot) → Sg} {RT : ρ → Rs Fl → Prop} {s : σ} {S : Sg} (h : T s (fun i => S.getD i .no) = S) : LB T RT (.nx s) (.ok .nx S) := ln_nx h
theorem lb_ct {ρ σ : Type} {T : σ → (Nat → Slot) → Sg} {RT : ρ → Rs Fl → Prop} {s : σ} {S : Sg} (h : T s (fun i => S.getD i .no) = S) : LB T RT (.nx s) (.ok .ct S) := ln_ct h
theorem le_nx {ρ σ : Type} {T : σ → (Nat → Slot) → Sg} {RT : ρ → Rs Fl → Prop} {s : σ} {r : Rs Fl} (h : LE T RT (.nx s) r) : ∃ j, r = .ok .nx (T s j) := h
theorem le_rt {ρ σ : Type} {T : σ → (Nat → Slot) → Sg} {RT : ρ → Rs Fl → Prop} {v : ρ} {r : Rs Fl} (h : LE T RT (.rt v) r) : RT v r := h
theorem q_powL {a j r : Int} {n : Nat} (hn : j = (n : Int)) (h1 : n ≤ 1000000) (h2 : a.natAbs < 2 ^ 64) (hr : a ^ n = r) : powD (.int a) (.int j) = some (.int r) := by rw [← hr]; exact q_pow hn h1 h2
end Mir

/-! MirV: the plain side: native operations at known values -/
namespace Mir
open PySem
/-- no proof by rfl: the kernel does not look into what is bound -/
theorem bnd {α β : Type} (x : α) (f : α → Option β) : (some x).bind f = f x := id (Option.bind_some x f)
section
variable {α β ι σ ρ : Type}
theorem ix_nat {xs : List α} {j : Nat} {v : α} (h : xs[j]? = some v) : ixN? xs (j : Int) = some v := L2.atI_nat h
theorem ix_of {xs : List α} {i : Int} (d : α) (h0 : 0 ≤ i) (h1 : i < xs.length) : ixN? xs i = some (xs.getD i.toNat d) := by
  obtain ⟨j, rfl⟩ : ∃ j : Nat, i = (j : Int) := ⟨i.toNat, by omega⟩
  have hj : j < xs.length := by omega
  refine ix_nat ?_
  rw [Int.toNat_natCast, List.getD_eq_getElem?_getD, List.getElem?_eq_getElem hj]
  rfl
theorem ix_getD {xs : List α} {j : Nat} (d : α) (h : j < xs.length) : ixN? xs (j : Int) = some (xs.getD j d) := by
  have := ix_of (i := (j : Int)) d (by omega) (by omega : (j : Int) < xs.length)
  rwa [Int.toNat_natCast] at this
theorem ix_neg {xs : List α} {k : Nat} (d : α) (h0 : 0 < k) (h : k ≤ xs.length) : ixN? xs (-(k : Int)) = some (xs.getD (xs.length - k) d) := by
  unfold ixN? L2.atI L2.ixN
  rw [if_neg (by omega), if_pos (by omega)]
  have hj : xs.length - k < xs.length := by omega
  rw [show (-(k : Int) + (xs.length : Int)).toNat = xs.length - k by omega, List.getD_eq_getElem?_getD, List.getElem?_eq_getElem hj]
  show xs[xs.length - k]? = _
  rw [List.getElem?_eq_getElem hj]
  rfl
theorem ix_last {xs : List α} (d : α) (h : 0 < xs.length) : ixN? xs (-1) = some (xs.getD (xs.length - 1) d) := ix_neg (k := 1) d (by omega) h
theorem ix_mem {xs : List α} {i : Int} (h0 : 0 ≤ i) (h1 : i < xs.length) : ∃ v, v ∈ xs ∧ ixN? xs i = some v := by
  obtain ⟨j, rfl⟩ : ∃ j : Nat, i = (j : Int) := ⟨i.toNat, by omega⟩
  have hj : j < xs.length := by omega
  exact ⟨xs[j], List.getElem_mem hj, ix_nat (List.getElem?_eq_getElem hj)⟩
theorem cap_of {xs : List α} (h : xs.length ≤ 1000000) : capL xs = some xs := if_pos h
theorem cat_of {xs ys : List α} (h : xs.length + ys.length ≤ 1000000) : catN xs ys = some (xs ++ ys) := if_pos h
theorem app_of {xs : List α} {x : α} (h : xs.length < 1000000) : appN xs x = some (xs ++ [x]) := if_pos h
theorem pop_of {xs : List α} (h : xs ≠ []) : popN xs = some xs.dropLast := if_neg (by intro z; exact h (List.length_eq_zero_iff.mp z))
theorem rep_of {xs : List α} {j : Int} (h0 : 0 ≤ j) (h1 : xs.length * j.toNat ≤ 1000000) (h2 : j < 1000000000) : repN xs j = some (List.replicate j.toNat xs).flatten := if_pos ⟨by omega, by omega, h1⟩
theorem mul_of {a b : Int} (h0 : -9000000000000000000 ≤ a) (h1 : a ≤ 9000000000000000000) : mulN a b = some (a * b) := mul_l (by
  unfold small64
  simp only [Bool.and_eq_true, decide_eq_true_eq]
  omega)
theorem mul_of' {a b : Int} (h0 : -9000000000000000000 ≤ b) (h1 : b ≤ 9000000000000000000) : mulN a b = some (a * b) := mul_r (by
  unfold small64
  simp only [Bool.and_eq_true, decide_eq_true_eq]
  omega)
theorem r1_of {b : Int} (h0 : -4000000000000000000 ≤ b) (h1 : b ≤ 4000000000000000000) : range1N b = some (rangeI 0 b) := if_pos ⟨by omega, by omega⟩
theorem r2_of {a b : Int} (h0 : -4000000000000000000 ≤ a) (h1 : a ≤ 4000000000000000000) (h2 : -4000000000000000000 ≤ b) (h3 : b ≤ 4000000000000000000) : range2N a b = some (rangeI a b) := if_pos ⟨by omega, by omega, by omega, by omega⟩
theorem lr_of {b : Int} (h0 : -4000000000000000000 ≤ b) (h1 : b < 1000000) : lrangeN b = some (rangeI 0 b) := if_pos ⟨by omega, h1⟩
theorem rangeI_len (a b : Int) : (rangeI a b).length = (b - a).toNat := by unfold rangeI; simp
theorem mem_rangeI {a b x : Int} : x ∈ rangeI a b ↔ a ≤ x ∧ x < b := by
  unfold rangeI
  simp only [List.mem_map, List.mem_range]
  constructor
  · rintro ⟨k, hk, rfl⟩; omega
  · rintro ⟨h1, h2⟩; exact ⟨(x - a).toNat, by omega, by omega⟩
/-- the numbers of a range, as naturals -/
theorem rangeI_nat (a b : Nat) : rangeI (a : Int) (b : Int) = (List.range' a (b - a)).map fun (k : Nat) => (k : Int) := by
  unfold rangeI
  rw [show ((b : Int) - (a : Int)).toNat = b - a by omega, List.range'_eq_map_range, List.map_map]
  refine List.map_congr_left fun k _ => ?_
  show (a : Int) + (k : Int) = ((a + k : Nat) : Int)
  omega
theorem rangeI_nat0 (b : Nat) : rangeI 0 (b : Int) = (List.range b).map fun (k : Nat) => (k : Int) := by
  unfold rangeI
  rw [show ((b : Int) - 0).toNat = b by omega]
  refine List.map_congr_left fun k _ => ?_
  omega
theorem rangeI_get {a b x : Int} {k : Nat} (h : (rangeI a b)[k]? = some x) : x = a + k ∧ a + k < b := by
  unfold rangeI at h
  rw [List.getElem?_map] at h
  cases e : (List.range (b - a).toNat)[k]? with
  | none => rw [e] at h; cases h
  | some j =>
    rw [e] at h
    cases h
    obtain ⟨h1, h2⟩ := List.getElem?_eq_some_iff.mp e
    simp at h1 h2
    subst h2
    exact ⟨rfl, by omega⟩
/-! loops -/
theorem foldO_cons (b : ι → σ → Option σ) (x : ι) (xs : List ι) (s : σ) : foldO b (x :: xs) s = (b x s).bind fun s' => foldO b xs s' := rfl
theorem foldO_append (b : ι → σ → Option σ) : ∀ (xs ys : List ι) (s : σ), foldO b (xs ++ ys) s = (foldO b xs s).bind fun s' => foldO b ys s'
  | [], ys, s => rfl
  | x :: xs, ys, s => by
    rw [List.cons_append, foldO_cons, foldO_cons]
    cases b x s with
    | none => rfl
    | some s' => exact foldO_append b xs ys s'
/-- by an invariant of what was gone through -/
theorem foldO_inv {b : ι → σ → Option σ} (I : List ι → σ → Prop) : ∀ (its : List ι) (done : List ι) (s : σ), I done s → (∀ x pre s, x ∈ its → I pre s → ∃ s', b x s = some s' ∧ I (pre ++ [x]) s') → ∃ s', foldO b its s = some s' ∧ I (done ++ its) s'
  | [], done, s, h, _ => ⟨s, rfl, by rw [List.append_nil]; exact h⟩
  | x :: xs, done, s, h, st => by
    obtain ⟨s1, e1, h1⟩ := st x done s (List.mem_cons_self ..) h
    obtain ⟨s2, e2, h2⟩ := foldO_inv I xs (done ++ [x]) s1 h1 fun y pre s hy hp => st y pre s (List.mem_cons_of_mem _ hy) hp
    refine ⟨s2, by rw [foldO_cons, e1]; exact e2, ?_⟩
    rw [List.append_assoc] at h2
    exact h2
/-- by an invariant that knows no items -/
theorem foldO_inv0 {b : ι → σ → Option σ} (I : σ → Prop) (its : List ι) (s : σ) (h : I s) (st : ∀ x s, x ∈ its → I s → ∃ s', b x s = some s' ∧ I s') : ∃ s', foldO b its s = some s' ∧ I s' :=
  foldO_inv (fun _ => I) its [] s h fun x pre s hx hp => st x s hx hp
/-- by a count of rounds -/
theorem foldO_invN {b : ι → σ → Option σ} (I : Nat → σ → Prop) (its : List ι) (s : σ) (h : I 0 s) (st : ∀ k x s, its[k]? = some x → I k s → ∃ s', b x s = some s' ∧ I (k + 1) s') : ∃ s', foldO b its s = some s' ∧ I its.length s' := by
  have key : ∀ (n k : Nat) (s : σ), n = its.length - k → k ≤ its.length → I k s → ∃ s', foldO b (its.drop k) s = some s' ∧ I its.length s' := by
    intro n
    induction n with
    | zero =>
      intro k s hn hk hI
      have : k = its.length := by omega
      subst this
      exact ⟨s, by rw [List.drop_length]; rfl, hI⟩
    | succ n ih =>
      intro k s hn hk hI
      have hk2 : k < its.length := by omega
      obtain ⟨s1, e1, h1⟩ := st k its[k] s (List.getElem?_eq_getElem hk2) hI
      obtain ⟨s2, e2, h2⟩ := ih (k + 1) s1 (by omega) (by omega) h1
      refine ⟨s2, ?_, h2⟩
      rw [List.drop_eq_getElem_cons hk2, foldO_cons, e1]
      exact e2
  have := key its.length 0 s (by omega) (by omega) h
  rwa [List.drop_zero] at this
/-- a search -/
theorem forL_find {b : ι → Unit → Option (Stp ρ Unit)} {c : ι → Option ρ} : ∀ (its : List ι), (∀ x, x ∈ its → b x () = some (match c x with | none => .nx () | some r => .rt r)) → forL b its () = some (match its.findSome? c with | none => .nx () | some r => .rt r)
  | [], _ => rfl
  | x :: xs, h => by
    unfold forL
    rw [h x (List.mem_cons_self ..)]
    cases hc : c x with
    | none =>
      simp only [Option.bind_some, List.findSome?_cons, hc]
      exact forL_find xs fun y hy => h y (List.mem_cons_of_mem _ hy)
    | some r => simp only [Option.bind_some, List.findSome?_cons, hc]
theorem forL_nx {b : ι → Unit → Option (Stp ρ Unit)} (its : List ι) (h : ∀ x, x ∈ its → b x () = some (.nx ())) : forL b its () = some (.nx ()) := by
  have := forL_find (b := b) (c := fun _ => none) its fun x hx => h x hx
  rw [this]
  have e : its.findSome? (fun _ : ι => (none : Option ρ)) = none := by simp
  rw [e]
theorem thenL_find {τ : Type} {inj : ρ → τ} {k : Unit → Option τ} (o : Option ρ) : thenL inj (some (match o with | none => Stp.nx () | some r => Stp.rt r)) k = match o with | none => k () | some r => some (inj r) := by
  cases o <;> rfl
theorem thenL_nx {τ : Type} {inj : ρ → τ} {s : σ} {k : σ → Option τ} : thenL inj (some (Stp.nx s)) k = k s := rfl
/-- loops that go through, by an invariant -/
theorem forL_inv {b : ι → σ → Option (Stp ρ σ)} (I : σ → Prop) : ∀ (its : List ι) (s : σ), I s → (∀ x s, x ∈ its → I s → ∃ s', b x s = some (.nx s') ∧ I s') → ∃ s', forL b its s = some (.nx s') ∧ I s'
  | [], s, h, _ => ⟨s, rfl, h⟩
  | x :: xs, s, h, st => by
    obtain ⟨s1, e1, h1⟩ := st x s (List.mem_cons_self ..) h
    obtain ⟨s2, e2, h2⟩ := forL_inv I xs s1 h1 fun y s hy hp => st y s (List.mem_cons_of_mem _ hy) hp
    exact ⟨s2, by unfold forL; rw [e1]; exact e2, h2⟩
/-! comprehensions -/
theorem mapO_of {nb : ι → Option α} {F : ι → α} : ∀ (its : List ι), (∀ x, x ∈ its → nb x = some (F x)) → mapO nb its = some (its.map F)
  | [], _ => rfl
  | x :: xs, h => by
    unfold mapO
    rw [h x (List.mem_cons_self ..), mapO_of xs fun y hy => h y (List.mem_cons_of_mem _ hy)]
    rfl
theorem capO_of {nb : ι → Option α} {F : ι → α} (its : List ι) (hl : its.length ≤ 1000000) (h : ∀ x, x ∈ its → nb x = some (F x)) : capO (mapO nb its) = some (its.map F) := by
  rw [mapO_of its h]
  show capL (its.map F) = _
  exact cap_of (by rw [List.length_map]; exact hl)
theorem lcO_of {nb : ι → Option (Option α)} {F : ι → Option α} : ∀ (its : List ι), (∀ x, x ∈ its → nb x = some (F x)) → lcO nb its = some (its.filterMap F)
  | [], _ => rfl
  | x :: xs, h => by
    unfold lcO
    rw [h x (List.mem_cons_self ..), lcO_of xs fun y hy => h y (List.mem_cons_of_mem _ hy)]
    cases hF : F x <;> simp [hF]
theorem capOF_of {nb : ι → Option (Option α)} {F : ι → Option α} (its : List ι) (hl : its.length ≤ 1000000) (h : ∀ x, x ∈ its → nb x = some (F x)) : capO (lcO nb its) = some (its.filterMap F) := by
  rw [lcO_of its h]
  show capL (its.filterMap F) = _
  exact cap_of (Nat.le_trans (List.length_filterMap_le ..) hl)
/-- drawn items -/
theorem mapS_inv {nb : ι → σ → Option (α × σ)} (Q : α → Prop) : ∀ (its : List ι) (s : σ), (∀ x s, x ∈ its → ∃ y s', nb x s = some (y, s') ∧ Q y) → ∃ ys s', mapS nb its s = some (ys, s') ∧ ys.length = its.length ∧ ∀ y, y ∈ ys → Q y
  | [], s, _ => ⟨[], s, rfl, rfl, by simp⟩
  | x :: xs, s, h => by
    obtain ⟨y, s1, e1, q1⟩ := h x s (List.mem_cons_self ..)
    obtain ⟨ys, s2, e2, l2, q2⟩ := mapS_inv Q xs s1 fun z s hz => h z s (List.mem_cons_of_mem _ hz)
    refine ⟨y :: ys, s2, ?_, by simp [l2], ?_⟩
    · unfold mapS; rw [e1]; simp only [Option.bind_some]; rw [e2]; rfl
    · intro z hz
      rcases List.mem_cons.mp hz with rfl | hz
      · exact q1
      · exact q2 z hz
theorem capS_inv {nb : ι → σ → Option (α × σ)} (Q : α → Prop) (its : List ι) (s : σ) (hl : its.length ≤ 1000000) (h : ∀ x s, x ∈ its → ∃ y s', nb x s = some (y, s') ∧ Q y) : ∃ ys s', capS (mapS nb its s) = some (ys, s') ∧ ys.length = its.length ∧ ∀ y, y ∈ ys → Q y := by
  obtain ⟨ys, s', e, l, q⟩ := mapS_inv Q its s h
  refine ⟨ys, s', ?_, l, q⟩
  rw [e]
  show (if ys.length ≤ lim then some (ys, s') else none) = _
  rw [if_pos (by unfold lim; omega)]
end
/-! greatest and least -/
theorem maxI_ge : ∀ (xs : List Int) (x : Int), x ∈ xs → x ≤ maxI xs
  | [], _, h => by cases h
  | [y], x, h => by simp at h; subst h; exact Int.le_refl _
  | y :: z :: r, x, h => by
    show x ≤ max y (maxI (z :: r))
    rcases List.mem_cons.mp h with rfl | h
    · omega
    · have := maxI_ge (z :: r) x h; omega
theorem mxI_mem : ∀ (xs : List Int), xs ≠ [] → maxI xs ∈ xs
  | [], h => absurd rfl h
  | [y], _ => by show y ∈ [y]; simp
  | y :: z :: r, _ => by
    show max y (maxI (z :: r)) ∈ _
    have := mxI_mem (z :: r) (by simp)
    rcases Int.le_total y (maxI (z :: r)) with h | h
    · rw [Int.max_eq_right h]; exact List.mem_cons_of_mem _ this
    · rw [Int.max_eq_left h]; exact List.mem_cons_self ..
theorem minI_le : ∀ (xs : List Int) (x : Int), x ∈ xs → minI xs ≤ x
  | [], _, h => by cases h
  | [y], x, h => by simp at h; subst h; exact Int.le_refl _
  | y :: z :: r, x, h => by
    show min y (minI (z :: r)) ≤ x
    rcases List.mem_cons.mp h with rfl | h
    · omega
    · have := minI_le (z :: r) x h; omega
theorem mnI_mem : ∀ (xs : List Int), xs ≠ [] → minI xs ∈ xs
  | [], h => absurd rfl h
  | [y], _ => by show y ∈ [y]; simp
  | y :: z :: r, _ => by
    show min y (minI (z :: r)) ∈ _
    have := mnI_mem (z :: r) (by simp)
    rcases Int.le_total y (minI (z :: r)) with h | h
    · rw [Int.min_eq_left h]; exact List.mem_cons_self ..
    · rw [Int.min_eq_right h]; exact List.mem_cons_of_mem _ this
theorem maxN_of {xs : List Int} (h : xs ≠ []) : maxN xs = some (maxI xs) := by cases xs with | nil => exact absurd rfl h | cons x r => rfl
theorem minN_of {xs : List Int} (h : xs ≠ []) : minN xs = some (minI xs) := by cases xs with | nil => exact absurd rfl h | cons x r => rfl
/-! slices and sums -/
theorem cut_nat {α : Type} (xs : List α) (a b : Nat) (hb : b ≤ xs.length) : cutL xs (some (a : Int)) (some (b : Int)) = (xs.drop a).take (b - a) := by
  unfold cutL
  rw [HT.sIx_nat, HT.sIx_nat, Nat.min_eq_left hb]
  by_cases h : a ≤ xs.length
  · rw [Nat.min_eq_left h]
  · rw [Nat.min_eq_right (by omega), List.drop_length, List.drop_of_length_le (by omega), List.take_nil, List.take_nil]
theorem cut_from {α : Type} (xs : List α) (a : Nat) (h : a ≤ xs.length) : cutL xs (some (a : Int)) none = xs.drop a := by
  unfold cutL
  rw [HT.sIx_nat, HT.sIx_none, Nat.min_eq_left h, List.take_of_length_le (by rw [List.length_drop]; omega)]
theorem cut_to {α : Type} (xs : List α) (b : Nat) (h : b ≤ xs.length) : cutL xs none (some (b : Int)) = xs.take b := by
  unfold cutL
  rw [HT.sIx_nat, HT.sIx_none, Nat.min_eq_left h, List.drop_zero, Nat.sub_zero]
def psum (us : List Int) (k : Nat) : Int := (us.take k).sum
theorem psum_zero (us : List Int) : psum us 0 = 0 := by unfold psum; simp
theorem psum_succ (us : List Int) {k : Nat} (h : k < us.length) : psum us (k + 1) = psum us k + us.getD k 0 := by
  unfold psum
  rw [List.take_add_one, List.getElem?_eq_getElem h, List.sum_append, List.getD_eq_getElem?_getD, List.getElem?_eq_getElem h]
  simp
theorem psum_all (us : List Int) {k : Nat} (h : us.length ≤ k) : psum us k = us.sum := by unfold psum; rw [List.take_of_length_le h]
theorem cut_sum (us : List Int) (a b : Nat) (h : a ≤ b) : ((us.drop a).take (b - a)).sum = psum us b - psum us a := by
  unfold psum
  have : us.take b = us.take a ++ (us.drop a).take (b - a) := by
    rw [← List.take_append_drop a (us.take b), List.take_take, Nat.min_eq_left h, List.drop_take]
  rw [this, List.sum_append]
  omega
theorem psum_mono {us : List Int} (h : ∀ u, u ∈ us → 0 ≤ u) : ∀ {a b : Nat}, a ≤ b → psum us a ≤ psum us b := by
  intro a b hab
  have e := cut_sum us a b hab
  have : 0 ≤ ((us.drop a).take (b - a)).sum := by
    have : ∀ l : List Int, (∀ u, u ∈ l → 0 ≤ u) → 0 ≤ l.sum := by
      intro l
      induction l with
      | nil => intro _; simp
      | cons x r ih => intro hx; rw [List.sum_cons]; have := hx x (List.mem_cons_self ..); have := ih fun u hu => hx u (List.mem_cons_of_mem _ hu); omega
    exact this _ fun u hu => h u (List.mem_of_mem_drop (List.mem_of_mem_take hu))
  omega
theorem sum_bound {us : List Int} {m : Int} (h : ∀ u, u ∈ us → 0 ≤ u ∧ u ≤ m) : 0 ≤ us.sum ∧ us.sum ≤ us.length * m := by
  induction us with
  | nil => simp
  | cons x r ih =>
    have a := h x (List.mem_cons_self ..)
    have b := ih fun u hu => h u (List.mem_cons_of_mem _ hu)
    rw [List.sum_cons, List.length_cons, Int.natCast_add, Int.add_mul]
    simp only [Int.natCast_one, Int.one_mul]
    omega
/-! texts of data -/
def Rpr (d : Dat) (k n : Nat) : Prop := ∃ p, toPy d = some p ∧ p.showable = true ∧ p.hasDict = false ∧ p.depth ≤ k ∧ p.shown.length ≤ n
def RprL (ds : List Dat) (k n : Nat) : Prop := ∃ ps, toPyAll ds = some ps ∧ PyData.showableAll ps = true ∧ PyData.hasDictAll ps = false ∧ PyData.depthAll ps ≤ k ∧ ((PyData.shownAll ps).map (·.length)).sum + 2 * ps.length ≤ n
theorem Rpr.up {d : Dat} {k n k' n' : Nat} (h : Rpr d k n) (h1 : k ≤ k') (h2 : n ≤ n') : Rpr d k' n' := by
  obtain ⟨p, a, b, c, e, f⟩ := h
  exact ⟨p, a, b, c, Nat.le_trans e h1, Nat.le_trans f h2⟩
theorem rpr_int {i : Int} {m : Nat} (hm : 0 < m) (hm2 : m ≤ 500) (h : i.natAbs < 10 ^ m) : Rpr (.int i) 0 (m + 1) := by
  refine ⟨.int i, by simp [toPy], ?_, by simp only [PyData.hasDict], by simp only [PyData.depth]; omega, ?_⟩
  · simp only [PyData.showable, decide_eq_true_eq]
    by_cases hz : i.natAbs = 0
    · rw [hz]; decide
    · refine (Nat.log2_lt hz).mpr (Nat.lt_of_lt_of_le h (Nat.le_trans (Nat.pow_le_pow_right (by decide) hm2) ?_))
      decide
  · have e := int_text_length_le10 hm h
    show (Str.ofString (toString i)).length ≤ m + 1
    rw [ofString_length]; exact e
theorem rpr_bl (b : Bool) : Rpr (.bl b) 0 5 := ⟨.bool b, by simp [toPy], by simp [PyData.showable], by simp [PyData.hasDict], by simp [PyData.depth], by cases b <;> decide⟩
theorem rpr_non : Rpr .non 0 4 := ⟨.none, by simp [toPy], by simp [PyData.showable], by simp [PyData.hasDict], by simp [PyData.depth], by decide⟩
theorem rpl_nil (k : Nat) : RprL [] k 0 := ⟨[], by simp [toPyAll], by simp [PyData.showableAll], by simp [PyData.hasDictAll], by simp [PyData.depthAll], by simp [PyData.shownAll]⟩
theorem rpl_cons {d : Dat} {ds : List Dat} {k n m : Nat} (h : Rpr d k n) (r : RprL ds k m) : RprL (d :: ds) k (n + m + 2) := by
  obtain ⟨p, a, b, c, e, f⟩ := h
  obtain ⟨ps, a', b', c', e', f'⟩ := r
  refine ⟨p :: ps, by simp [toPyAll, a, a'], by simp [PyData.showableAll, b, b'], by simp [PyData.hasDictAll, c, c'], by simp only [PyData.depthAll]; omega, ?_⟩
  simp only [PyData.shownAll, List.map_cons, List.sum_cons, List.length_cons]
  omega
theorem RprL.up {ds : List Dat} {k n k' n' : Nat} (h : RprL ds k n) (h1 : k ≤ k') (h2 : n ≤ n') : RprL ds k' n' := by
  obtain ⟨p, a, b, c, e, f⟩ := h
  exact ⟨p, a, b, c, Nat.le_trans e h1, Nat.le_trans f h2⟩
theorem rpl_map {α : Type} {f : α → Dat} {k n : Nat} : ∀ (xs : List α), (∀ x, x ∈ xs → Rpr (f x) k n) → RprL (xs.map f) k (xs.length * (n + 2))
  | [], _ => by simpa using rpl_nil k
  | x :: xs, h => by
    have := rpl_cons (h x (List.mem_cons_self ..)) (rpl_map xs fun y hy => h y (List.mem_cons_of_mem _ hy))
    refine this.up (Nat.le_refl _) ?_
    rw [List.length_cons, Nat.succ_mul]
    omega
theorem rpr_lst {ds : List Dat} {k n : Nat} (h : RprL ds k n) : Rpr (.lst ds) (k + 1) (n + 3) := by
  obtain ⟨ps, a, b, c, e, f⟩ := h
  refine ⟨.list ps, by simp [toPy, a], by simp only [PyData.showable, b], by simp only [PyData.hasDict, c], by simp only [PyData.depth]; omega, ?_⟩
  have := listText_len_le (PyData.shownAll ps)
  have l : (PyData.shownAll ps).length = ps.length := PyData.shownAll_length ps
  show (listText (PyData.shownAll ps)).length ≤ _
  omega
theorem rpr_tup {ds : List Dat} {k n : Nat} (h : RprL ds k n) : Rpr (.tup ds) (k + 1) (n + 3) := by
  obtain ⟨ps, a, b, c, e, f⟩ := h
  refine ⟨.tuple ps, by simp [toPy, a], by simp only [PyData.showable, b], by simp only [PyData.hasDict, c], by simp only [PyData.depth]; omega, ?_⟩
  have := tupleText_len_le (PyData.shownAll ps)
  have l : (PyData.shownAll ps).length = ps.length := PyData.shownAll_length ps
  show (tupleText (PyData.shownAll ps)).length ≤ _
  omega
theorem repr_of {d : Dat} {k n : Nat} (h : Rpr d k n) (h1 : k ≤ 60) (h2 : n ≤ 16777216) : ∃ z, reprS d = some z := by
  obtain ⟨p, a, b, c, e, f⟩ := h
  refine ⟨p.shown, ?_⟩
  unfold reprS
  rw [a]
  show showP p = _
  unfold showP
  rw [if_pos]
  simp only [b, c, Bool.true_and, Bool.not_false, Bool.and_eq_true, decide_eq_true_eq]
  exact ⟨Nat.le_trans e h1, Nat.le_trans f h2⟩
theorem repr_int {i : Int} (h0 : -1000000000000000000000000 < i) (h : i < 1000000000000000000000000) : ∃ z, reprS (.int i) = some z := repr_of (rpr_int (m := 24) (by decide) (by decide) (by omega)) (by decide) (by decide)
theorem repr_ints {xs : List Int} (hl : xs.length ≤ 100000) (h : ∀ x, x ∈ xs → -1000000000000000000000000 < x ∧ x < 1000000000000000000000000) : ∃ z, reprS (eL eI xs) = some z :=
  repr_of (rpr_lst (rpl_map xs fun x hx => rpr_int (m := 24) (by decide) (by decide) (by have := h x hx; omega))) (by decide) (by omega)
/-! draws -/
theorem draw_of (s : Rg) {n : Int} (h : 0 < n) (h2 : n < 1000000000) : ∃ v s', drawN s n = some (v, s') ∧ 0 ≤ v ∧ v < n := drawN_of s h (by omega)
/-! equality of data -/
structure EqC {α : Type} [DecidableEq α] (f : α → Dat) (g : α → PyData) (k : Nat) : Prop where
  py : ∀ a, toPy (f a) = some (g a)
  lay : ∀ a, (g a).canLay0 = true
  dep : ∀ a, (g a).depth ≤ k
  eq : ∀ a b, (g a).eqv (g b) = decide (a = b)
theorem eqP_code {α : Type} [DecidableEq α] {f : α → Dat} {g : α → PyData} {k : Nat} (h : EqC f g k) (hk : k ≤ 64) (a b : α) : eqP (f a) (f b) = some (decide (a = b)) := by
  unfold eqP
  rw [h.py a, h.py b]
  have s : ∀ a, SeqAt.shaped (g a) = true := fun a => by
    unfold SeqAt.shaped
    simp only [h.lay a, Bool.true_and, decide_eq_true_eq]
    exact Nat.le_trans (h.dep a) hk
  simp only [s, Bool.and_self, if_true, h.eq]
theorem eqc_int : EqC eI PyData.int 0 := ⟨fun _ => by simp [toPy], fun _ => by simp [PyData.canLay0], fun _ => by simp [PyData.depth], fun a b => by by_cases h : a = b <;> simp [PyData.eqv, h]⟩
theorem eqc_bool : EqC eB PyData.bool 0 := ⟨fun _ => by simp [toPy], fun _ => by simp [PyData.canLay0], fun _ => by simp [PyData.depth], fun a b => by by_cases h : a = b <;> simp [PyData.eqv, h]⟩
section
variable {α β γ : Type} [DecidableEq α] [DecidableEq β] [DecidableEq γ] {f : α → Dat} {g : α → PyData} {f2 : β → Dat} {g2 : β → PyData} {f3 : γ → Dat} {g3 : γ → PyData} {k k2 k3 : Nat}
theorem eqc_all (h : EqC f g k) : ∀ xs : List α, toPyAll (xs.map f) = some (xs.map g) ∧ PyData.canLayAll0 (xs.map g) = true ∧ PyData.depthAll (xs.map g) ≤ k
  | [] => ⟨by simp [toPyAll], by simp [PyData.canLayAll0], by simp [PyData.depthAll]⟩
  | x :: xs => by
    obtain ⟨a, b, c⟩ := eqc_all h xs
    have d := h.dep x
    refine ⟨by simp [toPyAll, a, h.py], by simp [PyData.canLayAll0, b, h.lay], ?_⟩
    simp only [List.map_cons, PyData.depthAll]
    omega
theorem eqc_eqvAll (h : EqC f g k) : ∀ xs ys : List α, PyData.eqvAll (xs.map g) (ys.map g) = decide (xs = ys)
  | [], [] => by simp [PyData.eqvAll]
  | [], y :: ys => by simp [PyData.eqvAll]
  | x :: xs, [] => by simp [PyData.eqvAll]
  | x :: xs, y :: ys => by
    simp only [List.map_cons, PyData.eqvAll, h.eq, eqc_eqvAll h xs ys, List.cons.injEq]
    by_cases e : x = y <;> simp [e]
theorem eqc_list (h : EqC f g k) : EqC (eL f) (fun xs => PyData.list (xs.map g)) (k + 1) :=
  ⟨fun xs => by simp [toPy, (eqc_all h xs).1], fun xs => by simp [PyData.canLay0, (eqc_all h xs).2.1], fun xs => by simp only [PyData.depth]; have := (eqc_all h xs).2.2; omega, fun a b => by simp only [PyData.eqv]; exact eqc_eqvAll h a b⟩
theorem eqc_tl (h : EqC f g k) : EqC (eT f) (fun xs => PyData.tuple (xs.map g)) (k + 1) :=
  ⟨fun xs => by simp [toPy, (eqc_all h xs).1], fun xs => by simp [PyData.canLay0, (eqc_all h xs).2.1], fun xs => by simp only [PyData.depth]; have := (eqc_all h xs).2.2; omega, fun a b => by simp only [PyData.eqv]; exact eqc_eqvAll h a b⟩
theorem eqc_2 (h : EqC f g k) (h2 : EqC f2 g2 k2) : EqC (e2 f f2) (fun p => PyData.tuple [g p.1, g2 p.2]) (max k k2 + 1) :=
  ⟨fun p => by simp [toPy, toPyAll, h.py, h2.py], fun p => by simp [PyData.canLay0, PyData.canLayAll0, h.lay, h2.lay], fun p => by have := h.dep p.1; have := h2.dep p.2; simp only [PyData.depth, PyData.depthAll]; omega, fun a b => by
    simp only [PyData.eqv, PyData.eqvAll, h.eq, h2.eq, Bool.and_true]
    obtain ⟨a1, a2⟩ := a
    obtain ⟨b1, b2⟩ := b
    by_cases e : a1 = b1 <;> simp [e]⟩
theorem eqc_3 (h : EqC f g k) (h2 : EqC f2 g2 k2) (h3 : EqC f3 g3 k3) : EqC (e3 f f2 f3) (fun p => PyData.tuple [g p.1, g2 p.2.1, g3 p.2.2]) (max k (max k2 k3) + 1) :=
  ⟨fun p => by simp [toPy, toPyAll, h.py, h2.py, h3.py], fun p => by simp [PyData.canLay0, PyData.canLayAll0, h.lay, h2.lay, h3.lay], fun p => by have := h.dep p.1; have := h2.dep p.2.1; have := h3.dep p.2.2; simp only [PyData.depth, PyData.depthAll]; omega, fun a b => by
    simp only [PyData.eqv, PyData.eqvAll, h.eq, h2.eq, h3.eq, Bool.and_true]
    obtain ⟨a1, a2, a3⟩ := a
    obtain ⟨b1, b2, b3⟩ := b
    by_cases e : a1 = b1 <;> by_cases e' : a2 = b2 <;> simp [e, e']⟩
end
theorem eq_ints (xs ys : List Int) : eqB (eL eI xs) (eL eI ys) = some (decide (xs = ys)) := eqP_code (eqc_list eqc_int) (by decide) xs ys
theorem eq_bools (xs ys : List Bool) : eqB (eL eB xs) (eL eB ys) = some (decide (xs = ys)) := eqP_code (eqc_list eqc_bool) (by decide) xs ys
theorem eq_pairs (xs ys : List (Int × Int)) : eqB (eL (e2 eI eI) xs) (eL (e2 eI eI) ys) = some (decide (xs = ys)) := eqP_code (eqc_list (eqc_2 eqc_int eqc_int)) (by decide) xs ys
end Mir

/-! MirW: a + x and x + a, x a list that the def changes; e[::-1] -/
namespace Mir
open PySem L2
section
variable {X : Cx} {cm : CM} {W : WX} {a b o : Expr} {ma mb : ME} {pos p1 p2 p3 : Pos}
def catDD : Dat → Dat → Option Dat
  | .lst xs, .lst ys => if xs.length + ys.length ≤ lim then some (.lst (xs ++ ys)) else none
  | _, _ => none
theorem catDD_some {x y d : Dat} (h : catDD x y = some d) : ∃ xs ys, x = .lst xs ∧ y = .lst ys ∧ xs.length + ys.length ≤ lim ∧ d = .lst (xs ++ ys) := by
  unfold catDD at h
  split at h
  · rename_i xs ys
    split at h
    · rename_i z
      have e := Option.some.inj h
      exact ⟨xs, ys, rfl, rfl, z, e.symm⟩
    · exact nomatch h
  · exact nomatch h
def mCatR (ma : ME) (i : Nat) : ME := fun S => (ma S).bind fun a S1 => if isMut i S1 = true then (match listAt i S1 with
  | some ds => Rs.of (catDD a (.lst ds)) S1
  | none => .bad) else (mVar i S1).bind fun b S2 => Rs.of (catDD a b) S2
theorem ge_catR {i : Nat} (ha : PE X a (tE cm X.K W ma)) (ho : PE X o (tVar i)) : PE X (.BinOp a .Add o pos) (tE cm X.K W (mCatR ma i)) :=
  PE.weak (pe_op op_cat ha ho) fun σ H Q ⟨F, S, e1, e2, R, h⟩ => tG_bind e1 e2 R h fun x H1 da S1 R1 s1 p1 h1 => by
    by_cases hz : isMut i S1 = true
    · rw [if_pos hz] at h1
      obtain ⟨l, ds, vs, M, hl, la, eh, r, _⟩ := R1.peek hz
      rw [la] at h1
      dsimp only at h1
      cases hd : catDD da (.lst ds) with
      | none => rw [hd] at h1; exact h1.elim
      | some d =>
        rw [hd] at h1
        obtain ⟨xs, ys, rfl, ey, hlen, rfl⟩ := catDD_some hd
        cases ey
        cases p1 with
        | @lst aa vv dd hv rv =>
          refine ⟨_, hl, aa, l, vv, vs, rfl, rfl, hid_le _ _ hv, eh, ?_, fun p hp => ?_⟩
          · rw [rv.length, r.length]; exact lim_line hlen
          · have sn := same_new (o := .lst (vv ++ vs)) hp
            exact h1 _ _ (R1.grow sn) (vis_grow sn) (.lst (hid_new R1.live hp) ((rv.append (by rw [← e1, ← e2]; exact r)).mono (vis_grow sn)))
    · rw [if_neg hz] at h1
      refine var_read e1 e2 R1 h1 fun y H2 db S2 R2 s2 p2 h2 => ?_
      cases hd : catDD da db with
      | none => rw [hd] at h2; exact h2.elim
      | some d =>
        rw [hd] at h2
        obtain ⟨xs, ys, rfl, rfl, hlen, rfl⟩ := catDD_some hd
        cases p1 with
        | @lst aa vv dd hv rv =>
          cases p2 with
          | @lst ab vb db hb rb =>
            refine ⟨aa, ab, vv, vb, rfl, rfl, hid_le _ _ (s2 _ _ hv), hid_le _ _ hb, ?_, fun p hp => ?_⟩
            · rw [rv.length, rb.length]; exact lim_line hlen
            · have sn := same_new (o := .lst (vv ++ vb)) hp
              exact h2 _ _ (R2.grow sn) (vis_grow sn) (.lst (hid_new R2.live hp) (((rv.mono s2).append rb).mono (vis_grow sn)))
def mCatL (i : Nat) (ma : ME) : ME := fun S => if isMut i S = true then (ma S).bind fun a S1 => (match listAt i S1 with
  | some ds => Rs.of (catDD (.lst ds) a) S1
  | none => .bad) else (mVar i S).bind fun b S1 => (ma S1).bind fun a S2 => Rs.of (catDD b a) S2
theorem ge_catL {i : Nat} (ho : PE X o (tVar i)) (ha : PE X a (tE cm X.K W ma)) : PE X (.BinOp o .Add a pos) (tE cm X.K W (mCatL i ma)) :=
  PE.weak (pe_op op_cat ho ha) fun σ H Q ⟨F, S, e1, e2, R, h⟩ => by
    unfold mCatL at h
    by_cases hz : isMut i S = true
    · rw [if_pos hz] at h
      obtain ⟨l0, ds0, vs0, M0, hl0, la0, eh0, r0, _⟩ := R.peek hz
      refine ⟨_, hl0, tG_bind e1 e2 R h fun x H1 da S1 R1 s1 p1 h1 => ?_⟩
      cases hq : listAt i S1 with
      | none => rw [hq] at h1; exact h1.elim
      | some ds =>
        rw [hq] at h1
        obtain ⟨l, ds1, vs, M, hl, la, eh, r, _⟩ := R1.peek (isMut_of hq)
        rw [hl0] at hl; cases hl
        rw [hq] at la; cases la
        dsimp only at h1
        cases hd : catDD (.lst ds) da with
        | none => rw [hd] at h1; exact h1.elim
        | some d =>
          rw [hd] at h1
          obtain ⟨xs, ys, ex, rfl, hlen, rfl⟩ := catDD_some hd
          cases ex
          cases p1 with
          | @lst aa vv dd hv rv =>
            refine ⟨_, aa, vs, vv, rfl, rfl, eh, hid_le _ _ hv, ?_, fun p hp => ?_⟩
            · rw [rv.length, r.length]; exact lim_line hlen
            · have sn := same_new (o := .lst (vs ++ vv)) hp
              exact h1 _ _ (R1.grow sn) (vis_grow sn) (.lst (hid_new R1.live hp) ((RpAll.append (by rw [← e1, ← e2]; exact r) rv).mono (vis_grow sn)))
    · rw [if_neg hz] at h
      refine var_read e1 e2 R h fun y H1 db S1 R1 s1 p1 h1 => tG_bind e1 e2 R1 h1 fun x H2 da S2 R2 s2 p2 h2 => ?_
      cases hd : catDD db da with
      | none => rw [hd] at h2; exact h2.elim
      | some d =>
        rw [hd] at h2
        obtain ⟨xs, ys, rfl, rfl, hlen, rfl⟩ := catDD_some hd
        cases p1 with
        | @lst aa vv dd hv rv =>
          cases p2 with
          | @lst ab vb db hb rb =>
            refine ⟨aa, ab, vv, vb, rfl, rfl, hid_le _ _ (s2 _ _ hv), hid_le _ _ hb, ?_, fun p hp => ?_⟩
            · rw [rv.length, rb.length]; exact lim_line hlen
            · have sn := same_new (o := .lst (vv ++ vb)) hp
              exact h2 _ _ (R2.grow sn) (vis_grow sn) (.lst (hid_new R2.live hp) (((rv.mono s2).append rb).mono (vis_grow sn)))
/-- e[::-1] -/
def revD : Dat → Option Dat
  | .lst ds => some (.lst ds.reverse)
  | _ => none
theorem RpAll.reverse {cm : CM} {K : PySem.W.Frag} {G : Hp} : ∀ {vs : List V} {ds : List Dat}, RpAll cm K G vs ds → RpAll cm K G vs.reverse ds.reverse
  | _, _, .nil => .nil
  | _, _, .cons a b => by
    rw [List.reverse_cons, List.reverse_cons]
    exact (RpAll.reverse b).append (.cons a .nil)
theorem ge_rev {k : Nat} (ha : PE X a (tE cm X.K W ma)) : PE X (.Subscript a (.Slice none none (some (.UnaryOp .USub (.Constant (.int 1) k p1) p2)) p3) pos) (tE cm X.K W (m1 revD ma)) :=
  PE.weak (pe_revL ha) fun σ H Q ⟨F, S, e1, e2, R, h⟩ => tG_bind e1 e2 R h fun x H1 da S1 R1 s1 p1 h1 => by
    cases da with
    | lst ds =>
      cases p1 with
      | @lst aa vv dd hv rv =>
        refine ⟨aa, vv, rfl, SqL.of (hid_le _ _ hv), fun p hp => ?_⟩
        have sn := same_new (o := .lst vv.reverse) hp
        exact h1 _ _ (R1.grow sn) (vis_grow sn) (.lst (hid_new R1.live hp) (rv.reverse.mono (vis_grow sn)))
    | _ => exact h1.elim
end
/-! native -/
section
variable {S S1 S2 : Sg} {ma : ME} {i : Nat} {α : Type} {f : α → Dat}
theorem x_catR {xs ys zs : List α} (ha : ma S = .ok (eL f xs) S1) (hm : isMut i S1 = true) (hl : listAt i S1 = some (ys.map f)) (h : catN xs ys = some zs) : mCatR ma i S = .ok (eL f zs) S1 := by
  unfold mCatR
  rw [ha, Rs.bind_ok, if_pos hm]
  simp only [hl]
  have e : catDD (eL f xs) (.lst (ys.map f)) = some (eL f zs) := by
    unfold catN at h
    split at h
    · rename_i z; cases h
      show (if (xs.map f).length + (ys.map f).length ≤ lim then _ else _) = _
      rw [List.length_map, List.length_map, if_pos z, ← List.map_append]
    · cases h
  rw [e]; rfl
theorem x_catRV {xs ys zs : List α} (ha : ma S = .ok (eL f xs) S1) (hm : isMut i S1 = false) (hv : mVar i S1 = .ok (eL f ys) S2) (h : catN xs ys = some zs) : mCatR ma i S = .ok (eL f zs) S2 := by
  unfold mCatR
  rw [ha, Rs.bind_ok, hm]
  have e : catDD (eL f xs) (eL f ys) = some (eL f zs) := by
    unfold catN at h
    split at h
    · rename_i z; cases h
      show (if (xs.map f).length + (ys.map f).length ≤ lim then _ else _) = _
      rw [List.length_map, List.length_map, if_pos z, ← List.map_append]
    · cases h
  rw [if_neg (by simp), hv, Rs.bind_ok, e]; rfl
theorem x_catL {xs ys zs : List α} (hm : isMut i S = true) (ha : ma S = .ok (eL f ys) S1) (hl : listAt i S1 = some (xs.map f)) (h : catN xs ys = some zs) : mCatL i ma S = .ok (eL f zs) S1 := by
  unfold mCatL
  rw [if_pos hm, ha, Rs.bind_ok]
  simp only [hl]
  have e : catDD (.lst (xs.map f)) (eL f ys) = some (eL f zs) := by
    unfold catN at h
    split at h
    · rename_i z; cases h
      show (if (xs.map f).length + (ys.map f).length ≤ lim then _ else _) = _
      rw [List.length_map, List.length_map, if_pos z, ← List.map_append]
    · cases h
  rw [e]; rfl
theorem x_catLV {xs ys zs : List α} (hm : isMut i S = false) (hv : mVar i S = .ok (eL f xs) S1) (ha : ma S1 = .ok (eL f ys) S2) (h : catN xs ys = some zs) : mCatL i ma S = .ok (eL f zs) S2 := by
  unfold mCatL
  have e : catDD (eL f xs) (eL f ys) = some (eL f zs) := by
    unfold catN at h
    split at h
    · rename_i z; cases h
      show (if (xs.map f).length + (ys.map f).length ≤ lim then _ else _) = _
      rw [List.length_map, List.length_map, if_pos z, ← List.map_append]
    · cases h
  rw [hm, if_neg (by simp), hv, Rs.bind_ok, ha, Rs.bind_ok, e]; rfl
theorem q_rev {xs : List α} : revD (eL f xs) = some (eL f xs.reverse) := by
  show some (Dat.lst (xs.map f).reverse) = _
  rw [← List.map_reverse]
end
/-! own == and repr -/
theorem rightOk_ins {cs : List Str} {c : Str} {fs : List (Str × Dat)} (h : cs.contains c = true) : rightOk cs (.ins c fs) = true := h
theorem q_eqO {c : Str} {cs : List Str} {Fn : List FA → RF} {gs : List (Str × Dat)} {b : Dat} {t : Bool} (h : rightOk cs b = true) (hF : Fn [.dat (.ins c gs), .dat b] = .ok (.bl t) []) : eqO c cs Fn (.ins c gs) b = some (.bl t) := by
  unfold eqO
  simp only [h, and_self, if_true, callD, List.map_cons, List.map_nil, hF]
theorem q_neO {c : Str} {cs : List Str} {Fn : List FA → RF} {gs : List (Str × Dat)} {b : Dat} {t : Bool} (h : rightOk cs b = true) (hF : Fn [.dat (.ins c gs), .dat b] = .ok (.bl t) []) : neO c cs Fn (.ins c gs) b = some (.bl (!t)) := by
  unfold neO
  simp only [h, and_self, if_true, callD, List.map_cons, List.map_nil, hF]
theorem q_reprO {c : Str} {Fn : List FA → RF} {gs : List (Str × Dat)} {t : Str} (hF : Fn [.dat (.ins c gs)] = .ok (.str t) []) : reprO c Fn [.ins c gs] = some (.str t) := by
  unfold reprO
  simp only [if_true, callD, List.map_cons, List.map_nil, hF]
end Mir

/-! MirX: exceptions of the program: made, raised, caught -/
namespace Mir
open PySem PySem.Spec PyProof.Rows L2
section
variable {X : Cx} {cm : CM} {W : WX} {k : Nat} {f : Addr} {fd : FuncData} {ps : List Str}
/-- C(us), C an own exception over ValueError, its __init__ walked as a def -/
theorem run_mkX {sp : Sp} {C : Addr} {pins : List (Addr × Obj)} {σ : L2.St} {H : Hp} {s : Shared} {Q : XK} {us : List Value} {xs : Addr → List V} (T : OexC X.K C) (iC : PySem.W.findIn X.K (.ref C) "__init__" = some (some (.ref f))) (tI : PySem.W.typeIn X.K (.ref f) = some (.type "function"))
    (Fk : FnG X.prog X.w X.K X.mg X.base (L2.CX X.prog X.w) k f fd ps sp) (hr : Room (k + 1) X.A) (hgd : X.A.guards = some []) (tk : Takes X W) (I : L2.Inv X pins σ H s) (hul : us.length ≤ sizeLine)
    (hb : ∀ (s' : Shared) (a : Addr), X.K.In s'.heap → ∃ ys, BindsTo s' fd ⟨.ref a :: us, []⟩ (ps.zip ys) ∧ Vals (xs a) ys)
    (h : ∀ a, H a = none → sp (xs a) (upd H a (exo a C none)) (fun v H2 => v = .non ∧ ∃ d gs, H2 a = some (exo a C (some d)) ∧ H2 d = some (exd d gs) ∧ H d = none ∧ Q (.ref C) (some d) (upd (del H2 a) d (.xd gs))) (fun _ _ _ => False)) :
    wpAny (model X.prog X.w) X.A (call (.ref C) us) (MkP X pins σ Q) X.xe s := by
  obtain ⟨z1, z2, z3, z4, z5, z6, z7, z8, z9, z10, y0, y1, y2, y3, y5, look, tail⟩ := T.cls
  obtain ⟨h0, g0, dr0, tk0, os0⟩ := s
  have new0 : h0.objs.size ≤ h0.objs.size + 1 := Nat.le_succ _
  have hq := h (h0.objs.size + 1) (I.hok.fresh new0)
  have grown : ∀ b o, h0.get? b = some o → ((h0.push (PySem.W.kdv_tup us)).push (PySem.HandSPX.excO C h0.objs.size)).get? b = some o := fun b o q => Heap.get?_push_of_some _ (Heap.get?_push_of_some _ q)
  have there : ((h0.push (PySem.W.kdv_tup us)).push (PySem.HandSPX.excO C h0.objs.size)).get? (h0.objs.size + 1) = some (PySem.HandSPX.excO C h0.objs.size) := by heap_get
  have J : L2.Inv X pins σ (upd H (h0.objs.size + 1) (exo (h0.objs.size + 1) C none)) ⟨(h0.push (PySem.W.kdv_tup us)).push (PySem.HandSPX.excO C h0.objs.size), g0, dr0, tk0, os0⟩ :=
    I.laid (t' := tk0) (a := h0.objs.size + 1) (o := exo (h0.objs.size + 1) C none) grown new0 (exo_ok there)
  obtain ⟨ys, hbi, rel⟩ := hb _ (h0.objs.size + 1) J.kIn
  have gd : (X.A.under (.builtin "type.__call__" ⟨.ref C :: us, []⟩)).guards = some [] := by
    simp [Around.under, Code.guards, Code.isGuard, guardIds, hgd, pushGuards]
  refine wpAny_call (PySem.HandSPX.call_own F.excBase_ValueError (fun Y => PySem.HandSPX.refsVE_contains Y z5 tail) (I.kIn _ _ look) (PySem.W.looks_findIn I.kIn iC) (fun self => PySem.W.bind_fn I.kIn self tI) hul
    (codeAny_mono (Fk.run _ X.stack _ _ ⟨Value.ref (h0.objs.size + 1) :: us, []⟩ ys _ _ (fun _ _ _ => False) (hr.make C us []) gd (J.env0.make C us []) hbi rel hq) fun res s' hres => ?_))
  rcases res with er | fl
  · exact passes_call tk (E := fun _ _ _ => False) (fun _ _ _ _ z => z.elim) pins σ _ _ er s' J hres
  · rcases fl with _ | _ | _ | u
    · exact False.elim hres
    · exact False.elim hres
    · exact False.elim hres
    · obtain ⟨v, H2, os2, bare2, un2, hok2, rv, ev, d, gs, ea, ed, hd0, q2⟩ := hres
      subst ev
      obtain ⟨h2, g2, d2, t2, os'⟩ := s'
      exact ⟨rv, mk_end (raises_own T.exC T.tyC) I new0 grown un2 hok2 os2 bare2 ea ed hd0 q2⟩
/-! ### the promise of an exception's __init__ -/
def spX (cm : CM) (K : PySem.W.Frag) (C : Addr) (Fx : List Dat → Option (List (Str × Dat))) : Sp := fun vs H Q E => ∃ M a ws ds fs, vs = .ref a :: ws ∧ live M H ∧ a ∈ M ∧ H a = some (exo a C none) ∧ RpAll cm K (hid M H) ws ds ∧ Fx ds = some fs ∧
  ∀ d gs H', (∀ b o, b ≠ a → H b = some o → H' b = some o) → H d = none → H' a = some (exo a C (some d)) → H' d = some (exd d gs) → RpF cm K (hid (d :: M) H') gs fs → Q .non H'
/-! ### raise -/
def mRaise (c : Str) (Fx : List Dat → Option (List (Str × Dat))) (n : Nat) (mr : MAv) : MS := fun S => (mr S).bind fun as S1 => if as.length = n then (match datsA as with
  | some ds => (match Fx ds with
    | some fs => .exc c fs S1
    | none => .bad)
  | none => .bad) else .bad
variable {c : Str} {x : Str} {e : Expr} {es : List Expr} {p pos pos2 : Pos} {n : Nat} {mr : MAv} {Fx : List Dat → Option (List (Str × Dat))}
theorem gs_raise (hcalm : X.calm = true) (T : OexC X.K (cm c)) (iC : PySem.W.findIn X.K (.ref (cm c)) "__init__" = some (some (.ref f))) (tI : PySem.W.typeIn X.K (.ref f) = some (.type "function"))
    (Fk : FnG X.prog X.w X.K X.mg X.base (L2.CX X.prog X.w) k f fd ps (spX cm X.K (cm c) Fx)) (hr : Room (k + 1) X.A) (hgd : X.A.guards = some []) (tk : Takes X W) (hg : Gl X x) (hm : X.mg x = some (.ref (cm c))) (hb : ∃ g, KBn X.K fd ps (n + 1) [] g (fun vs _ => vs)) (hn : n ≤ 1000)
    (ha : PA X (e :: es) (tAv cm X.K W mr)) (hdb : (x == ("__debug__" : Str)) = false := by decide) (he : starEach (e :: es) X.env = (false, eval e X.env) :: starEach es X.env := by rfl) (hpl : (backTo pos (starEach es X.env)).any (·.1) = false := by rfl) :
    PS X (.Raise (some (.Call (.Name x p) (e :: es) [] pos)) none pos2) (tS cm X.K W (mRaise c Fx n mr)) := by
  obtain ⟨g, hb⟩ := hb
  have mk : PMk X (.Call (.Name x p) (e :: es) [] pos) (fun σ H Q => ∃ F S, F.cm = cm ∧ F.K = X.K ∧ Rel F S σ H ∧ out F W σ (vis F S σ H) (fun _ _ (_ : Unit) (_ : Unit) => True) (fun _ _ => False) ((mr S).bind fun as S1 => if as.length = n then (match datsA as with
      | some ds => (match Fx ds with
        | some fs => Rs.exc c fs S1
        | none => .bad)
      | none => .bad) else .bad) ∧ (∀ cls d H', W cls d σ H' → Q cls d H')) := by
    intro pins s σ H Q I ⟨F, S, e1, e2, R, h, hW⟩
    refine wpAny_Call_Name_kw (ld_glob I hg hm (PySem.W.callWith_K (h₀ := X.base) I.ok.mod.kin T.kC (thn (ha.run pos pins s σ H (fun vs H1 => ∃ as S1, Rel F S1 σ H1 ∧ AvsOk cm X.K σ (vis F S1 σ H1) vs as ∧ out F W σ (vis F S1 σ H1) (fun _ _ (_ : Unit) (_ : Unit) => True) (fun _ _ => False) (if as.length = n then (match datsA as with
      | some ds => (match Fx ds with
        | some fs => Rs.exc c fs S1
        | none => .bad)
      | none => .bad) else .bad)) I
      (tG_bind e1 e2 R h fun vs H1 as S1 R1 s1 p1 h1 => ⟨as, S1, R1, p1, h1⟩)) fun us s1 ⟨vs, H1, I1, r, as, S1, R1, p1, h1⟩ => ⟨I1.kIn, ?_⟩) he hpl) hdb)
    by_cases hz : as.length = n
    · rw [if_pos hz] at h1
      cases hd : datsA as with
      | none => rw [hd] at h1; exact h1.elim
      | some ds =>
        rw [hd] at h1
        dsimp only at h1
        cases hx : Fx ds with
        | none => rw [hx] at h1; exact h1.elim
        | some fs =>
          rw [hx] at h1
          have lv : vs.length = n := by rw [AvsOk.length p1]; exact hz
          have rp := datsA_ok p1 hd
          have lu : us.length = n := by rw [← r.length]; exact lv
          refine run_mkX (us := us) (xs := fun a => .ref a :: vs) T iC tI Fk hr hgd tk I1 (by rw [lu, sizeLine_eq]; omega) (fun s' a kin => ⟨g (.ref a :: us) [], hb.to s' (.ref a :: us) [] kin (by rw [List.length_cons, lu]) rfl, hb.rel (.cons rfl r) .nil⟩) fun a hna => ?_
          have fresh := R1.fresh hna
          have sn := same_new (o := exo a (cm c) none) hna
          have gg : Same (vis F S1 σ H1) (hid (a :: (F.M ++ locs S1 σ)) (upd H1 a (exo a (cm c) none))) := fun b o q => by
            unfold vis at q
            by_cases hb' : b ∈ F.M ++ locs S1 σ
            · rw [hid_in hb'] at q; cases q
            · rw [hid_out hb'] at q
              have ne : b ≠ a := ne_of_none q hna
              rw [hid_out (fun z => by
                rcases List.mem_cons.mp z with z | z
                · exact ne z
                · exact hb' z), upd_ne ne]
              exact q
          refine ⟨a :: (F.M ++ locs S1 σ), a, vs, ds, fs, rfl, fun m hm' => ?_, List.mem_cons_self .., upd_same, rp.mono gg, hx, fun d gs H' kp hd0 ea ed rf => ⟨rfl, d, gs, ea, ed, ?_, hW _ _ _ ?_⟩⟩
          · rcases List.mem_cons.mp hm' with z | z
            · rw [z, upd_same]; simp
            · exact upd_some (R1.hlive z)
          · by_cases z : d = a
            · rw [z]; exact hna
            · rw [upd_ne z] at hd0; exact hd0
          · -- the exception leaves
            have hda : d ≠ a := fun z => by rw [z, upd_same] at hd0; cases hd0
            have hd1 : H1 d = none := by rw [upd_ne hda] at hd0; exact hd0
            have kp1 : Same H1 (upd (del H' a) d (.xd gs)) := fun b o q => by
              rw [upd_ne (ne_of_none q hd1), del_ne (ne_of_none q hna)]
              exact kp b o (ne_of_none q hna) (by rw [upd_ne (ne_of_none q hna)]; exact q)
            have R2 := R1.grow kp1
            have fin : RpF F.cm F.K (vis F S1 σ (upd (del H' a) d (.xd gs))) gs fs := ?_
            · have key := h1 d gs _ R2 (vis_grow kp1) (by unfold vis; rw [hid_out (R1.fresh hd1), upd_same]) fin
              rw [e1] at key
              exact key
            rw [e1, e2]
            refine rf.mono fun b o q => ?_
            by_cases hb' : b ∈ d :: a :: (F.M ++ locs S1 σ)
            · rw [hid_in hb'] at q; cases q
            · rw [hid_out hb'] at q
              have nd : b ≠ d := fun z => hb' (by rw [z]; exact List.mem_cons_self ..)
              have na : b ≠ a := fun z => hb' (by rw [z]; exact List.mem_cons_of_mem _ (List.mem_cons_self ..))
              have nb : b ∉ F.M ++ locs S1 σ := fun z => hb' (List.mem_cons_of_mem _ (List.mem_cons_of_mem _ z))
              unfold vis
              rw [hid_out nb, upd_ne nd, del_ne na]
              exact q
    · rw [if_neg hz] at h1; exact h1.elim
  refine PS.weak (ps_raise hcalm tk mk) fun D σ H ⟨F, S, e1, e2, R, h⟩ => ⟨F, S, e1, e2, R, ?_, fun cls d H' w => w⟩
  unfold mRaise at h
  cases hm : mr S with
  | bad => rw [hm] at h; exact h.elim
  | exc c' fs' S' => rw [hm] at h; exact h σ
  | ok as S1 =>
    rw [hm] at h
    rw [Rs.bind_ok] at h ⊢
    by_cases hz : as.length = n
    · rw [if_pos hz] at h ⊢
      cases hd : datsA as with
      | none => rw [hd] at h; exact h.elim
      | some ds =>
        rw [hd] at h
        dsimp only at h ⊢
        cases hx : Fx ds with
        | none => rw [hx] at h; exact h.elim
        | some fs => rw [hx] at h; exact h σ
    · rw [if_neg hz] at h; exact h.elim
end
/-! ### the __init__ of an exception -/
section
variable {X : Cx} {x : Str} {e : Expr} {es : List Expr} {ta : TA} {p1 p2 pos : Pos} {B : Addr}
/-- B.__init__(self, ..), B a class of the program without an own __init__ -/
theorem pe_binit {pl : Sem Bool} (hg : Gl X x) (hm : X.mg x = some (.ref B)) (gB : PySem.W.specialIn X.K (.ref B) "__getattribute__" = some (some (.builtin "type.__getattribute__"))) (rB : PySem.W.readsIn X.K B (.type "type") = true)
    (vB : PySem.W.findCls X.K (.ref B) (.type "type") "__init__" = some (.val (.builtin "ValueError.__init__"))) (ha : PA X (e :: es) ta) (hdb : (x == ("__debug__" : Str)) = false := by decide)
    (hc : eval (.Call (.Attribute (.Name x p1) "__init__" p2) (e :: es) [] pos) X.env = (do
      let ov ← eval (.Name x p1) X.env
      standAt p2.atName
      let (fv, first) ← holding [ov] (getMethod ov "__init__" pl)
      callWith pos fv first (backTo pos (starEach (e :: es) X.env)) (backToKw pos (keywordEach [] X.env))) := by rfl)
    (hs : starEach (e :: es) X.env = (false, eval e X.env) :: starEach es X.env := by rfl) (hpl : (backTo pos (starEach es X.env)).any (·.1) = false := by rfl) :
    PE X (.Call (.Attribute (.Name x p1) "__init__" p2) (e :: es) [] pos) (tVeI X.K ta) := by
  refine ⟨fun pins s σ H Q I h => PySem.W.methodCall_KW (ld_glob I hg hm ?_ hdb) hc⟩
  refine PySem.W.method_cls I.kIn gB (PySem.W.cls_value I.kIn rB vB (by decide +kernel) ?_)
  show wpAny _ _ (callWith pos (Value.builtin "ValueError.__init__") [] (backTo pos (starEach (e :: es) X.env)) []) _ _ _
  refine PyProof.Rows.callWith_method1 (thn (ha.run pos pins _ σ H _ (I.tok _) h) fun us s1 ⟨vs, H1, J, rel, a, C, ws, ev, hl, T, ea, q⟩ => ?_) hs hpl
  subst ev
  cases rel with
  | @cons _ u0 _ ur ra rw' =>
    obtain rfl : u0 = Value.ref a := ra
    exact oinit_ok T J ea (by rw [← Paired.length rw', sizeLine_eq]; omega) fun s' J' => ⟨.non, H1, J', rfl, q⟩
end
/-- self.f = p, one after the other: names and slots -/
def tFlds (K : PySem.W.Frag) : List (Str × Nat) → TS
  | [] => fun D σ H => D.nx σ H
  | [(f, j)] => tOst K f (tVar 0) (tVar j)
  | (f, j) :: r => tSeq (tOst K f (tVar 0) (tVar j)) (tFlds K r)
def putsX (σ : L2.St) : List (Str × Nat) → List (Str × V) → List (Str × V)
  | [], gs => gs
  | (f, j) :: r, gs => putsX σ r ((f, (σ.getD j none).getD .non) :: gs)
theorem upd_upd {H : Hp} {a : Addr} {o u : HO} : upd (upd H a o) a u = upd H a u := by
  funext b
  by_cases h : b = a
  · rw [h, upd_same, upd_same]
  · rw [upd_ne h, upd_ne h, upd_ne h]
theorem flds_more {K : PySem.W.Frag} {D : L2.Ends} {σ : L2.St} {a C dx : Addr} (T : OexC K C) (hs : σ[0]? = some (some (.ref a))) : ∀ (flds : List (Str × Nat)) (gs : List (Str × V)) (H : Hp), flds ≠ [] → (∀ q, q ∈ flds → PySem.W.findIn K (.ref C) q.1 = some none ∧ ∃ v, σ[q.2]? = some (some v)) →
    H a = some (exo a C (some dx)) → H dx = some (exd dx gs) → dx ≠ a → gs.length + flds.length ≤ 900 → D.nx σ (upd H dx (exd dx (putsX σ flds gs))) → tFlds K flds D σ H
  | [], _, _, h, _, _, _, _, _, _ => absurd rfl h
  | [(f, j)], gs, H, _, hf, ea, ed, ne, hl, hD => by
    obtain ⟨h1, v, hv⟩ := hf (f, j) (List.mem_cons_self ..)
    refine ⟨v, hv, _, hs, a, C, rfl, T, h1, .inr ⟨dx, gs, ea, ed, by simp at hl; omega, ?_⟩⟩
    have e : (σ.getD j none).getD .non = v := by rw [List.getD_eq_getElem?_getD, show σ[j]? = some (some v) from hv]; rfl
    unfold putsX putsX at hD
    rw [e] at hD
    exact hD
  | (f, j) :: q :: r, gs, H, _, hf, ea, ed, ne, hl, hD => by
    obtain ⟨h1, v, hv⟩ := hf (f, j) (List.mem_cons_self ..)
    refine ⟨v, hv, _, hs, a, C, rfl, T, h1, .inr ⟨dx, gs, ea, ed, by simp at hl; omega, ?_⟩⟩
    have e : (σ.getD j none).getD .non = v := by rw [List.getD_eq_getElem?_getD, show σ[j]? = some (some v) from hv]; rfl
    refine flds_more T hs (q :: r) ((f, v) :: gs) _ (by simp) (fun z hz => hf z (List.mem_cons_of_mem _ hz)) (by rw [upd_ne (Ne.symm ne)]; exact ea) upd_same ne (by simp at hl ⊢; omega) ?_
    unfold putsX at hD
    rw [e] at hD
    rw [upd_upd]
    exact hD
theorem flds_ok {K : PySem.W.Frag} {D : L2.Ends} {σ : L2.St} {a C : Addr} (T : OexC K C) (hs : σ[0]? = some (some (.ref a))) (flds : List (Str × Nat)) (H : Hp) (hne : flds ≠ []) (hf : ∀ q, q ∈ flds → PySem.W.findIn K (.ref C) q.1 = some none ∧ ∃ v, σ[q.2]? = some (some v))
    (ea : H a = some (exo a C none)) (hl : flds.length ≤ 900) (hD : ∀ dx, H dx = none → dx ≠ a → D.nx σ (upd (upd H dx (exd dx (putsX σ flds []))) a (exo a C (some dx)))) : tFlds K flds D σ H := by
  match flds, hne, hf, hl, hD with
  | [(f, j)], _, hf, _, hD =>
    obtain ⟨h1, v, hv⟩ := hf (f, j) (List.mem_cons_self ..)
    refine ⟨v, hv, _, hs, a, C, rfl, T, h1, .inl ⟨ea, fun dx n ne => ?_⟩⟩
    have e : (σ.getD j none).getD .non = v := by rw [List.getD_eq_getElem?_getD, show σ[j]? = some (some v) from hv]; rfl
    have := hD dx n ne
    unfold putsX putsX at this
    rw [e] at this
    exact this
  | (f, j) :: q :: r, _, hf, hl, hD =>
    obtain ⟨h1, v, hv⟩ := hf (f, j) (List.mem_cons_self ..)
    refine ⟨v, hv, _, hs, a, C, rfl, T, h1, .inl ⟨ea, fun dx n ne => ?_⟩⟩
    have e : (σ.getD j none).getD .non = v := by rw [List.getD_eq_getElem?_getD, show σ[j]? = some (some v) from hv]; rfl
    refine flds_more (dx := dx) T hs (q :: r) [(f, v)] _ (by simp) (fun z hz => hf z (List.mem_cons_of_mem _ hz)) upd_same (by rw [upd_ne ne, upd_same]) ne (by simp at hl ⊢; omega) ?_
    have := hD dx n ne
    unfold putsX at this
    rw [e] at this
    have sw : upd (upd (upd H dx (exd dx [(f, v)])) a (exo a C (some dx))) dx (exd dx (putsX σ (q :: r) [(f, v)])) = upd (upd H dx (exd dx (putsX σ (q :: r) [(f, v)]))) a (exo a C (some dx)) := by
      funext b
      by_cases h1 : b = dx
      · rw [h1, upd_same, upd_ne ne, upd_same]
      · by_cases h2 : b = a
        · rw [h2, upd_ne (Ne.symm ne), upd_same, upd_same]
        · rw [upd_ne h1, upd_ne h2, upd_ne h1, upd_ne h2, upd_ne h1]
    rw [sw]
    exact this
/-- what the exception then has: by the def's arguments; mf: its text -/
def putsD (ds : List Dat) : List (Str × Nat) → List (Str × Dat) → List (Str × Dat)
  | [], gs => gs
  | (f, j) :: r, gs => putsD ds r ((f, ds.getD (j - 1) .non) :: gs)
def fxOf (np : Nat) (mf : ME) (flds : List (Str × Nat)) (ds : List Dat) : Option (List (Str × Dat)) := if ds.length = np then (match mf (.no :: ds.map Slot.dat) with
  | .ok _ _ => some (putsD ds flds [])
  | _ => none) else none
section
variable {P : Program} {w : World} {K : PySem.W.Frag} {mg : Str → Option Value} {base : Heap} {cm : CM}
theorem fnX_of {x qual : Str} {params : Arguments} {body : List Stmt} {scope : Scope} {dvs : List V} {kws : List (Str × V)} {f C : Addr} {fd : FuncData} {ps : List Str} {k np : Nat} {mf : ME} {flds : List (Str × Nat)} (F : FunD K x qual params body scope dvs kws f fd) (S : FnScope ps ps scope) (hp : ps.length = np + 1)
    (T : OexC K C) (hne : flds ≠ []) (hfl : flds.length ≤ 900) (hf : ∀ q, q ∈ flds → PySem.W.findIn K (.ref C) q.1 = some none ∧ 0 < q.2 ∧ q.2 ≤ np)
    (hbody : ∀ (cdv : Value) (A : Around) (outer : List Env) (s : Shared) (H : Hp) (E : XK), Room k (A.deeper (envOfC qual scope s.heap.objs.size f cdv)) → (A.deeper (envOfC qual scope s.heap.objs.size f cdv)).guards = some [] →
      PSs (cxOf (L2.CX P w) P w K mg base ps qual scope f cdv A outer s H E) body (tSeq (tDrop (tVeI K (tCons (tVar 0) (tCons (tE cm K (fun cls d _ H' => E cls d H') mf) tNil)))) (tFlds K flds))) : FnG P w K mg base (L2.CX P w) (k + 1) f fd ps (spX cm K C (fxOf np mf flds)) := by
  have len : ∀ vs H Q E, spX cm K C (fxOf np mf flds) vs H Q E → vs.length = ps.length := fun vs H Q E ⟨M, a, ws, ds, fs, ev, _, _, _, r, hx, _⟩ => by
    unfold fxOf at hx
    by_cases hl : ds.length = np
    · rw [ev, List.length_cons, r.length, hl, hp]
    · rw [if_neg hl] at hx; cases hx
  obtain ⟨oc, od, dV, kV, doc, pm, an, cdv, ct, osl, rfl, lk, hcd, _, _⟩ := F.ex
  refine ⟨len, fun A outer s H args us vs Q E hr hg e0 hb r hsp => ?_⟩
  have hl := len _ _ _ _ hsp
  have KX : K.In s.heap := e0.mod.kin.keeps fun b o e => (e0.bs b o e).1
  have lim0 : s.heap.NoLimit := e0.mod.nolimit.keeps fun b o e => (e0.bs b o e).1
  refine codeAny_call_function hr.depth (KX _ _ lk) rfl S.co S.gen rfl (PySem.W.codeRec_of KX hcd) (hb _ _ _ _ (wpAny_newFunctionEnv_cells S.kind (fun ⟨nm, v⟩ hy => ?_) fun env he s1 y => ?_))
  · rcases S.par nm (List.of_mem_zip hy).1 with q | q
    · exact Or.inl q
    · exact Or.inr ⟨q, PySem.W.cellsFrom_some _ _ _ (Or.inl q)⟩
  · subst he
    refine ⟨lim0.keeps y.toInCall.keep, codeAny_func ?_⟩
    have I : L2.Inv (cxOf (L2.CX P w) P w K mg base ps qual scope f cdv A outer s H E) [] (L2.start ps vs) H s1 := inv_start S hr.hd e0 hl r y
    have ht := hbody cdv A outer s H E (hr.deeper _) (guards_deeper hg)
    obtain ⟨M, a, ws, ds, fs, ev, lv, ham, ea, rp, hx, hq⟩ := hsp
    subst ev
    unfold fxOf at hx
    by_cases hdl : ds.length = np
    · rw [if_pos hdl] at hx
      have lw : ws.length = np := by rw [rp.length]; exact hdl
      have st : L2.start ps (V.ref a :: ws) = some (V.ref a) :: ws.map some := by
        unfold L2.start
        rw [show ps.length - (V.ref a :: ws).length = 0 by rw [hp, List.length_cons, lw]; omega]
        simp
      have R0 : Rel ⟨cm, K, M, H, [], []⟩ (.no :: ds.map Slot.dat) (L2.start ps (V.ref a :: ws)) H := by
        have lc : ∀ σ : L2.St, locs (.no :: ds.map Slot.dat) σ = [] := locs_none fun s hs => by
          rcases List.mem_cons.mp hs with h | h
          · rw [h]; rfl
          · obtain ⟨d, _, rfl⟩ := List.mem_map.mp h; rfl
        have ow : owns (.no :: ds.map Slot.dat) = [] := by
          have : ∀ l : List Dat, owns (l.map Slot.dat) = [] := by
            intro l
            induction l with
            | nil => rfl
            | cons d l ih => simpa [owns] using ih
          simpa [owns] using this ds
        refine ⟨(by rw [st]; simp [lw, hdl]), fun i s v ha hb => ?_, (by rw [lc]; exact List.nodup_nil), fun l h => (by rw [lc] at h; cases h), (by rw [ow]; exact List.nodup_nil), List.nodup_nil, fun a h => (by cases h), lv, fun l h => (by rw [lc] at h; cases h), fun p h => (by cases h), fun a o q _ => q⟩
        have eV : vis ⟨cm, K, M, H, [], []⟩ (.no :: ds.map Slot.dat) (L2.start ps (V.ref a :: ws)) H = hid M H := by
          unfold vis; rw [lc, List.append_nil]
        rw [eV]
        rw [st] at hb
        cases i with
        | zero => simp at ha; subst ha; exact .no
        | succ i =>
          rw [List.getElem?_cons_succ, List.getElem?_map] at ha hb
          cases hd : ds[i]? with
          | none => rw [hd] at ha; cases ha
          | some d =>
            rw [hd] at ha
            cases ha
            obtain ⟨v', hv', rv⟩ := rp.get hd
            rw [hv'] at hb
            cases hb
            exact .dat rv
      have hs0 : (L2.start ps (V.ref a :: ws))[0]? = some (some (V.ref a)) := by rw [st]; rfl
      have key : (tSeq (tDrop (tVeI K (tCons (tVar 0) (tCons (tE cm K (fun cls d _ H' => E cls d H') mf) tNil)))) (tFlds K flds)) { nx := fun _ H' => Q .non H', rt := Q } (L2.start ps (V.ref a :: ws)) H := by
        refine ⟨_, hs0, ⟨⟨cm, K, M, H, [], []⟩, _, rfl, rfl, R0, ?_⟩⟩
        cases hm : mf (.no :: ds.map Slot.dat) with
        | bad => rw [hm] at hx; cases hx
        | exc c' fs' S' => rw [hm] at hx; cases hx
        | ok d S' =>
          rw [hm] at hx
          cases hx
          intro v H1 R1 g1 _
          have ea1 : H1 a = some (exo a C none) := R1.keep a _ ea (by simp)
          refine ⟨a, C, [v], rfl, by simp, T, ea1, ?_⟩
          refine flds_ok T hs0 flds H1 hne (fun q hq' => ?_) ea1 hfl fun dx n ne => ?_
          · obtain ⟨h1, h2, h3⟩ := hf q hq'
            refine ⟨h1, ?_⟩
            have hi : q.2 - 1 < ws.length := by omega
            obtain ⟨t, ht⟩ : ∃ t, q.2 = t + 1 := ⟨q.2 - 1, by omega⟩
            rw [ht] at hi ⊢; rw [Nat.add_sub_cancel] at hi
            refine ⟨ws[t], ?_⟩
            rw [st, List.getElem?_cons_succ, List.getElem?_map, List.getElem?_eq_getElem hi]
            rfl
          · have hd0 : H dx = none := by
              cases hh : H dx with
              | none => rfl
              | some o => rw [R1.keep dx o hh (by simp)] at n; cases n
            refine hq dx _ _ (fun b o nb q => ?_) hd0 upd_same (by rw [upd_ne ne, upd_same]) ?_
            · have q1 := R1.keep b o q (by simp)
              rw [upd_ne nb, upd_ne (ne_of_none q1 n)]
              exact q1
            · have sm : Same (hid M H) (hid (dx :: M) (upd (upd H1 dx (exd dx (putsX (L2.start ps (V.ref a :: ws)) flds []))) a (exo a C (some dx)))) := fun b o q => by
                by_cases hb' : b ∈ M
                · rw [hid_in hb'] at q; cases q
                · rw [hid_out hb'] at q
                  have nd : b ≠ dx := ne_of_none q hd0
                  have na : b ≠ a := fun z => hb' (by rw [z]; exact ham)
                  rw [hid_out (fun z => by
                    rcases List.mem_cons.mp z with z | z
                    · exact nd z
                    · exact hb' z), upd_ne na, upd_ne nd]
                  exact R1.keep b o q (by simp)
              obtain ⟨GG, hGG⟩ : ∃ GG, hid (dx :: M) (upd (upd H1 dx (exd dx (putsX (L2.start ps (V.ref a :: ws)) flds []))) a (exo a C (some dx))) = GG := ⟨_, rfl⟩
              rw [hGG] at sm ⊢
              have rp2 := rp.mono sm
              have all : ∀ (l : List (Str × Nat)) (gs : List (Str × V)) (es : List (Str × Dat)), (∀ q, q ∈ l → 0 < q.2 ∧ q.2 ≤ np) → RpF cm K GG gs es → RpF cm K GG (putsX (L2.start ps (V.ref a :: ws)) l gs) (putsD ds l es) := by
                intro l
                induction l with
                | nil => intro gs es _ h; exact h
                | cons q l ih =>
                  intro gs es hq' h
                  obtain ⟨fq, jq⟩ := q
                  obtain ⟨b1, b2⟩ := hq' (fq, jq) (List.mem_cons_self ..)
                  dsimp only at b1 b2
                  have hi : jq - 1 < ds.length := by omega
                  obtain ⟨v', hv', rv⟩ := rp2.get (List.getElem?_eq_getElem hi)
                  unfold putsX putsD
                  refine ih _ _ (fun z hz => hq' z (List.mem_cons_of_mem _ hz)) (.cons ?_ h)
                  have e1 : (L2.start ps (V.ref a :: ws)).getD jq none = some v' := by
                    rw [st, List.getD_eq_getElem?_getD, show jq = (jq - 1) + 1 by omega, List.getElem?_cons_succ, List.getElem?_map, hv']
                    rfl
                  have e2 : ds.getD (jq - 1) .non = ds[jq - 1] := by rw [List.getD_eq_getElem?_getD, List.getElem?_eq_getElem hi]; rfl
                  rw [e1, e2]
                  exact rv
              exact all flds [] [] (fun q hq' => (hf q hq').2) .nil
      refine wpAny_mono (ht.run [] s1 (L2.start ps (V.ref a :: ws)) H _ I key) (fun fl s' hs => ?_) fun e s' hs => hs
      cases fl with
      | ret u => obtain ⟨v, σ', H', J, rv, q⟩ := hs; exact ⟨v, H', J.os, J.bare, J.base, J.hok, rv, q⟩
      | next => obtain ⟨σ', H', J, q⟩ := hs; exact ⟨V.non, H', J.os, J.bare, J.base, J.hok, (rfl : Value.none = Value.none), q⟩
      | brk => obtain ⟨_, _, _, q⟩ := hs; exact q.elim
      | cont => obtain ⟨_, _, _, q⟩ := hs; exact q.elim
    · rw [if_neg hdl] at hx; cases hx
end
end Mir

/-! MirY: try, and what an except suite may ask of its exception -/
namespace Mir
open PySem PySem.Spec PyProof.Rows L2
section
variable {cm cm' : CM} {K : PySem.W.Frag} {G : Hp}
mutual
theorem Rp.cast (e : cm.at_ = cm'.at_) : ∀ {v : V} {d : Dat}, Rp cm K G v d → Rp cm' K G v d
  | _, _, .non => .non
  | _, _, .bl b => .bl b
  | _, _, .int i => .int i
  | _, _, .str x => .str x
  | _, _, .lst s r => .lst s (RpAll.cast e r)
  | _, _, .ro s r => .ro s (RpAll.cast e r)
  | _, _, .tup s r => .tup s (RpAll.cast e r)
  | _, _, .ins (c := c) s r => .ins (by rw [← e]; exact s) (RpF.cast e r)
  | _, _, .dic s r => .dic s (RpK.cast e r)
theorem RpAll.cast (e : cm.at_ = cm'.at_) : ∀ {vs : List V} {ds : List Dat}, RpAll cm K G vs ds → RpAll cm' K G vs ds
  | _, _, .nil => .nil
  | _, _, .cons a b => .cons (Rp.cast e a) (RpAll.cast e b)
theorem RpF.cast (e : cm.at_ = cm'.at_) : ∀ {vs : List (Str × V)} {ds : List (Str × Dat)}, RpF cm K G vs ds → RpF cm' K G vs ds
  | _, _, .nil => .nil
  | _, _, .cons a b => .cons (Rp.cast e a) (RpF.cast e b)
theorem RpK.cast (e : cm.at_ = cm'.at_) : ∀ {vs : List (Key × V)} {ds : List (Key × Dat)}, RpK cm K G vs ds → RpK cm' K G vs ds
  | _, _, .nil => .nil
  | _, _, .cons a b => .cons (Rp.cast e a) (RpK.cast e b)
end
theorem OwnOk.cast {H : Hp} {l : Addr} {o : Own} (e : cm.at_ = cm'.at_) (x : OwnOk cm K G H l o) : OwnOk cm' K G H l o := by
  cases x with
  | lst h r => exact .lst h (r.cast e)
  | obj h r => exact .obj (by rw [← e]; exact h) (r.cast e)
end
def Fm.to (F : Fm) (cm : CM) : Fm := { F with cm := cm }
def noExn (S : Sg) : Bool := S.all fun s => match s with
  | .exn _ _ => false
  | _ => true
theorem noExn_at {S : Sg} {i : Nat} {c : Str} {fs : List (Str × Dat)} (h : noExn S = true) : S[i]? ≠ some (.exn c fs) := fun z => by
  have := List.all_eq_true.mp h _ (List.mem_of_getElem? z)
  cases this
theorem Rel.cast {F : Fm} {S : Sg} {σ : L2.St} {H : Hp} (R : Rel F S σ H) {cm : CM} (e : F.cm.at_ = cm.at_) (hn : ∀ (i : Nat) (c : Str) (fs : List (Str × Dat)), S[i]? ≠ some (Slot.exn c fs)) : Rel (F.to cm) S σ H where
  len := R.len
  sl := fun i s v a b => by
    have y := R.sl i s v a b
    cases y with
    | no => exact .no
    | dat r => exact .dat (r.cast e)
    | loc h r => exact .loc h (r.cast e)
    | own h r => exact .own h (r.cast e)
    | exn _ _ _ => exact absurd a (hn _ _ _)
  nd := R.nd
  new := R.new
  ond := R.ond
  and_ := R.and_
  ain := R.ain
  liv := R.liv
  lom := R.lom
  tmp := R.tmp
  keep := R.keep
theorem Rel.noEx {F : Fm} {S : Sg} {σ : L2.St} {H : Hp} (R : Rel F S σ H) (h : F.cm.ex = none) : ∀ (i : Nat) (c : Str) (fs : List (Str × Dat)), S[i]? ≠ some (Slot.exn c fs) := fun i c fs z => by
  have hl : i < σ.length := by rw [← R.len]; exact (List.getElem?_eq_some_iff.mp z).1
  have y := R.sl i _ _ z (List.getElem?_eq_getElem hl)
  generalize σ[i] = w at y
  cases y with
  | exn e _ _ => rw [h] at e; cases e
/-- try: body, except .. as n: suite -/
def mTry (tab : List (Str × Bool)) (i : Nat) (mb ms : MS) : MS := fun S => match mb S with
  | .exc c fs S1 => (match tab.lookup c with
    | some true => (match ms (S1.set i (.exn c fs)) with
      | .ok fl S2 => if noExn (S2.set i .no) = true then .ok fl (S2.set i .no) else .bad
      | _ => .bad)
    | some false => .exc c fs S1
    | none => .bad)
  | r => r
section
variable {X : Cx} {cm : CM} {W : WX} {x n : Str} {cv : Value} {i : Nat} {body suite : List Stmt} {b₀ : Stmt} {np pos pos' : Pos} {tab : List (Str × Bool)} {mb ms : MS}
theorem lookup_mem {tab : List (Str × Bool)} {c : Str} {b : Bool} (h : tab.lookup c = some b) : (c, b) ∈ tab := by
  induction tab with
  | nil => cases h
  | cons q l ih =>
    obtain ⟨d, b'⟩ := q
    simp only [List.lookup] at h
    cases e : (c == d) with
    | true => rw [e] at h; cases h; rw [beq_iff_eq.mp e]; exact List.mem_cons_self ..
    | false => rw [e] at h; exact List.mem_cons_of_mem _ (ih h)
theorem gs_tryAs (hs : X.stack = X.env :: X.outer) (hf : X.env.frame = some X.env.locals) (hN : X.N.Nodup) (hi : X.N[i]? = some n) (hln : X.env.kindOf n = some .local) (hc : Names X x cv) (tk : Takes X W) (hex : cm.ex = none)
    (htab : ∀ q, q ∈ tab → PySem.W.exmOne X.K (.ref (cm q.1)) cv = some q.2)
    (hb : ∀ (W' : WX) (pn : List (Addr × Obj)) (xe : Value → Shared → Prop), Takes (X.tr pn xe) W' → PassesOwn (model X.prog X.w) X.A X.env xe → PSs (X.tr pn xe) body (tS cm X.K W' mb))
    (hsu : ∀ (a : Addr) (oe : Obj) (c : Str) (dd : Addr) (pn : List (Addr × Obj)), Zc (.ref (cm c)) (some dd) oe → (∃ vs, oe.data = .fields vs) → PSs (X.suite a ((a, oe) :: pn)) (b₀ :: suite) (tS ⟨cm.at_, some (a, c, dd)⟩ X.K W0 ms)) :
    PS X (.Try body [.ExceptHandler (some (.Name x np)) (some n) (b₀ :: suite) pos'] [] [] pos) (tS cm X.K W (mTry tab i mb ms)) := by
  refine PS.weak (ps_try_as (tb := fun W' => tS cm X.K W' mb) (ts := fun a cls d D σ H => ∃ c dd, cls = .ref (cm c) ∧ d = some dd ∧ tS ⟨cm.at_, some (a, c, dd)⟩ X.K W0 ms D σ H) hs hf hN hi hln hc tk hb ?_) ?_
  · intro a oe cls d pn hz hv
    refine ⟨fun pins s σ H D I ⟨c, dd, e1, e2, h⟩ => ?_⟩
    subst e1 e2
    exact (hsu a oe c dd pn hz hv).run pins s σ H D I h
  · intro D σ H ⟨F, S, e1, e2, R, h⟩
    refine ⟨F, S, e1, e2, R, ?_⟩
    unfold mTry at h
    cases hm : mb S with
    | bad => rw [hm] at h; exact h
    | ok fl S1 =>
      rw [hm] at h
      cases fl <;> exact h
    | exc c fs S1 =>
      rw [hm] at h
      dsimp only at h
      intro σ' da gs H' R' sm hda rg
      cases ht : tab.lookup c with
      | none => rw [ht] at h; exact h.elim
      | some b =>
        rw [ht] at h
        refine ⟨b, (by rw [e1]; exact htab _ (lookup_mem ht)), fun hbt => ?_, fun hbf => ?_⟩
        · subst hbt
          intro a hna
          refine ⟨c, da, (by rw [e1]), rfl, F.to ⟨cm.at_, some (a, c, da)⟩, S1.set i (.exn c fs), rfl, e2, ?_⟩
          have at1 : F.cm.at_ = cm.at_ := by rw [e1]
          have R2 : Rel (F.to ⟨cm.at_, some (a, c, da)⟩) S1 σ' H' := R'.cast at1 (R'.noEx (by rw [e1]; exact hex))
          have ok : SlotOk (F.to ⟨cm.at_, some (a, c, da)⟩) (vis (F.to ⟨cm.at_, some (a, c, da)⟩) S1 σ' H') H' (.exn c fs) (some (.ref a)) := .exn rfl hda (RpF.cast (cm' := ⟨cm.at_, some (a, c, da)⟩) at1 rg)
          obtain ⟨R3, s3⟩ := R2.set (i := i) rfl (fun _ _ z => by cases z) ok
          refine ⟨R3, ?_⟩
          dsimp only at h
          cases hsu2 : ms (S1.set i (.exn c fs)) with
          | bad => rw [hsu2] at h; exact h.elim
          | exc _ _ _ => rw [hsu2] at h; exact h.elim
          | ok fl S2 =>
            rw [hsu2] at h
            dsimp only at h
            by_cases hne : noExn (S2.set i .no) = true
            · rw [if_pos hne] at h
              have back : ∀ {σ2 : L2.St} {H2 : Hp}, Rel (F.to ⟨cm.at_, some (a, c, da)⟩) S2 σ2 H2 → Rel F (S2.set i .no) (σ2.set i none) H2 ∧ Same (vis (F.to ⟨cm.at_, some (a, c, da)⟩) S2 σ2 H2) (vis F (S2.set i .no) (σ2.set i none) H2) := by
                intro σ2 H2 q
                obtain ⟨q1, g1⟩ := q.no (i := i) (v := none)
                have q2 := q1.cast (cm := F.cm) at1.symm (fun k c' fs' z => noExn_at hne z)
                exact ⟨q2, g1⟩
              have g0 : Same (vis F S σ H) (vis (F.to ⟨cm.at_, some (a, c, da)⟩) (S1.set i (.exn c fs)) (σ'.set i (some (.ref a))) H') := sm.trans s3
              cases fl with
              | nx =>
                intro σ2 H2 q g2
                obtain ⟨q2, g3⟩ := back q
                exact h _ _ q2 ((g0.trans g2).trans g3)
              | bk =>
                intro σ2 H2 q g2
                obtain ⟨q2, g3⟩ := back q
                exact h _ _ q2 ((g0.trans g2).trans g3)
              | ct =>
                intro σ2 H2 q g2
                obtain ⟨q2, g3⟩ := back q
                exact h _ _ q2 ((g0.trans g2).trans g3)
              | rt d =>
                intro v σ2 H2 q g2 rv
                obtain ⟨q2, g3⟩ := back q
                exact h v _ _ q2 ((g0.trans g2).trans g3) ((Rp.cast (cm := ⟨cm.at_, some (a, c, da)⟩) (cm' := F.cm) at1.symm rv).mono g3)
            · rw [if_neg hne] at h; exact h.elim
        · subst hbf
          dsimp only at h
          rw [show F.cm c = F.cm c from rfl]
          exact h σ' da gs H' R' sm hda rg
end
/-! ### e.f -/
section
variable {X : Cx} {cm : CM} {W : WX} {i : Nat} {e : Expr} {nm : Str} {pos p : Pos} {a dd : Addr} {c : Str} {oe : Obj} {pn : List (Addr × Obj)}
def mXf (cs : List Str) (i : Nat) (nm : Str) : ME := fun S => match S[i]? with
  | some (.exn c fs) => if cs.contains c then Rs.of (fs.lookup nm) S else .bad
  | _ => .bad
theorem slot_exn {F : Fm} {S : Sg} {σ : L2.St} {H : Hp} {c : Str} {fs : List (Str × Dat)} (R : Rel F S σ H) (hs : S[i]? = some (.exn c fs)) (hcm : F.cm.ex = some (a, c', dd)) : c = c' ∧ σ[i]? = some (some (.ref a)) ∧ ∃ gs, vis F S σ H dd = some (.xd gs) ∧ RpF F.cm F.K (vis F S σ H) gs fs := by
  have hl : i < σ.length := by rw [← R.len]; exact (List.getElem?_eq_some_iff.mp hs).1
  have hv : σ[i]? = some σ[i] := List.getElem?_eq_getElem hl
  have q := R.sl i _ _ hs hv
  generalize σ[i] = w at hv q
  cases q with
  | exn e1 e2 e3 =>
    rw [hcm] at e1
    cases e1
    exact ⟨rfl, hv, _, e2, e3⟩
theorem ge_xf {cs : List Str} (hcm : cm.ex = some (a, c, dd)) (hcs : ∀ q, q ∈ cs → XfC X.K (cm q) ∧ PySem.W.findIn X.K (.ref (cm q)) nm = some none) (hz : Zc (.ref (cm c)) (some dd) oe) (hfv : ∃ vs, oe.data = .fields vs) (he : PE (X.suite a ((a, oe) :: pn)) e (tVar i))
    (hb : attributeBase e nm X.env (eval e X.env) = eval e X.env := by rfl) : PE (X.suite a ((a, oe) :: pn)) (.Attribute e nm pos) (tE cm X.K W (mXf cs i nm)) := by
  refine ⟨fun pins s σ H Q I h => ?_⟩
  obtain ⟨F, S, e1, e2, R, h⟩ := h
  unfold mXf at h
  cases hs : S[i]? with
  | none => rw [hs] at h; exact h.elim
  | some sl =>
    rw [hs] at h
    cases sl with
    | exn c' fs =>
      dsimp only at h
      by_cases hz2 : cs.contains c' = true
      · rw [if_pos hz2] at h
        obtain ⟨rfl, hv, gs, hd, rg⟩ := slot_exn (c' := c) R hs (by rw [e1]; exact hcm)
        obtain ⟨k1, k2⟩ := hcs c' (by simpa using hz2)
        obtain ⟨d, hd2, hq⟩ := out_of (cm := cm) (K := X.K) R h
        obtain ⟨v, hv2, rv⟩ := rg.lookup hd2
        refine (pe_xf k1 k2 hz hfv he hb).run pins s σ H Q I ⟨_, hv, rfl, rfl, dd, gs, v, rfl, hid_le _ _ hd, hv2, hq v H (Same.refl _) ?_⟩
        rw [← e1, ← e2]
        exact rv
      · rw [if_neg hz2] at h; exact h.elim
    | _ => exact h.elim
/-! ### isinstance(e, ..) -/
/-- what a class of the program must say of its exceptions -/
structure XcC (K : PySem.W.Frag) (C : Addr) : Prop where
  cl : (PySem.W.clsIn K C).isSome = true
  ga : PySem.W.findIn K (.ref C) "__getattribute__" = some (some (.builtin "BaseException.__getattribute__"))
  gt : PySem.W.findIn K (.ref C) "__getattr__" = some none
  sb : PySem.W.subIn K (.ref C) (.type "BaseException") = some true
  ca : PySem.W.findIn K (.ref C) "__class__" = some (some (.builtin "object.__class__"))
  sp : PySem.W.specialIn K (.builtin "object.__class__") "__get__" = some (some (.builtin "getset_descriptor.__get__"))
  tk : PySem.W.takesIn K (.builtin "object.__class__") = some true
  mo : PySem.W.mroIn K C (.type "object") = some true
theorem Kn.xc {fa : List Fc} {fn : List DefM} {K : PySem.W.Frag} {mg : Str → Option Value} {x : Str} (c : Kn fa fn K mg) (i : Nat) (h : fa[i]? = some (.xc x) := by rfl) : XcC K (He.ga K x) := by
  have z := c.fact i h
  obtain ⟨c1, z⟩ := He.ba z
  obtain ⟨c2, z⟩ := He.ba z
  obtain ⟨c3, z⟩ := He.ba z
  obtain ⟨c4, z⟩ := He.ba z
  obtain ⟨c5, z⟩ := He.ba z
  obtain ⟨c6, z⟩ := He.ba z
  obtain ⟨c7, c8⟩ := He.ba z
  exact ⟨c1, He.eqO_ok c2, He.eqO_ok c3, of_decide_eq_true c4, He.eqO_ok c5, He.eqO_ok c6, of_decide_eq_true c7, of_decide_eq_true c8⟩
theorem inst_exn {P : Program} {w : World} {H : Hp} {h : Heap} {D : Addr} {gs : List (Str × V)} (hz : Zc (.ref D) (some dd) oe) (hfv : ∃ vs, oe.data = .fields vs) (hget : h.get? a = some oe) (hok : HOk P w H h) (hd : H dd = some (.xd gs)) : ∃ od, PySem.W.InstAt h a oe D (some od) := by
  obtain ⟨mA, ⟨o, es, ep, ho, _⟩, _⟩ := (hok dd _ hd : ∃ mA, h.Ns1 dd mA ∧ ∀ f, RelO (gs.lookup f) (mA f))
  obtain ⟨vs, hv⟩ := hfv
  obtain ⟨oc, od, oda, osl⟩ := oe
  obtain ⟨h1, h2⟩ := hz
  dsimp only at h1 h2 hv
  subst h1 h2 hv
  exact ⟨o, hget, rfl, rfl, ho⟩
/-- isinstance(e, T) -/
def rIsX (K : PySem.W.Frag) (D a dd : Addr) : List V → Hp → VK → Prop := fun xs H Q => ∃ (t : V) (tv : Value) (b : Bool) (gs : List (Str × V)), xs = [.ref a, t] ∧ (∀ u, RelV t u → u = tv) ∧ H dd = some (.xd gs) ∧ PySem.W.kitOne K (.ref D) tv = some b ∧ Q (.bl b) H
theorem call_isX {D : Addr} (C : XcC X.K D) (hz : Zc (.ref D) (some dd) oe) (hfv : ∃ vs, oe.data = .fields vs) : CallR (X.suite a ((a, oe) :: pn)) (.builtin "isinstance") (rIsX X.K D a dd) := by
  intro pins s σ H xs us Q I r h
  obtain ⟨t, tv, b, gs, rfl, htv, hd, hk, q⟩ := h
  cases r with
  | cons rx rr =>
    cases rr with
    | cons rt rr =>
      cases rr
      cases rx
      have ec := htv _ rt
      subst ec
      obtain ⟨hget, _⟩ := I.pin (a, oe) (List.mem_append.mpr (.inl List.mem_cons_self))
      obtain ⟨od, J⟩ := inst_exn hz hfv hget I.hok hd
      exact PySem.W.kia_one (PySem.W.kitx_exc C.cl C.ga C.gt C.sb C.ca C.sp C.tk C.mo) I.kIn J hk (fun z => nomatch z) fun tk => ⟨.bl b, H, I.kept (t' := tk) fun _ _ z => z, rfl, q⟩
def mIsX (tab : List (Str × Bool)) (i : Nat) : ME := fun S => match S[i]? with
  | some (.exn c _) => Rs.of ((tab.lookup c).map Dat.bl) S
  | _ => .bad
theorem ge_isX {tab : List (Str × Bool)} {b : Expr} {cvv : V} {u : Value} {apos : Pos} (hcm : cm.ex = some (a, c, dd)) (hm : X.mg "isinstance" = none) (hg : Gl X "isinstance") (htab : ∀ q, q ∈ tab → XcC X.K (cm q.1) ∧ PySem.W.kitOne X.K (.ref (cm q.1)) u = some q.2) (hz : Zc (.ref (cm c)) (some dd) oe) (hfv : ∃ vs, oe.data = .fields vs)
    (he : PE (X.suite a ((a, oe) :: pn)) e (tVar i)) (hT : PE (X.suite a ((a, oe) :: pn)) b (tC cvv)) (hu : ClsV cvv u) (hv : bootBuiltins ("isinstance" : Str) = some (.builtin "isinstance") := by decide +kernel)
    (h1 : starEach [e, b] X.env = (false, eval e X.env) :: starEach [b] X.env := by rfl) (h2 : starEach [b] X.env = (false, eval b X.env) :: starEach [] X.env := by rfl) (hpl : (backTo pos (starEach [b] X.env)).any (·.1) = false := by rfl) :
    PE (X.suite a ((a, oe) :: pn)) (.Call (.Name "isinstance" p) [e, b] [] pos) (tE cm X.K W (mIsX tab i)) := by
  refine ⟨fun pins s σ H Q I h => ?_⟩
  obtain ⟨F, S, e1, e2, R, h⟩ := h
  unfold mIsX at h
  cases hs : S[i]? with
  | none => rw [hs] at h; exact h.elim
  | some sl =>
    rw [hs] at h
    cases sl with
    | exn c' fs =>
      dsimp only at h
      obtain ⟨rfl, hvv, gs, hd, rg⟩ := slot_exn (c' := c) R hs (by rw [e1]; exact hcm)
      obtain ⟨d, hd2, hq⟩ := out_of (cm := cm) (K := X.K) R h
      cases ht : tab.lookup c' with
      | none => rw [ht] at hd2; cases hd2
      | some t =>
        rw [ht] at hd2
        cases hd2
        obtain ⟨k1, k2⟩ := htab _ (lookup_mem ht)
        refine (pe_callB (X := X.suite a ((a, oe) :: pn)) (call_isX k1 hz hfv) hg hm hv (pa_cons he (pa_cons hT pa_nil h2) h1) (by decide) (by decide) h1 hpl).run pins s σ H Q I ?_
        exact ⟨_, hvv, cvv, u, t, gs, rfl, fun u' r => hu.eq r, hid_le _ _ hd, k2, hq (.bl t) H (Same.refl _) (.bl t)⟩
    | _ => exact h.elim
/-- isinstance(e, (T, ..)) -/
def rIsXT (K : PySem.W.Frag) (D a dd : Addr) : List V → Hp → VK → Prop := fun xs H Q => ∃ (tp : Addr) (cs : List V) (us : List Value) (b : Bool) (gs : List (Str × V)), xs = [.ref a, .ref tp] ∧ H tp = some (.tup cs) ∧ Paired ClsV cs us ∧ H dd = some (.xd gs) ∧ PySem.W.kitAny K (.ref D) us = some b ∧ Q (.bl b) H
theorem call_isXT {D : Addr} (C : XcC X.K D) (hz : Zc (.ref D) (some dd) oe) (hfv : ∃ vs, oe.data = .fields vs) : CallR (X.suite a ((a, oe) :: pn)) (.builtin "isinstance") (rIsXT X.K D a dd) := by
  intro pins s σ H xs us Q I r h
  obtain ⟨tp, cs, ws, b, gs, rfl, hT, pc, hd, hk, q⟩ := h
  cases r with
  | cons rx rr =>
    cases rr with
    | cons rt rr =>
      cases rr
      cases rx
      cases rt
      obtain ⟨hget, _⟩ := I.pin (a, oe) (List.mem_append.mpr (.inl List.mem_cons_self))
      obtain ⟨od, J⟩ := inst_exn hz hfv hget I.hok hd
      obtain ⟨_, its, rv, o, h1, h2, n, h3⟩ := (show ObjOk X.prog X.w H s.heap tp (.tup cs) from I.hok tp _ hT)
      have ew := ClsV.all pc rv
      subst ew
      obtain ⟨oc, od', dt, sl⟩ := o
      dsimp only at h2 h3
      subst h2 h3
      exact PySem.W.kia_tup (PySem.W.kitx_exc C.cl C.ga C.gt C.sb C.ca C.sp C.tk C.mo) I.kIn J h1 hk (fun z => nomatch z) fun tk => ⟨.bl b, H, I.kept (t' := tk) fun _ _ z => z, rfl, q⟩
/-- classes, one after the other -/
def tCl : List V → TA
  | [] => tNil
  | v :: r => tCons (tC v) (tCl r)
theorem tCl_run {σ : L2.St} {H : Hp} : ∀ (vs : List V) {Q : List V → Hp → Prop}, Q vs H → tCl vs σ H Q
  | [], _, h => h
  | _ :: vs, _, h => tCl_run vs h
theorem ge_isXT {tab : List (Str × Bool)} {bs : List Expr} {cs : List V} {us : List Value} {apos : Pos} {ct} (hcm : cm.ex = some (a, c, dd)) (hm : X.mg "isinstance" = none) (hg : Gl X "isinstance") (htab : ∀ q, q ∈ tab → XcC X.K (cm q.1) ∧ PySem.W.kitAny X.K (.ref (cm q.1)) us = some q.2) (hz : Zc (.ref (cm c)) (some dd) oe) (hfv : ∃ vs, oe.data = .fields vs)
    (he : PE (X.suite a ((a, oe) :: pn)) e (tVar i)) (hT : PA (X.suite a ((a, oe) :: pn)) bs (tCl cs)) (hu : Paired ClsV cs us) (hlen : cs.length ≤ 1000) (hv : bootBuiltins ("isinstance" : Str) = some (.builtin "isinstance") := by decide +kernel)
    (h1 : starEach [e, .Tuple bs ct apos] X.env = (false, eval e X.env) :: starEach [.Tuple bs ct apos] X.env := by rfl) (h2 : starEach [.Tuple bs ct apos] X.env = (false, eval (.Tuple bs ct apos) X.env) :: starEach [] X.env := by rfl) (hpl : (backTo pos (starEach [.Tuple bs ct apos] X.env)).any (·.1) = false := by rfl) :
    PE (X.suite a ((a, oe) :: pn)) (.Call (.Name "isinstance" p) [e, .Tuple bs ct apos] [] pos) (tE cm X.K W (mIsX tab i)) := by
  refine ⟨fun pins s σ H Q I h => ?_⟩
  obtain ⟨F, S, e1, e2, R, h⟩ := h
  unfold mIsX at h
  cases hs : S[i]? with
  | none => rw [hs] at h; exact h.elim
  | some sl =>
    rw [hs] at h
    cases sl with
    | exn c' fs =>
      dsimp only at h
      obtain ⟨rfl, hvv, gs, hd, rg⟩ := slot_exn (c' := c) R hs (by rw [e1]; exact hcm)
      obtain ⟨d, hd2, hq⟩ := out_of (cm := cm) (K := X.K) R h
      cases ht : tab.lookup c' with
      | none => rw [ht] at hd2; cases hd2
      | some t =>
        rw [ht] at hd2
        cases hd2
        obtain ⟨k1, k2⟩ := htab _ (lookup_mem ht)
        refine (pe_callB (X := X.suite a ((a, oe) :: pn)) (call_isXT k1 hz hfv) hg hm hv (pa_cons he (pa_cons (pe_tup hT) pa_nil h2) h1) (by decide) (by decide) h1 hpl).run pins s σ H Q I ?_
        refine ⟨_, hvv, tCl_run cs ⟨by rw [sizeLine_eq]; omega, fun q hqn => ?_⟩⟩
        have hdd : H dd = some (.xd gs) := hid_le _ _ hd
        have sn := same_new (o := .tup cs) hqn
        exact ⟨q, cs, us, t, gs, rfl, upd_same, hu, sn _ _ hdd, k2, hq (.bl t) _ sn (.bl t)⟩
    | _ => exact h.elim
end
/-! ### isinstance(x, (T, ..)) of a value -/
section
variable {X : Cx} {cm : CM} {W : WX} {e : Expr} {ma : ME} {pos p apos : Pos}
theorem isi_tyT {kf : Value → Option Bool} {tab : List (String × Bool)} {ct : List (Str × Bool)} {G : Hp} {y : V} {d : Dat} {t : Bool} (ht : ∀ q, q ∈ tab → kf (.type q.1) = some q.2) (hc : ∀ q, q ∈ ct → ClsF X.K (cm q.1) ∧ kf (.ref (cm q.1)) = some q.2)
    (r : Rp cm X.K G y d) (h : isiT tab ct d = some (.bl t)) : ∃ ty, TyX X.K G y ty ∧ kf ty = some t := by
  have key : ∀ {T : String}, (tab.lookup T).map Dat.bl = some (.bl t) → kf (.type T) = some t := fun {T} h => by
    cases hl : tab.lookup T with
    | none => rw [hl] at h; cases h
    | some q =>
      rw [hl] at h
      have e : q = t := by injection h with h; injection h
      subst e
      exact ht (T, q) (mem_lookup hl)
  cases r with
  | non => exact ⟨_, .base .non, key h⟩
  | bl b => exact ⟨_, .base (.bl b), key h⟩
  | int i => exact ⟨_, .base (.int i), key h⟩
  | str z => exact ⟨_, .base (.str z), key h⟩
  | lst hh _ => exact ⟨_, .base (.lst hh), key h⟩
  | ro _ _ => cases h
  | tup hh _ =>
    refine ⟨.type "tuple", ?_, key h⟩
    rcases hh with (hh | ⟨ob, hh⟩) | ⟨ob, its, n, h1, h2, _⟩
    · exact .base (.tup hh)
    · exact .fTuple hh
    · exact .kTuple h1 h2
  | dic hh _ => exact ⟨_, .base (.dK hh), key h⟩
  | @ins a dx c gs fs hh _ =>
    have h' : (ct.lookup c).map Dat.bl = some (.bl t) := h
    cases hl : ct.lookup c with
    | none => rw [hl] at h'; cases h'
    | some q =>
      rw [hl] at h'
      have e : q = t := by injection h' with h'; injection h'
      subst e
      obtain ⟨c1, c2⟩ := hc (c, q) (mem_lookup hl)
      exact ⟨_, .base (.ins hh c1.cl c1.kc c1.sp c1.tk c1.mo), c2⟩
theorem ge_isiT {tab : List (String × Bool)} {cl : List (Str × Bool)} {bs : List Expr} {cs : List V} {us : List Value} {ct} (hm : X.mg "isinstance" = none) (hg : Gl X "isinstance") (he : PE X e (tE cm X.K W ma)) (hT : PA X bs (tCl cs)) (hu : Paired ClsV cs us) (hlen : cs.length ≤ 1000)
    (ht : ∀ q, q ∈ tab → PySem.W.kitAny X.K (.type q.1) us = some q.2) (hc : ∀ q, q ∈ cl → ClsF X.K (cm q.1) ∧ PySem.W.kitAny X.K (.ref (cm q.1)) us = some q.2) (hv : bootBuiltins ("isinstance" : Str) = some (.builtin "isinstance") := by decide +kernel)
    (h1 : starEach [e, .Tuple bs ct apos] X.env = (false, eval e X.env) :: starEach [.Tuple bs ct apos] X.env := by rfl) (h2 : starEach [.Tuple bs ct apos] X.env = (false, eval (.Tuple bs ct apos) X.env) :: starEach [] X.env := by rfl) (hpl : (backTo pos (starEach [.Tuple bs ct apos] X.env)).any (·.1) = false := by rfl) :
    PE X (.Call (.Name "isinstance" p) [e, .Tuple bs ct apos] [] pos) (tE cm X.K W (m1 (isiT tab cl) ma)) :=
  PE.weak (pe_callB call_isiT hg hm hv (pa_cons he (pa_cons (pe_tup hT) pa_nil h2) h1) (by decide) (by decide) h1 hpl) fun σ H Q ⟨F, S, e1, e2, R, h⟩ => tG_bind e1 e2 R h fun x H1 da S1 R1 s1 p1 h1 => by
    obtain ⟨d, hd, hq⟩ := out_of R1 h1
    obtain ⟨t, rfl⟩ := isi_bl hd
    refine tCl_run cs ⟨by rw [sizeLine_eq]; omega, fun q hqn => ?_⟩
    have sn := same_new (o := .tup cs) hqn
    obtain ⟨ty, t1, t2⟩ := isi_tyT (kf := fun v => PySem.W.kitAny X.K v us) ht hc p1 hd
    exact ⟨x, q, cs, ty, us, t, rfl, upd_same, hu, tyX_mono (hid_le.trans sn) t1, t2, hq _ _ sn (.bl t)⟩
end
end Mir

/-! MirZ: a, b = [], x; new lists by if; list(range(a, b)) -/
namespace Mir
open PySem PySem.Spec PyProof.Rows L2
section
variable {F : Fm} {S : Sg} {σ : L2.St} {H : Hp}
/-- a list that was hidden for a while becomes the def's own -/
theorem Rel.showLoc {p : Addr} {vs : List V} {ds : List Dat} {i : Nat} {S0 : Sg} {H1 : Hp} (R0 : Rel F S0 σ H1) (hp0 : H1 p = none) (R : Rel (F.hide p (.lst vs)) S σ H) (r : RpAll F.cm F.K (vis (F.hide p (.lst vs)) S σ H) vs ds) :
    Rel F (S.set i (.loc ds)) (σ.set i (some (.ref p))) H ∧ Same (vis (F.hide p (.lst vs)) S σ H) (vis F (S.set i (.loc ds)) (σ.set i (some (.ref p))) H) := by
  have hM : p ∈ (F.hide p (.lst vs)).M := List.mem_cons_self ..
  have hpl : p ∉ locs S σ := fun z => R.lom p z hM
  obtain ⟨n1, n2⟩ := locs_set_new (S := S) (σ := σ) (i := i) (ds := ds) R.nd hpl
  have hpM : p ∉ F.M := fun z => R0.fresh hp0 (List.mem_append_left _ z)
  have g : Same (vis (F.hide p (.lst vs)) S σ H) (vis F (S.set i (.loc ds)) (σ.set i (some (.ref p))) H) := hid_sub fun a ha => by
    rcases List.mem_append.mp ha with ha | ha
    · exact List.mem_append_left _ (List.mem_cons_of_mem _ ha)
    · rcases n2 a ha with y | y
      · rw [y]; exact List.mem_append_left _ hM
      · exact List.mem_append_right _ y
  refine ⟨⟨by rw [List.length_set, List.length_set]; exact R.len, fun k t w a b => ?_, n1, fun l hl => ?_, R.ond.sublist (owns_set_sub fun _ _ z => by cases z), R.and_, R0.ain, fun a h => R.liv a (List.mem_cons_of_mem _ h), fun l hl => ?_, fun q h => ⟨(R.tmp q (List.mem_cons_of_mem _ h)).1, (R0.tmp q h).2⟩, R.keep⟩, g⟩
  · rcases get_set_cases a with ⟨ek, rfl⟩ | ⟨ek, a⟩
    · rcases get_set_cases b with ⟨_, rfl⟩ | ⟨e', _⟩
      · exact .loc (R.tmp (p, .lst vs) (List.mem_cons_self ..)).1 (r.mono g)
      · exact absurd ek e'
    · rcases get_set_cases b with ⟨e', _⟩ | ⟨_, b⟩
      · exact absurd e' ek
      · have y := (R.sl k t w a b).mono g fun _ _ _ _ _ _ q => q
        cases y with
        | no => exact .no
        | dat r => exact .dat r
        | loc h r => exact .loc h r
        | own h r => exact .own h r
        | exn e0 q r => exact .exn e0 q r
  · rcases n2 l hl with y | y
    · rw [y]; exact R0.fresh0 hp0
    · exact R.new l y
  · rcases n2 l hl with y | y
    · rw [y]; exact hpM
    · exact fun z => R.lom l y (List.mem_cons_of_mem _ z)
/-- a raised exception while something is hidden -/
theorem outX_hide {W : WX} {G G' : Hp} {p : Addr} {o : HO} {S0 S' : Sg} {H1 : Hp} {c : Str} {fs : List (Str × Dat)} (R0 : Rel F S0 σ H1) (e : Same G G') (h : outX F W σ G c fs S') : outX (F.hide p o) W σ G' c fs S' := fun da gs H R s hd r => by
  obtain ⟨R', g⟩ := Rel.unhide R0 R
  exact h da gs H R' ((e.trans s).trans g) (g _ _ hd) (r.mono g)
end
section
variable {X : Cx} {cm : CM} {W : WX} {a b c : Expr} {ma mb : ME} {ca : MT} {mL mL2 : Sg → Rs (List Dat)} {pos p p2 : Pos}
/-- x, y = new list, value -/
def mParF (i j : Nat) (mL : Sg → Rs (List Dat)) (mb : ME) : MS := fun S => (mL S).bind fun ds S1 => (mb S1).bind fun d S2 => .ok .nx ((S2.set i (.loc ds)).set j (.dat d))
theorem gs_parF {i j : Nat} {x y : Str} {px py pt : Pos} {kt k2 : Nat} {pt2 : Pos} (hc : X.calm = true) (hN : X.N.Nodup) (hi : X.N[i]? = some x) (hj : X.N[j]? = some y) (hij : i ≠ j)
    (hx : X.env.scope.names.lookup x = some .local) (hy : X.env.scope.names.lookup y = some .local) (hl : PE X a (tL cm X.K W mL)) (hb : PE X b (tE cm X.K W mb))
    (hw : swappedStores [.Tuple [.Name x px, .Name y py] kt pt] (.Tuple [a, b] k2 pt2) X.env = pure (some [x, y])) (hs : swapsWithSole [.Tuple [.Name x px, .Name y py] kt pt] (.Tuple [a, b] k2 pt2) pos.line X.env = pure false := by rfl)
    (h1 : starEach [a, b] X.env = (false, eval a X.env) :: starEach [b] X.env := by rfl) (h2 : starEach [b] X.env = (false, eval b X.env) :: starEach [] X.env := by rfl) :
    PS X (.Assign [.Tuple [.Name x px, .Name y py] kt pt] (.Tuple [a, b] k2 pt2) pos) (tS cm X.K W (mParF i j mL mb)) :=
  PS.weak (ps_par hc hN hi hj hij hx hy (pa_cons hl (pa_cons hb pa_nil h2) h1) hw hs) fun D σ H ⟨F, S, e1, e2, R, h⟩ => by
    refine ⟨F, S, e1, e2, R, ?_⟩
    unfold mParF at h
    cases hm : mL S with
    | bad => rw [hm] at h; exact h
    | exc c fs S1 => rw [hm] at h; exact h σ
    | ok ds S1 =>
      rw [hm, Rs.bind_ok] at h
      intro l xs H1 R1 s1 hl rx
      obtain ⟨Rh, sh⟩ := R1.hide (o := .lst xs) hl
      refine ⟨F.hide l (.lst xs), S1, e1, e2, Rh, ?_⟩
      cases hm2 : mb S1 with
      | bad => rw [hm2] at h; exact h
      | exc c fs S2 =>
        rw [hm2] at h
        exact outX_hide R1 (s1.trans sh) (h σ)
      | ok d S2 =>
        rw [hm2, Rs.bind_ok] at h
        intro v H2 R2 s2 r2
        obtain ⟨R3, t3⟩ := Rel.showLoc (i := i) (ds := ds) R1 hl R2 (by exact (rx.mono sh).mono s2)
        obtain ⟨R4, t4⟩ := R3.dat (i := j) (v := v) (d := d) (by rw [e1, e2]; exact r2.mono t3)
        exact ⟨_, _, rfl, h _ H2 R4 ((((s1.trans sh).trans s2).trans t3).trans t4)⟩
/-- x, y = value, new list -/
def mParG (i j : Nat) (ma : ME) (mL : Sg → Rs (List Dat)) : MS := fun S => (ma S).bind fun d S1 => (mL S1).bind fun ds S2 => .ok .nx ((S2.set i (.dat d)).set j (.loc ds))
theorem gs_parG {i j : Nat} {x y : Str} {px py pt : Pos} {kt k2 : Nat} {pt2 : Pos} (hc : X.calm = true) (hN : X.N.Nodup) (hi : X.N[i]? = some x) (hj : X.N[j]? = some y) (hij : i ≠ j)
    (hx : X.env.scope.names.lookup x = some .local) (hy : X.env.scope.names.lookup y = some .local) (ha : PE X a (tE cm X.K W ma)) (hl : PE X b (tL cm X.K W mL))
    (hw : swappedStores [.Tuple [.Name x px, .Name y py] kt pt] (.Tuple [a, b] k2 pt2) X.env = pure (some [x, y])) (hs : swapsWithSole [.Tuple [.Name x px, .Name y py] kt pt] (.Tuple [a, b] k2 pt2) pos.line X.env = pure false := by rfl)
    (h1 : starEach [a, b] X.env = (false, eval a X.env) :: starEach [b] X.env := by rfl) (h2 : starEach [b] X.env = (false, eval b X.env) :: starEach [] X.env := by rfl) :
    PS X (.Assign [.Tuple [.Name x px, .Name y py] kt pt] (.Tuple [a, b] k2 pt2) pos) (tS cm X.K W (mParG i j ma mL)) :=
  PS.weak (ps_par hc hN hi hj hij hx hy (pa_cons ha (pa_cons hl pa_nil h2) h1) hw hs) fun D σ H ⟨F, S, e1, e2, R, h⟩ => tG_bindS e1 e2 R h fun x H1 d S1 R1 s1 p1 h1 => by
    refine ⟨F, S1, e1, e2, R1, ?_⟩
    cases hm : mL S1 with
    | bad => rw [hm] at h1; exact h1
    | exc c fs S2 => rw [hm] at h1; exact h1 σ
    | ok ds S2 =>
      rw [hm, Rs.bind_ok] at h1
      intro l xs H2 R2 s2 hl rx
      obtain ⟨R3, t3⟩ := R2.dat (i := i) (v := x) (d := d) (by rw [e1, e2]; exact p1.mono s2)
      obtain ⟨R4, t4⟩ := R3.newLoc (i := j) (ds := ds) hl (rx.mono t3)
      exact ⟨_, _, rfl, h1 _ _ R4 ((s2.trans t3).trans t4)⟩
/-- new list if c else new list -/
def lIf (ca : MT) (x y : Sg → Rs (List Dat)) : Sg → Rs (List Dat) := fun S => (ca S).bind fun b S1 => if b then x S1 else y S1
theorem gl_if (hc : PT X c (tT cm X.K W ca)) (ha : PE X a (tL cm X.K W mL)) (hb : PE X b (tL cm X.K W mL2)) : PE X (.IfExp c a b pos) (tL cm X.K W (lIf ca mL mL2)) :=
  PE.weak (pe_ifExp hc ha hb) fun σ H Q ⟨F, S, e1, e2, R, h⟩ => tG_bindL e1 e2 R h fun x H1 da S1 R1 s1 p1 h1 => by
    cases p1
    cases x with
    | true => exact ⟨F, S1, e1, e2, R1, h1⟩
    | false => exact ⟨F, S1, e1, e2, R1, h1⟩
def lRg2 (m n : ME) : Sg → Rs (List Dat) := fun S => (m S).bind fun d S1 => (n S1).bind fun e S2 => match d, e with
  | .int i, .int j => if -(2 ^ 62) ≤ i ∧ i < 2 ^ 62 ∧ -(2 ^ 62) ≤ j ∧ j < 2 ^ 62 ∧ j - i < 1000000 then .ok (rgD i j) S2 else .bad
  | _, _ => .bad
theorem gl_range2 {rp : Pos} (hgl : Gl X "list") (hml : X.mg "list" = none) (hg : Gl X "range") (hm : X.mg "range" = none) (ha : PE X a (tE cm X.K W ma)) (hb : PE X b (tE cm X.K W mb)) (na : starEach [a, b] X.env = (false, eval a X.env) :: starEach [b] X.env := by rfl)
    (nb : starEach [b] X.env = (false, eval b X.env) :: starEach [] X.env := by rfl) (hp : (backTo p2 (starEach [b] X.env)).any (·.1) = false := by rfl) (hc : X.calm = true := by rfl)
    (na2 : starEach [Expr.Call (.Name "range" rp) [a, b] [] p2] X.env = (false, eval (Expr.Call (.Name "range" rp) [a, b] [] p2) X.env) :: starEach [] X.env := by rfl) : PE X (.Call (.Name "list" p) [.Call (.Name "range" rp) [a, b] [] p2] [] pos) (tL cm X.K W (lRg2 ma mb)) :=
  PE.weak (pe_listRg hc hgl hml (prg_2 hg hm ha hb na nb hp) na2) fun σ H Q ⟨F, S, e1, e2, R, h⟩ => tG_bindL e1 e2 R h fun x H1 d S1 R1 s1 p1 h1 => tG_bindL e1 e2 R1 h1 fun y H2 d' S2 R2 s2 p2 h2 => by
    cases p1 with
    | int i =>
      cases p2 with
      | int j =>
        dsimp only at h2
        by_cases hz : -(2 ^ 62) ≤ i ∧ i < 2 ^ 62 ∧ -(2 ^ 62) ≤ j ∧ j < 2 ^ 62 ∧ j - i < 1000000
        · rw [if_pos hz] at h2
          refine ⟨i, j, rfl, rfl, ⟨by omega, by omega, by omega, by omega, by omega⟩, fun q hq => ?_⟩
          exact h2 q _ H2 R2 (Same.refl _) hq (rg_rp i j)
        · rw [if_neg hz] at h2; exact h2.elim
      | _ => exact False.elim h2
    | _ => exact False.elim h2
end
end Mir

/-! MirZA: for i, x in enumerate(reversed(a list), start=k) -/
namespace Mir
open PySem PySem.Spec PyProof.Rows L2
section
variable {prog : Program} {w : World} {A : Around} {E : Value → Shared → Prop} {s : Shared}
theorem rv_item {it l : Addr} {j : Nat} {us : Array Value} {u : Value} {Q : Value → Shared → Prop} (hi : s.heap.IsRevIter it l (j : Int)) (hL : s.heap.IsList l us) (hu : us[j]? = some u)
    (hQ : ∀ h', h'.IsRevIter it l ((j : Int) - 1) → Heap.SameBut it s.heap h' → Q u { s with heap := h' }) : wpAny (model prog w) A (Builtin.SmallTypes.nextOf (.ref it)) Q E s := by
  obtain ⟨o, h1, h2, h3⟩ := id hi; obtain ⟨ol, g1, _, nl, g2⟩ := hL
  unfold Builtin.SmallTypes.nextOf
  refine wpAny_bind (wpAny_callSpecial?_slot (name := Str.ofString "__next__") hi.typeIs F.slot_lri_next (wpAny_call_entry F.slot_lri_next hi.typeIs F.entry_lri_next ?_ (F.args_lri_next_1 _)))
  unfold Builtin.«list_reverseiterator.__next__»; refine wpAny_bind (wpAny_of_eq (a := (Value.ref it, [])) rfl ?_)
  try dsimp only
  refine wpAny_bind (wpAny_field h1 h3 (x := rawInt (j : Int)) rfl ?_)
  show wpAny _ _ (if (j : Int) < 0 then _ else _) _ _ s; rw [if_neg (by omega)]
  show wpAny _ _ (field (.ref it) 0 >>= _) _ _ s; refine wpAny_bind (wpAny_field h1 h3 (x := .ref l) rfl ?_)
  show wpAny _ _ (seqItems? (.ref l) >>= _) _ _ s; refine wpAny_bind (wpAny_seqItems g1 g2 ?_)
  simp only [Int.toNat_natCast, hu]
  refine wpAny_bind (wpAny_setField h1 h3 (by simp) ?_)
  first
    | refine wpAny_pure ⟨u, rfl, wpAny_pure (hQ _ ?_ (Heap.SameBut.update ..))⟩
    | refine wpAny_bind (wpAny_pure (wpAny_pure ⟨u, rfl, wpAny_pure (hQ _ ?_ (Heap.SameBut.update ..))⟩))
  exact ⟨_, Heap.get?_update_self _ h1 (Obj.isFreed_of_fields (Obj.data_mapFields h3 _)), (Obj.cls_mapFields ..).trans h2, by rw [Obj.data_mapFields h3]; simp⟩
theorem rv_end {it l : Addr} {Q : Value → Shared → Prop} (hh : A.handled = none) (hi : s.heap.IsRevIter it l (-1))
    (hE : ∀ h' e, Heap.ExtBut it s.heap h' → (∃ o, h'.get? e = some o ∧ o.cls = .type "StopIteration") → E (.ref e) { s with heap := h' }) : wpAny (model prog w) A (Builtin.SmallTypes.nextOf (.ref it)) Q E s := by
  obtain ⟨o, h1, h2, h3⟩ := id hi
  unfold Builtin.SmallTypes.nextOf
  refine wpAny_bind (wpAny_callSpecial?_slot (name := Str.ofString "__next__") hi.typeIs F.slot_lri_next (wpAny_call_entry F.slot_lri_next hi.typeIs F.entry_lri_next ?_ (F.args_lri_next_1 _)))
  unfold Builtin.«list_reverseiterator.__next__»; refine wpAny_bind (wpAny_of_eq (a := (Value.ref it, [])) rfl ?_)
  try dsimp only
  refine wpAny_bind (wpAny_field h1 h3 (x := rawInt (-1)) rfl ?_)
  show wpAny _ _ (if (-1 : Int) < 0 then _ else _) _ _ s; rw [if_pos (by decide)]
  refine wpAny_bind (wpAny_rule ?_)
  first
    | (show wpAny _ _ (newExc (.type "StopIteration") [] >>= _) _ _ _; refine wpAny_bind ?_)
    | (refine wpAny_bind ?_; show wpAny _ _ (newExc (.type "StopIteration") [] >>= _) _ _ _; refine wpAny_bind ?_)
  simp only [newExc, newTuple]; refine wpAny_bind (wpAny_newObj_type ?_ (by size_fits))
  refine wpAny_bind (m := firstArgMember _ _) (wpAny_of_eq (a := Value.none) (by first | rfl | (simp only [firstArgMember]; rfl)) (wpAny_newObj_type ?_ (by size_fits)))
  simp only [raiseNew]; refine wpAny_bind (wpAny_handled ?_)
  first | rw [show A.in1.handled = none from hh] | rw [hh]
  refine wpAny_bind (wpAny_pure (wpAny_throw (hE _ _ (((Heap.ExtBut.refl _ _).push _).push _) ⟨_, Heap.get?_push_size _ rfl, rfl⟩)))
/-- a reverse iterator draws the items from the end -/
theorem rvDraws (hh : A.handled = none) (it l : Addr) (hne : l ≠ it) (us : Array Value) :
    Draws prog w A it [it, l] us.size (fun i v => us[us.size - 1 - i]? = some v) (fun i h => i ≤ us.size ∧ h.IsRevIter it l ((us.size : Int) - 1 - (i : Nat)) ∧ h.IsList l us) where
  live := fun i h st => by
    obtain ⟨_, ⟨o, e, _⟩, _⟩ := st
    exact ⟨o, e⟩
  frame := fun i h h' st k => ⟨st.1, st.2.1.at fun o e => k it (by simp) o e, st.2.2.at fun o e => k l (by simp) o e⟩
  item := fun i s Q E hi st hQ => by
    obtain ⟨_, a, b⟩ := st
    have e1 : (us.size : Int) - 1 - ((i : Nat) : Int) = ((us.size - 1 - i : Nat) : Int) := by omega
    have hx : us.size - 1 - i < us.size := by omega
    rw [e1] at a
    refine rv_item a b (u := us[us.size - 1 - i]) (by simp [hx]) fun h' a' sb => ?_
    refine hQ _ h' s.toks (by simp [hx]) ⟨hi, ?_, b.at fun o e => (sb.2 l hne).trans e⟩ sb
    have e2 : ((us.size - 1 - i : Nat) : Int) - 1 = (us.size : Int) - 1 - ((i + 1 : Nat) : Int) := by omega
    rw [← e2]; exact a'
  done := fun s Q E st hE => by
    obtain ⟨_, a, b⟩ := st
    have e1 : (us.size : Int) - 1 - ((us.size : Nat) : Int) = -1 := by omega
    rw [e1] at a
    exact rv_end hh a hE
theorem meets_enumSelf {it l : Addr} {i : Int} (k : Int) (t : Tok) (hfit : Builtin.SmallTypes.fitsIndex k = true) :
    Meets (Builtin.«enumerate.__new__» ⟨[.type "enumerate", .ref it], [(Str.ofString "start", .int k t)]⟩) (fun _ R s => s.heap.IsRevIter it l i ∧
      R (.ok (.ret (.ref s.heap.objs.size))) { s with heap := s.heap.push { cls := .type "enumerate", data := .fields #[.none, .bool false, .ref it, rawInt k, .none, .none] } }) :=
  .of_wp fun prog w A R s h => by
    obtain ⟨hp, gs, d, tk, os⟩ := s; obtain ⟨h1, h⟩ := h
    have hsub := sub_enumerate; have hnf : (!Builtin.SmallTypes.fitsIndex k) = false := by rw [hfit]; rfl
    have q1 : ∀ {A' : Around} {E : Value → Shared → Prop} {Q : Value → Shared → Prop}, Q (.ref it) ⟨hp, gs, d, tk, os⟩ → wpAny (model prog w) A' (pyIter (.ref it)) Q E ⟨hp, gs, d, tk, os⟩ := fun q => wpAny_pyIter_revIter h1 q
    have b1 : (Str.ofString "start" == ("start" : Str)) = true := by decide +kernel
    have b2 : (Str.ofString "start" != ("start" : Str)) = false := by decide +kernel
    have b3 : (Str.ofString "start" != ("iterable" : Str)) = true := by decide +kernel
    have b4 : (("start" : Str) == Str.ofString "start") = true := by decide +kernel
    have b5 : (("iterable" : Str) == Str.ofString "start") = false := by decide +kernel
    wp_walk using q1
    refine wpAny_stack_any fun st => wpAny_pure ?_
    split
    · rename_i c _ _ _ _ _
      cases (c == Value.type "enumerate") <;> (wp_walk using q1; exact ⟨_, rfl, h⟩)
    · wp_walk using q1
      exact ⟨_, rfl, h⟩
theorem enum_self {it l : Addr} {i k : Int} {t : Tok} {Q : Value → Shared → Prop} (hi : s.heap.IsRevIter it l i) (hk0 : -(2 ^ 63) ≤ k) (hk1 : k < 2 ^ 63)
    (h : ∀ h', IsEnum h' s.heap.objs.size it k .none → (∀ b o, s.heap.get? b = some o → h'.get? b = some o) → Q (.ref s.heap.objs.size) { s with heap := h' }) :
    wpAny (model prog w) A (call (.type "enumerate") [.ref it] [(Str.ofString "start", .int k t)]) Q E s := by
  refine callType_newKw F.called_enumerate (by decide) (F.typeCall_enumerate_start _ _) (F.newCall_enumerate_start _ _) (fun obj => F.args_object_init_start obj _ _) F.entry_enumerate_new (meets_enumSelf (l := l) (i := i) k t (fits_start hk0 hk1)) ⟨hi, ?_⟩
  have he : IsEnum (s.heap.push { cls := .type "enumerate", data := .fields #[.none, .bool false, .ref it, rawInt k, .none, .none] }) s.heap.objs.size it k .none := Heap.get?_push_size _ rfl
  exact ⟨⟨_, he, rfl⟩, h _ he fun b o x => Heap.get?_push_of_some _ x⟩
/-- a call of a built-in class with keywords -/
theorem callWith_tyK {M : Model} {pos : Pos} {env : Env} {T : String} {e : Expr} {kws : List Keyword} {Q : Value → Shared → Prop}
    (h : wpAny M A (spliced (backTo pos (starEach [e] env))) (fun vs s₁ => wpAny M A (evalAll ((backToKw pos (keywordEach kws env)).map (·.2)))
      (fun kvs s₂ => wpAny M A (call (.type T) vs (((backToKw pos (keywordEach kws env)).filterMap (·.1)).zip kvs)) Q E s₂) E s₁) E s)
    (he : backTo pos (starEach [e] env) = (false, eval e env) :: backTo pos (starEach [] env) := by rfl) (hp : (backTo pos (starEach [e] env)).any (·.1) = false := by rfl)
    (hall : (backToKw pos (keywordEach kws env)).all (·.1.isSome) = true := by rfl) (hkw : (backToKw pos (keywordEach kws env)).any (·.1.isNone) = false := by rfl) :
    wpAny M A (callWith pos (.type T) [] (backTo pos (starEach [e] env)) (backToKw pos (keywordEach kws env))) Q E s := by
  have z : wpAny M A (evalArgs (.type T) true (backTo pos (starEach [e] env)) (backToKw pos (keywordEach kws env))) (fun a s₁ => wpAny M A (call (.type T) ([] ++ a.pos) a.kw) Q E s₁) E s := by
    rw [he] at h ⊢
    exact evalArgs_kwB hall h
  unfold callWith
  refine wpAny_bind (wpAny_holding (wpAny_mono z (fun a s₁ y => wpAny_bind (wpAny_standAt ?_)) fun _ _ x => x))
  simp only [hp, hkw, Bool.or_false]
  exact wpAny_bind (wpAny_pure (wpAny_bind (wpAny_mono y (fun r s₂ hr => wpAny_bind (wpAny_holding (wpAny_point (wpAny_pure hr)))) fun _ _ x => x)))
end
end Mir

/-! MirZB: lists of the caller's own that a def only looks at; defs that give new lists -/
namespace Mir
open PySem PySem.Spec PyProof.Rows L2
mutual
/-- no list, no object -/
def flat : Dat → Bool
  | .non => true
  | .bl _ => true
  | .int _ => true
  | .str _ => true
  | .tup ds => flats ds
  | .lst _ => false
  | .ro _ => false
  | .ins _ _ => false
  | .dic _ => false
def flats : List Dat → Bool
  | [] => true
  | d :: ds => flat d && flats ds
end
def flatF : List (Str × Dat) → Bool
  | [] => true
  | (_, d) :: r => flat d && flatF r
def flatO : List Own → Bool
  | [] => true
  | .lst ds :: r => flats ds && flatO r
  | .obj _ fs :: r => flatF fs && flatO r
section
variable {cm : CM} {K : PySem.W.Frag} {M M' : List Addr} {H : Hp}
theorem sqT_flat (hl : ∀ a, a ∈ M → a ∈ M' ∨ ∃ us, H a = some (.lst us)) {a : Addr} {xs : List V} (h : SqT K (hid M' H) a xs) : SqT K (hid M H) a xs := by
  have key : ∀ o, hid M' H a = some o → (∀ us, o ≠ .lst us) → hid M H a = some o := fun o e n => by
    by_cases ha : a ∈ M
    · rcases hl a ha with z | ⟨us, z⟩
      · rw [hid_in z] at e; cases e
      · by_cases hb : a ∈ M'
        · rw [hid_in hb] at e; cases e
        · rw [hid_out hb, z] at e; cases e; exact absurd rfl (n us)
    · rw [hid_out ha]
      by_cases hb : a ∈ M'
      · rw [hid_in hb] at e; cases e
      · rw [hid_out hb] at e; exact e
  rcases h with (h | ⟨o, h⟩) | h
  · exact .inl (.inl (key _ h fun us z => by cases z))
  · exact .inl (.inr ⟨o, key _ h fun us z => by cases z⟩)
  · exact .inr h
mutual
theorem flt_rp (hl : ∀ a, a ∈ M → a ∈ M' ∨ ∃ us, H a = some (.lst us)) : ∀ {v : V} {d : Dat}, Rp cm K (hid M' H) v d → flat d = true → Rp cm K (hid M H) v d
  | _, _, .non, _ => .non
  | _, _, .bl b, _ => .bl b
  | _, _, .int i, _ => .int i
  | _, _, .str x, _ => .str x
  | _, _, .tup s r, h => .tup (sqT_flat hl s) (flts_rp hl r (by unfold flat at h; exact h))
  | _, _, .lst s r, h => by unfold flat at h; cases h
  | _, _, .ro s r, h => by unfold flat at h; cases h
  | _, _, .ins s r, h => by unfold flat at h; cases h
  | _, _, .dic s r, h => by unfold flat at h; cases h
theorem flts_rp (hl : ∀ a, a ∈ M → a ∈ M' ∨ ∃ us, H a = some (.lst us)) : ∀ {vs : List V} {ds : List Dat}, RpAll cm K (hid M' H) vs ds → flats ds = true → RpAll cm K (hid M H) vs ds
  | _, _, .nil, _ => .nil
  | _, _, .cons a b, h => by
    unfold flats at h
    rw [Bool.and_eq_true] at h
    exact .cons (flt_rp hl a h.1) (flts_rp hl b h.2)
end
theorem flatF_rp (hl : ∀ a, a ∈ M → a ∈ M' ∨ ∃ us, H a = some (.lst us)) : ∀ {vs : List (Str × V)} {ds : List (Str × Dat)}, RpF cm K (hid M' H) vs ds → flatF ds = true → RpF cm K (hid M H) vs ds
  | _, _, .nil, _ => .nil
  | _, _, .cons a b, h => by
    unfold flatF at h
    rw [Bool.and_eq_true] at h
    exact .cons (flt_rp hl a h.1) (flatF_rp hl b h.2)
theorem flatO_rp (hl : ∀ a, a ∈ M → a ∈ M' ∨ ∃ us, H a = some (.lst us)) : ∀ {ls : List Addr} {os : List Own}, OutsOk cm K (hid M' H) H ls os → flatO os = true → OutsOk cm K (hid M H) H ls os
  | _, _, .nil, _ => .nil
  | _, _, .cons (.lst e r) b, h => by
    unfold flatO at h
    rw [Bool.and_eq_true] at h
    exact .cons (.lst e (flts_rp hl r h.1)) (flatO_rp hl b h.2)
  | _, _, .cons (.obj e r) b, h => by
    unfold flatO at h
    rw [Bool.and_eq_true] at h
    exact .cons (.obj e (flatF_rp hl r h.1)) (flatO_rp hl b h.2)
end
def insAt (o : Own) : Nat → List Own → List Own
  | 0, os => o :: os
  | j + 1, [] => [o]
  | j + 1, x :: os => x :: insAt o j os
theorem outs_ins {cm : CM} {K : PySem.W.Frag} {G H : Hp} {l : Addr} {o : Own} (ok : OwnOk cm K G H l o) : ∀ {ls : List Addr} {j : Nat} {os : List Own}, ls[j]? = some l → OutsOk cm K G H (ls.eraseIdx j) os → OutsOk cm K G H ls (insAt o j os)
  | [], j, os, h, _ => by simp at h
  | x :: ls, 0, os, h, r => by simp at h; subst h; exact .cons ok r
  | x :: ls, j + 1, [], h, r => by cases r
  | x :: ls, j + 1, y :: os, h, r => by
    cases r with
    | cons a b => exact .cons a (outs_ins ok (by simpa using h) b)
theorem args_see {cm : CM} {K : PySem.W.Frag} {G H : Hp} {ds : List Dat} : ∀ {vs : List V} {as : List FA} {ls : List Addr} {n : Nat}, ArgsOk cm K G H vs as ls → as[n]? = some (.own (.lst ds)) →
    ∃ l us, ls[nOwn (as.take n)]? = some l ∧ H l = some (.lst us) ∧ RpAll cm K G us ds ∧ ∀ G', Same G G' → G' l = some (.lst us) → ArgsOk cm K G' H vs (as.set n (.dat (.lst ds))) (ls.eraseIdx (nOwn (as.take n)))
  | _, _, _, n, .nil, h => by simp at h
  | _, _, _, 0, .dat a b, h => by simp at h
  | _, _, _, n + 1, .dat (as := as) a b, h => by
    obtain ⟨l, us, c1, c2, c3, c4⟩ := args_see b (n := n) (by simpa using h)
    exact ⟨l, us, c1, c2, c3, fun G' s e => .dat (a.mono s) (c4 G' s e)⟩
  | _, _, _, 0, .own (l := l) ok b, h => by
    simp at h
    subst h
    cases ok with
    | @lst us _ e r =>
      exact ⟨l, us, rfl, e, r, fun G' s e' => .dat (.lst e' (r.mono s)) (args_mono s b)⟩
  | _, _, _, n + 1, .own (l := l) ok b, h => by
    obtain ⟨l', us, c1, c2, c3, c4⟩ := args_see b (n := n) (by simpa using h)
    exact ⟨l', us, c1, c2, c3, fun G' s e => .own (ok.mono s fun _ q => q) (c4 G' s e)⟩
where args_mono {cm : CM} {K : PySem.W.Frag} {G G' H : Hp} (s : Same G G') : ∀ {vs : List V} {as : List FA} {ls : List Addr}, ArgsOk cm K G H vs as ls → ArgsOk cm K G' H vs as ls
  | _, _, _, .nil => .nil
  | _, _, _, .dat a b => .dat (a.mono s) (args_mono s b)
  | _, _, _, .own a b => .own (a.mono s fun _ q => q) (args_mono s b)
def seeR (j : Nat) (o : Own) : RF → RF
  | .ok d outs => if flat d && flatO outs then .ok d (insAt o j outs) else .bad
  | .exc c es outs => if flatF es && flatO outs then .exc c es (insAt o j outs) else .bad
  | .bad => .bad
/-- the n-th argument, a list of the caller's own, is only looked at -/
def see1 (n : Nat) (Fn : List FA → RF) (as : List FA) : RF := match as[n]? with
  | some (.own (.lst ds)) => seeR (nOwn (as.take n)) (.lst ds) (Fn (as.set n (.dat (.lst ds))))
  | _ => Fn as
section
variable {cm : CM} {K : PySem.W.Frag} {M : List Addr} {H : Hp} {ls : List Addr} {j : Nat} {l : Addr} {us : List V} {ds : List Dat}
/-- what is known when one lent list is shown -/
structure Shown (cm : CM) (K : PySem.W.Frag) (M : List Addr) (H : Hp) (ls : List Addr) (j : Nat) (l : Addr) (us : List V) (ds : List Dat) : Prop where
  at_ : ls[j]? = some l
  hl : H l = some (.lst us)
  rp : RpAll cm K (hid M H) us ds
  lv : live M H
  sub : ∀ l, l ∈ ls → l ∈ M
  nd : ls.Nodup
theorem Shown.out (z : Shown cm K M H ls j l us ds) : ∀ x, x ∈ ls.eraseIdx j → x ∈ ls ∧ x ≠ l := fun x hx => by
  refine ⟨List.mem_of_mem_eraseIdx hx, fun e => ?_⟩
  subst e
  obtain ⟨i, hi, e⟩ := List.getElem_of_mem hx
  have h2 : (ls.eraseIdx j)[i]? = some x := by rw [List.getElem?_eq_getElem hi, e]
  rw [List.getElem?_eraseIdx] at h2
  split at h2
  · exact absurd (nd_ix z.nd h2 z.at_) (by omega)
  · exact absurd (nd_ix z.nd h2 z.at_) (by omega)
theorem Shown.keep (z : Shown cm K M H ls j l us ds) {H' : Hp} (kp : ∀ a o, H a = some o → a ∉ ls.eraseIdx j → H' a = some o) :
    H' l = some (.lst us) ∧ (∀ a o, H a = some o → a ∉ ls → H' a = some o) ∧ (∀ a, a ∈ M → a ∈ M.filter (· ≠ l) ∨ ∃ us, H' a = some (.lst us)) ∧ OwnOk cm K (hid M H') H' l (.lst ds) := by
  have h1 : H' l = some (.lst us) := kp l _ z.hl fun q => (z.out l q).2 rfl
  have h2 : ∀ a o, H a = some o → a ∉ ls → H' a = some o := fun a o e n => kp a o e fun q => n (z.out a q).1
  refine ⟨h1, h2, fun a ha => ?_, .lst h1 (z.rp.mono (hid_same fun a o n e => h2 a o e fun q => n (z.sub a q)))⟩
  by_cases e : a = l
  · exact .inr ⟨us, by rw [e]; exact h1⟩
  · exact .inl (List.mem_filter.mpr ⟨ha, by simp [e]⟩)
theorem see_sp {n : Nat} {Fn : List FA → RF} {vs : List V} {Q : VK} {E : XK} (h : spF cm K (see1 n Fn) vs H Q E) : spF cm K Fn vs H Q E := by
  obtain ⟨M, as, ls, lv, lm, ln, ao, of⟩ := h
  unfold see1 at of
  split at of
  · rename_i ds hn
    obtain ⟨l, us, c1, c2, c3, c4⟩ := args_see ao hn
    have z : Shown cm K M H ls _ l us ds := ⟨c1, c2, c3, lv, lm, ln⟩
    have sM : Same (hid M H) (hid (M.filter (· ≠ l)) H) := hid_sub fun a ha => (List.mem_filter.mp ha).1
    have hlv : hid (M.filter (· ≠ l)) H l = some (.lst us) := by
      rw [hid_out, c2]
      intro q
      simpa using (List.mem_filter.mp q).2
    refine ⟨M.filter (· ≠ l), _, _, fun m hm => lv m (List.mem_filter.mp hm).1, fun x hx => List.mem_filter.mpr ⟨lm x (z.out x hx).1, by simpa using (z.out x hx).2⟩, ln.sublist (List.eraseIdx_sublist ..), c4 _ sM hlv, ?_⟩
    cases hF : Fn (as.set n (.dat (.lst ds))) with
    | bad => rw [hF] at of; exact of
    | ok d outs =>
      rw [hF] at of
      intro v H' kp oo rv
      obtain ⟨k1, k2, k3, k4⟩ := z.keep kp
      unfold seeR at of
      dsimp only at of
      split at of
      · rename_i hf
        rw [Bool.and_eq_true] at hf
        exact of v H' k2 (outs_ins k4 c1 (flatO_rp k3 oo hf.2)) (flt_rp k3 rv hf.1)
      · exact of.elim
    | exc c es outs =>
      rw [hF] at of
      intro da gs H' kp oo hda rg
      obtain ⟨k1, k2, k3, k4⟩ := z.keep kp
      unfold seeR at of
      dsimp only at of
      split at of
      · rename_i hf
        rw [Bool.and_eq_true] at hf
        refine of da gs H' k2 (outs_ins k4 c1 (flatO_rp k3 oo hf.2)) ?_ (flatF_rp k3 rg hf.1)
        by_cases hd : da ∈ M.filter (· ≠ l)
        · rw [hid_in hd] at hda; cases hda
        · rw [hid_out hd] at hda
          rw [hid_out, hda]
          intro q
          rcases k3 da q with y | ⟨_, y⟩
          · exact hd y
          · rw [y] at hda; cases hda
      · exact of.elim
  · exact ⟨M, as, ls, lv, lm, ln, ao, of⟩
end
theorem FnG.weak {P : Program} {w : World} {K : PySem.W.Frag} {mg : Str → Option Value} {base : Heap} {CX : CXT} {k : Nat} {f : Addr} {fd : FuncData} {ps : List Str} {sp sp' : Sp} (F : FnG P w K mg base CX k f fd ps sp) (h : ∀ vs H Q E, sp' vs H Q E → sp vs H Q E) : FnG P w K mg base CX k f fd ps sp' :=
  ⟨fun vs H Q E z => F.len vs H Q E (h vs H Q E z), fun A outer s H args us vs Q E hr hg e0 hb r z => F.run A outer s H args us vs Q E hr hg e0 hb r (h vs H Q E z)⟩
theorem FnG.see {P : Program} {w : World} {K : PySem.W.Frag} {mg : Str → Option Value} {base : Heap} {CX : CXT} {k : Nat} {f : Addr} {fd : FuncData} {ps : List Str} {cm : CM} {Fn : List FA → RF} (n : Nat) (F : FnG P w K mg base CX k f fd ps (spF cm K Fn)) : FnG P w K mg base CX k f fd ps (spF cm K (see1 n Fn)) := F.weak fun _ _ _ _ h => see_sp h
end Mir

/-! MirZC: enumerate(reversed(a list), start=k) as a walk -/
namespace Mir
open PySem PySem.Spec PyProof.Rows L2
/-- the list at a (n items, which the loop leaves there), from its end, each item in a new pair -/
def IteR (K : PySem.W.Frag) (a : Addr) (n : Nat) (k : Int) : It :=
  ⟨fun i H => i < n ∧ ∃ (xs : List V), xs.length = n ∧ SqL K H a xs, fun i H v H' => ∃ T x, v = .ref T ∧ H T = none ∧ H' = upd H T (.tup [.int (k + (i : Nat)), x]) ∧ ∀ xs, SqL K H a xs → xs[n - 1 - i]? = some x, fun i H => n = i ∧ ∃ xs : List V, xs.length = n ∧ SqL K H a xs⟩
theorem turn_enumR {P : Program} {w : World} {K : PySem.W.Frag} {elts : List Expr} {kk : Nat} {tpos : Pos} (a e it : Addr) (n : Nat) (k : Int) :
    Turn P w K (.Tuple elts kk tpos) (IteR K a n k) [e, it] e (fun i h => (∃ old, IsEnum h e it (k + (i : Nat)) old) ∧ (i ≤ n ∧ h.IsRevIter it a ((n : Int) - 1 - (i : Nat))) ∧ e ≠ it) where
  mem := by simp
  obj := fun i h st b hb => by
    obtain ⟨⟨old, he⟩, ⟨_, o, ho, hc, hd⟩, _⟩ := st
    rcases (by simpa using hb : b = e ∨ b = it) with z | z
    · rw [z]; exact ⟨_, he, fun v q => nomatch q⟩
    · rw [z]; exact ⟨o, ho, fun v q => by rw [hd] at q; cases q⟩
  keep := fun i h h' st k => let ⟨⟨old, he⟩, hi, hne⟩ := st; ⟨⟨old, k e (by simp) _ he⟩, ⟨hi.1, hi.2.at fun o q => k it (by simp) o q⟩, hne⟩
  item := by
    intro X hP hw hK hc i pins s σ H E I hf st hg
    subst hP hw hK
    obtain ⟨⟨old, he⟩, hit, hne⟩ := st
    obtain ⟨hin, xs, hxl, hq⟩ := hg
    obtain ⟨its, rv, p, hz⟩ := I.list hq
    have hl := rv.length
    have hsz : its.toArray.size = n := by rw [List.size_toArray, ← hl, hxl]
    have hx : xs[n - 1 - i]? = some xs[n - 1 - i] := List.getElem?_eq_getElem (by omega)
    obtain ⟨u, hu, ru⟩ := rv.get hx
    have hel : e < s.heap.objs.size := Heap.lt_size he
    have hil : it < s.heap.objs.size := by obtain ⟨_, _, q, _⟩ := hit; exact Heap.lt_size q
    have hai : a ≠ it := fun z => by
      obtain ⟨o1, a1, a2, _⟩ := p.isList
      obtain ⟨_, o2, b1, b2, _⟩ := hit
      rw [z] at a1; rw [a1] at b1; cases b1; rw [a2] at b2; exact absurd b2 (by decide)
    have hae : e ∉ [it, a] := fun z => by
      rcases (by simpa using z : e = it ∨ e = a) with z | z
      · exact hne z
      · obtain ⟨o1, a1, a2, _⟩ := p.isList
        have he' : s.heap.get? e = some _ := he
        rw [z, a1] at he'; cases he'; exact absurd (show Value.type "enumerate" = Value.type "list" from a2) (by decide)
    have D := rvDraws (prog := X.prog) (w := X.w) (A := X.A.in1) (I.ok.hd hc) it a hai its.toArray
    refine wpAny_pyNext_enum_itemC (i := i) D he ⟨by omega, by rw [hsz]; exact hit.2, p.isList⟩ (by omega) hne hae fun x h' tk hPx ho hst hT hsz' hk => ?_
    have ex : x = u := by
      have h3 : its.toArray[its.toArray.size - 1 - i]? = some x := hPx
      rw [hsz] at h3
      have h4 : its[n - 1 - i]? = some u := hu
      simp at h3
      rw [h4] at h3
      exact (Option.some.inj h3).symm
    subst ex
    refine ⟨_, rfl, wpAny_letOwnedTupleGo_enum (s := { s with heap := h', toks := tk + 1 }) ho fun h'' he' sb => ?_⟩
    have hT2 : h''.get? s.heap.objs.size = some { cls := .type "tuple", data := .seq #[.int (k + (i : Nat)) tk, x] } := (sb.2 _ (Nat.ne_of_gt hel)).trans hT
    have new : ObjOk X.prog X.w (upd H s.heap.objs.size (.tup [.int (k + (i : Nat)), xs[n - 1 - i]])) h'' s.heap.objs.size (.tup [.int (k + (i : Nat)), xs[n - 1 - i]]) :=
      ⟨by show 2 ≤ sizeLine; decide, [.int (k + (i : Nat)) tk, x], .cons ⟨_, rfl⟩ (.cons ru .nil), ⟨_, hT2, rfl, _, rfl⟩⟩
    have I1 : Inv X pins σ (upd H s.heap.objs.size (.tup [.int (k + (i : Nat)), xs[n - 1 - i]])) { s with heap := h'', toks := tk + 1 } :=
      I.turnedNew (ch := [e, it]) (fun b ob hb q => (sb.2 b (fun z => hb (by simp [z]))).trans (hk b ob (fun z => hb (by simp [z])) (fun z => hb (by simp [z])) q)) hf (Nat.le_refl _) new
    refine ⟨.ref s.heap.objs.size, _, I1, rfl, ⟨_, xs[n - 1 - i], rfl, I.hok.fresh (Nat.le_refl _), rfl, fun ys hy => by rw [I.list_inj hy hq]; exact hx⟩, ⟨⟨x, ?_⟩, ⟨hin, ?_⟩, hne⟩, fun b hb => ?_⟩
    · have e1 : k + ((i + 1 : Nat) : Int) = k + (i : Int) + 1 := by omega
      rw [e1]; exact he'
    · have q := hst.2.1
      rw [hsz] at q
      exact q.at fun o q => (sb.2 it (Ne.symm hne)).trans q
    · have hb' : b < s.heap.objs.size := by
        rcases (by simpa using hb : b = e ∨ b = it) with z | z
        · rw [z]; exact hel
        · rw [z]; exact hil
      rw [upd_ne (Nat.ne_of_lt hb')]
      exact (hf b hb).1
  done := by
    intro X hP hw hK hc i pins s σ H E I hf st hg
    subst hP hw hK
    obtain ⟨⟨old, he⟩, hit, hne⟩ := st
    obtain ⟨hin, xs, hxl, hq⟩ := hg
    obtain ⟨its, rv, p, hz⟩ := I.list hq
    obtain ⟨f0, f1, f2, f3, f4, f5⟩ := hf it (by simp)
    have hl := rv.length
    have hsz : its.toArray.size = n := by rw [List.size_toArray, ← hl, hxl]
    have hai : a ≠ it := fun z => by
      obtain ⟨o1, a1, a2, _⟩ := p.isList
      obtain ⟨_, o2, b1, b2, _⟩ := hit
      rw [z] at a1; rw [a1] at b1; cases b1; rw [a2] at b2; exact absurd b2 (by decide)
    have D := rvDraws (prog := X.prog) (w := X.w) (A := X.A.in1) (I.ok.hd hc) it a hai its.toArray
    exact wpAny_pyNext_enum_endD D he ⟨by omega, by rw [hsz, hin]; exact hin ▸ hit.2, p.isList⟩ fun h' eb => ⟨rfl, I.turned (t' := s.toks) (fun b o hb q => eb b o hb q) f0 f1 f3 f4 f5⟩
  self := fun A i s Q E st h => let ⟨⟨_, he⟩, _⟩ := st; wpAny_pyIter_enum he h
def iEnumR (K : PySem.W.Frag) (te : TE) (k : Int) : TI := fun σ H R => te σ H fun v H1 => ∃ a xs, v = .ref a ∧ SqL K H1 a xs ∧ R (IteR K a xs.length k) H1
theorem pi_enumR {X : Cx} {e : Expr} {te : TE} {k : Int} {p p2 pos pos2 tpos kpos cpos : Pos} {elts : List Expr} {kk : Nat} {cj : Nat} (hg : Gl X "enumerate") (hm : X.mg "enumerate" = none) (hg2 : Gl X "reversed") (hm2 : X.mg "reversed" = none) (he : PE X e te) (hk0 : -(2 ^ 63) ≤ k) (hk1 : k < 2 ^ 63)
    (hs : starEach [e] X.env = (false, eval e X.env) :: starEach [] X.env := by rfl)
    (hs2 : starEach [.Call (.Name "reversed" p2) [e] [] pos2] X.env = (false, eval (.Call (.Name "reversed" p2) [e] [] pos2) X.env) :: starEach [] X.env := by rfl) :
    PI X (.Tuple elts kk tpos) (.Call (.Name "enumerate" p) [.Call (.Name "reversed" p2) [e] [] pos2] [⟨some "start", .Constant (.int k) cj cpos, kpos⟩] pos) (iEnumR X.K te k) := by
  refine ⟨fun pins s σ H R I h => ?_⟩
  refine wpAny_Call_Name_kw (ld_blt I hg hm boot_enumerate (callWith_tyK (args_cons (Call_ (ld_blt I hg2 hm2 PyProof.Rows.boot_reversed (PyProof.Rows.callWith_type1 (args_cons (thn (he.run pins s σ H _ I h) fun u s1 ⟨v, H1, I1, r1, q1⟩ => args_nil ?_) hs) hs rfl))) hs2)))
  obtain ⟨a, xs, ev, hq, q⟩ := q1
  subst ev
  obtain rfl : u = Value.ref a := r1
  obtain ⟨its, rv, p', hz⟩ := I1.list hq
  have hl := rv.length
  have e1 : ((its.toArray.size : Nat) : Int) - 1 = (xs.length : Int) - 1 - ((0 : Nat) : Int) := by simp only [List.size_toArray]; omega
  refine call_reversed_list p'.isList (args_nil (kws_cons (wpAny_Constant_int (kws_nil ?_))))
  have hrv : ∀ tk, ({ s1 with heap := s1.heap.push (revObj a ((its.toArray.size : Int) - 1)), toks := tk } : Shared).heap.IsRevIter s1.heap.objs.size a ((its.toArray.size : Int) - 1) := fun tk => ⟨_, Heap.get?_push_size _ rfl, rfl, rfl⟩
  refine enum_self (l := a) (hrv _) hk0 hk1 fun h' hen hk => wpAny_pyIter_enum hen ?_
  have hz2 : (s1.heap.push (revObj a ((its.toArray.size : Int) - 1))).objs.size = s1.heap.objs.size + 1 := Heap.size_push ..
  have I2 : Inv X pins σ H1 { s1 with heap := s1.heap.push (revObj a ((its.toArray.size : Int) - 1)) } := I1.kept (t' := s1.toks) fun b o e => Heap.get?_push_of_some _ e
  have I3 : Inv X pins σ H1 { s1 with heap := h', toks := s1.toks + 1 } := I1.kept (t' := s1.toks + 1) fun b o e => hk b o (Heap.get?_push_of_some _ e)
  refine ⟨s1.heap.objs.size + 1, [s1.heap.objs.size + 1, s1.heap.objs.size], _, _, H1, by rw [← hz2], I3, turn_enumR a (s1.heap.objs.size + 1) s1.heap.objs.size xs.length k, ⟨⟨.none, ?_⟩, ⟨Nat.zero_le _, ?_⟩, Nat.succ_ne_self _⟩, fun b hb => ?_, q⟩
  · have e2 : k + ((0 : Nat) : Int) = k := by omega
    rw [e2, ← hz2]; exact hen
  · rw [← e1]
    obtain ⟨o, ho, r⟩ := hrv s1.toks
    exact ⟨o, hk _ _ ho, r⟩
  · have hle : s1.heap.objs.size ≤ b := by
      rcases (by simpa using hb : b = s1.heap.objs.size + 1 ∨ b = s1.heap.objs.size) with z | z
      · rw [z]; exact Nat.le_add_right _ _
      · rw [z]; exact Nat.le_refl _
    exact I1.fpOk hle (I1.hok.fresh hle)
def enumK : Int → List Dat → List Dat
  | _, [] => []
  | k, d :: r => .tup [.int k, d] :: enumK (k + 1) r
theorem enumK_len : ∀ (ds : List Dat) (k : Int), (enumK k ds).length = ds.length
  | [], k => rfl
  | x :: ds, k => congrArg Nat.succ (enumK_len ds (k + 1))
theorem enumK_get : ∀ (ds : List Dat) (k : Int) (i : Nat) (d : Dat), ds[i]? = some d → (enumK k ds)[i]? = some (.tup [.int (k + (i : Nat)), d])
  | [], k, i, d, h => by simp at h
  | x :: ds, k, 0, d, h => by simp at h; subst h; simp [enumK]
  | x :: ds, k, i + 1, d, h => by
    have q := enumK_get ds (k + 1) i d (by simpa using h)
    show (enumK (k + 1) ds)[i]? = _
    rw [q, show k + 1 + ((i : Nat) : Int) = k + ((i + 1 : Nat) : Int) by omega]
def enumRD (k : Int) : Dat → Option (List Dat)
  | .lst ds => some (enumK k ds.reverse)
  | .ro ds => some (enumK k ds.reverse)
  | _ => none
def mEnumR (k : Int) (m : ME) : Sg → Rs (List Dat) := fun S => (m S).bind fun d S1 => Rs.of (enumRD k d) S1
theorem it_enumR {cm : CM} {σ : L2.St} {G : Hp} {a : Addr} {vs : List V} {ds : List Dat} {K : PySem.W.Frag} {k : Int} (h : SqL K G a vs) (r : RpAll cm K G vs ds) : rIt cm K σ G (IteR K a vs.length k) (enumK k ds.reverse) := by
  have el : (enumK k ds.reverse).length = vs.length := by rw [enumK_len, List.length_reverse, r.length]
  refine ⟨fun i H s hi => ⟨by rw [el] at hi; exact hi, vs, rfl, s.seq h⟩, fun H s => ⟨el.symm, vs, rfl, s.seq h⟩, fun i H x H' M s lv y hi => ?_⟩
  rw [el] at hi
  obtain ⟨T, z, rfl, nT, rfl, y⟩ := y
  obtain ⟨d, k1, k2⟩ := r.get' (y vs ((s.trans hid_le).seq h))
  have k3 : ds.reverse[i]? = some d := by
    rw [List.getElem?_reverse (by rw [← r.length]; exact hi), ← r.length]
    exact k1
  exact ⟨same_new nT, _, enumK_get ds.reverse k i d k3, .tup (SqT.of (hid_new lv nT)) (.cons (.int _) (.cons ((k2.mono s).mono (hid_grow (same_new nT))) .nil))⟩
theorem gi_enumR {X : Cx} {cm : CM} {W : WX} {e : Expr} {ma : ME} {k : Int} {p p2 pos pos2 tpos kpos cpos : Pos} {elts : List Expr} {kk cj : Nat} (hg : Gl X "enumerate") (hm : X.mg "enumerate" = none) (hg2 : Gl X "reversed") (hm2 : X.mg "reversed" = none) (he : PE X e (tE cm X.K W ma)) (hk0 : -(2 ^ 63) ≤ k) (hk1 : k < 2 ^ 63)
    (hs : starEach [e] X.env = (false, eval e X.env) :: starEach [] X.env := by rfl)
    (hs2 : starEach [.Call (.Name "reversed" p2) [e] [] pos2] X.env = (false, eval (.Call (.Name "reversed" p2) [e] [] pos2) X.env) :: starEach [] X.env := by rfl) :
    PI X (.Tuple elts kk tpos) (.Call (.Name "enumerate" p) [.Call (.Name "reversed" p2) [e] [] pos2] [⟨some "start", .Constant (.int k) cj cpos, kpos⟩] pos) (tG cm X.K W (rIt cm X.K) (mEnumR k ma)) :=
  PI.weak (pi_enumR hg hm hg2 hm2 he hk0 hk1 hs hs2) fun σ H Q ⟨F, S, e1, e2, R, h⟩ => tG_bind' e1 e2 R h fun x H1 da S2 hm R1 s1 p1 h1 => by
    obtain ⟨d, hd, h1⟩ := out_of' h1
    cases p1 with
    | lst hs hr => cases hd; exact ⟨_, _, rfl, SqL.of (hid_le _ _ hs), h1 _ H1 R1 (Same.refl _) (it_enumR (SqL.of hs) hr)⟩
    | ro hs hr => cases hd; exact ⟨_, _, rfl, Same.seq hid_le hs, h1 _ H1 R1 (Same.refl _) (it_enumR hs hr)⟩
    | _ => cases hd
end Mir

/-! MirZD: defs that give new lists, whatever they are given -/
namespace Mir
open PySem PySem.Spec PyProof.Rows L2
inductive RN where
  | ok (ds : List Dat) (outs : List Own)
  | exc (c : Str) (fs : List (Str × Dat)) (outs : List Own)
  | bad
def outN (cm : CM) (K : PySem.W.Frag) (M : List Addr) (ls : List Addr) (H : Hp) (Q : VK) (E : XK) : RN → Prop
  | .ok ds outs => ∀ l xs H', (∀ a o, H a = some o → a ∉ ls → H' a = some o) → OutsOk cm K (hid M H') H' ls outs → H' l = none → RpAll cm K (hid M H') xs ds → Q (.ref l) (upd H' l (.lst xs))
  | .exc c fs outs => ∀ da gs H', (∀ a o, H a = some o → a ∉ ls → H' a = some o) → OutsOk cm K (hid M H') H' ls outs → hid M H' da = some (.xd gs) → RpF cm K (hid M H') gs fs → E (.ref (cm c)) (some da) H'
  | .bad => False
def spN (cm : CM) (K : PySem.W.Frag) (L : List FA → RN) : Sp := fun vs H Q E => ∃ M as ls, live M H ∧ (∀ l, l ∈ ls → l ∈ M) ∧ ls.Nodup ∧ ArgsOk cm K (hid M H) H vs as ls ∧ outN cm K M ls H Q E (L as)
/-- the new list as a plain value -/
def datN (L : List FA → RN) (as : List FA) : RF := match L as with
  | .ok ds outs => .ok (.lst ds) outs
  | .exc c fs outs => .exc c fs outs
  | .bad => .bad
theorem outs_mono {cm : CM} {K : PySem.W.Frag} {G G' H H' : Hp} (s : Same G G') (e : ∀ a o, H a = some o → H' a = some o) : ∀ {ls : List Addr} {os : List Own}, OutsOk cm K G H ls os → OutsOk cm K G' H' ls os
  | _, _, .nil => .nil
  | _, _, .cons a b => .cons (a.mono s fun _ q => e _ _ q) (outs_mono s e b)
theorem outs_live {cm : CM} {K : PySem.W.Frag} {G H : Hp} : ∀ {ls : List Addr} {os : List Own}, OutsOk cm K G H ls os → ∀ l, l ∈ ls → H l ≠ none
  | _, _, .nil, l, h => by cases h
  | _, _, .cons (.lst e r) b, l, h => by
    rcases List.mem_cons.mp h with z | z
    · rw [z, e]; simp
    · exact outs_live b l z
  | _, _, .cons (.obj e r) b, l, h => by
    rcases List.mem_cons.mp h with z | z
    · rw [z, e]; simp
    · exact outs_live b l z
section
variable {cm : CM} {K : PySem.W.Frag} {H : Hp} {vs : List V} {Q : VK} {E : XK} {L : List FA → RN} {n : Nat}
theorem dat_sp (h : spF cm K (datN L) vs H Q E) : spN cm K L vs H Q E := by
  obtain ⟨M, as, ls, lv, lm, ln, ao, of⟩ := h
  refine ⟨M, as, ls, lv, lm, ln, ao, ?_⟩
  unfold datN at of
  cases hF : L as with
  | bad => rw [hF] at of; exact of
  | exc c es outs => rw [hF] at of; exact of
  | ok ds outs =>
    rw [hF] at of
    intro l xs H' kp oo hl rx
    have lv' : live M H' := fun m hm => by
      by_cases hm2 : m ∈ ls
      · exact outs_live oo m hm2
      · cases q : H m with
        | none => exact absurd q (lv m hm)
        | some o => rw [kp m o q hm2]; simp
    have sn : Same H' (upd H' l (.lst xs)) := same_new hl
    exact of _ _ (fun a o e n => sn a o (kp a o e n)) (outs_mono (hid_grow sn) sn oo) (.lst (hid_new lv' hl) (RpAll.mono (hid_grow sn) rx))
def seeRN (j : Nat) (o : Own) : RN → RN
  | .ok ds outs => if flats ds && flatO outs then .ok ds (insAt o j outs) else .bad
  | .exc c es outs => if flatF es && flatO outs then .exc c es (insAt o j outs) else .bad
  | .bad => .bad
def seeN (n : Nat) (L : List FA → RN) (as : List FA) : RN := match as[n]? with
  | some (.own (.lst ds)) => seeRN (nOwn (as.take n)) (.lst ds) (L (as.set n (.dat (.lst ds))))
  | _ => L as
theorem seeN_sp (h : spN cm K (seeN n L) vs H Q E) : spN cm K L vs H Q E := by
  obtain ⟨M, as, ls, lv, lm, ln, ao, of⟩ := h
  unfold seeN at of
  split at of
  · rename_i ds hn
    obtain ⟨l, us, c1, c2, c3, c4⟩ := args_see ao hn
    have z : Shown cm K M H ls _ l us ds := ⟨c1, c2, c3, lv, lm, ln⟩
    have sM : Same (hid M H) (hid (M.filter (· ≠ l)) H) := hid_sub fun a ha => (List.mem_filter.mp ha).1
    have hlv : hid (M.filter (· ≠ l)) H l = some (.lst us) := by
      rw [hid_out, c2]
      intro q
      simpa using (List.mem_filter.mp q).2
    refine ⟨M.filter (· ≠ l), _, _, fun m hm => lv m (List.mem_filter.mp hm).1, fun x hx => List.mem_filter.mpr ⟨lm x (z.out x hx).1, by simpa using (z.out x hx).2⟩, ln.sublist (List.eraseIdx_sublist ..), c4 _ sM hlv, ?_⟩
    cases hF : L (as.set n (.dat (.lst ds))) with
    | bad => rw [hF] at of; exact of
    | ok d outs =>
      rw [hF] at of
      intro p xs H' kp oo hp rv
      obtain ⟨k1, k2, k3, k4⟩ := z.keep kp
      unfold seeRN at of
      dsimp only at of
      split at of
      · rename_i hf
        rw [Bool.and_eq_true] at hf
        exact of p xs H' k2 (outs_ins k4 c1 (flatO_rp k3 oo hf.2)) hp (flts_rp k3 rv hf.1)
      · exact of.elim
    | exc c es outs =>
      rw [hF] at of
      intro da gs H' kp oo hda rg
      obtain ⟨k1, k2, k3, k4⟩ := z.keep kp
      unfold seeRN at of
      dsimp only at of
      split at of
      · rename_i hf
        rw [Bool.and_eq_true] at hf
        refine of da gs H' k2 (outs_ins k4 c1 (flatO_rp k3 oo hf.2)) ?_ (flatF_rp k3 rg hf.1)
        by_cases hd : da ∈ M.filter (· ≠ l)
        · rw [hid_in hd] at hda; cases hda
        · rw [hid_out hd] at hda
          rw [hid_out, hda]
          intro q
          rcases k3 da q with y | ⟨_, y⟩
          · exact hd y
          · rw [y] at hda; cases hda
      · exact of.elim
  · exact ⟨M, as, ls, lv, lm, ln, ao, of⟩
end
section
variable {P : Program} {w : World} {K : PySem.W.Frag} {mg : Str → Option Value} {base : Heap} {CX : CXT} {k : Nat} {f : Addr} {fd : FuncData} {ps : List Str} {cm : CM} {L : List FA → RN}
theorem FnG.seeN (n : Nat) (F : FnG P w K mg base CX k f fd ps (spN cm K L)) : FnG P w K mg base CX k f fd ps (spN cm K (Mir.seeN n L)) := F.weak fun _ _ _ _ h => seeN_sp h
theorem FnG.dat (F : FnG P w K mg base CX k f fd ps (spN cm K L)) : FnG P w K mg base CX k f fd ps (spF cm K (datN L)) := F.weak fun _ _ _ _ h => dat_sp h
end

/-! ### bodies -/
abbrev MN := Sg → Rs (Option (List Dat))
def outSN (F : Fm) (W : WX) (G : Hp) (D : L2.Ends) : Rs (Option (List Dat)) → Prop
  | .ok (some ds) S => ∀ l xs σ H, Rel F S σ H → Same G (vis F S σ H) → H l = none → RpAll F.cm F.K (vis F S σ H) xs ds → D.rt (.ref l) (upd H l (.lst xs))
  | .ok none S => ∀ σ H, Rel F S σ H → Same G (vis F S σ H) → D.nx σ H
  | .exc c fs S => ∀ σ, outX F W σ G c fs S
  | .bad => False
def tSN (cm : CM) (K : PySem.W.Frag) (W : WX) (m : MN) : TS := fun D σ H => ∃ F S, F.cm = cm ∧ F.K = K ∧ Rel F S σ H ∧ outSN F W (vis F S σ H) D (m S)
theorem outSN_same {F : Fm} {W : WX} {G G' : Hp} {D : L2.Ends} {r : Rs (Option (List Dat))} (e : Same G G') (h : outSN F W G D r) : outSN F W G' D r := by
  cases r with
  | ok a S =>
    cases a with
    | none => exact fun σ H a b => h σ H a (e.trans b)
    | some ds => exact fun l xs σ H a b c d => h l xs σ H a (e.trans b) c d
  | exc c fs S => exact fun σ da gs H a b c d => h σ da gs H a (e.trans b) c d
  | bad => exact h
theorem tG_bindN {β α : Type} {cm : CM} {K : PySem.W.Frag} {W : WX} {R : Rep β α} {m : Sg → Rs α} {k : α → Sg → Rs (Option (List Dat))} {σ : L2.St} {H : Hp} {D : L2.Ends} {Q' : β → Hp → Prop} {F : Fm} {S : Sg}
    (e1 : F.cm = cm) (e2 : F.K = K) (r : Rel F S σ H) (h : outSN F W (vis F S σ H) D ((m S).bind k))
    (q : ∀ x H1 a S1, Rel F S1 σ H1 → Same (vis F S σ H) (vis F S1 σ H1) → R σ (vis F S1 σ H1) x a → outSN F W (vis F S1 σ H1) D (k a S1) → Q' x H1) : tG cm K W R m σ H Q' := by
  refine ⟨F, S, e1, e2, r, ?_⟩
  cases hm : m S with
  | ok a S1 => rw [hm] at h; exact fun v H1 a1 a2 a3 => q v H1 a S1 a1 a2 a3 (outSN_same a2 h)
  | exc c fs S1 => rw [hm] at h; exact h σ
  | bad => rw [hm] at h; exact h
/-- the def's own list leaves it -/
theorem Rel.drop {F : Fm} {S : Sg} {σ : L2.St} {H : Hp} (R : Rel F S σ H) {i : Nat} {l : Addr} {ds : List Dat} (hi : S[i]? = some (.loc ds)) (hl : σ[i]? = some (some (.ref l))) :
    ∃ vs H', H = upd H' l (.lst vs) ∧ H' l = none ∧ Rel F (S.set i .no) σ H' ∧ vis F (S.set i .no) σ H' = vis F S σ H ∧ RpAll F.cm F.K (vis F S σ H) vs ds := by
  have hin : l ∈ locs S σ := mem_locs.mpr ⟨i, ds, hi, hl⟩
  have hM := R.locM hin
  have nl : F.H0 l = none := R.new l hin
  have y := R.sl i _ _ hi hl
  have sub : List.Sublist (locs (S.set i .no) σ) (locs S σ) := by
    have := locs_set_sub (S := S) (σ := σ) (i := i) (s := .no) (v := some (.ref l)) rfl
    rw [set_same hl] at this
    exact this
  have gone : l ∉ locs (S.set i .no) σ := locs_set_gone R.nd hi hl rfl
  have inS : ∀ a, a ∈ locs S σ → a = l ∨ a ∈ locs (S.set i .no) σ := fun a ha => by
    obtain ⟨k, es, a1, a2⟩ := mem_locs.mp ha
    by_cases e : k = i
    · subst e; rw [hl] at a2; cases a2; exact .inl rfl
    · exact .inr (mem_locs.mpr ⟨k, es, by rw [List.getElem?_set_ne fun z => e z.symm]; exact a1, a2⟩)
  cases y with
  | @loc _ _ vs eh r =>
    refine ⟨vs, fun a => if a = l then none else H a, ?_, if_pos rfl, ?_, ?_, r⟩
    · funext a
      by_cases e : a = l
      · rw [e, upd_same]; exact eh
      · rw [upd_ne e, if_neg e]
    all_goals
      have eV : vis F (S.set i .no) σ (fun a => if a = l then none else H a) = vis F S σ H := by
        funext a
        unfold vis
        by_cases e : a = l
        · rw [e, hid_in (M := F.M ++ locs S σ) (List.mem_append_right _ hin)]
          rw [hid_out fun z => (List.mem_append.mp z).elim hM gone, if_pos rfl]
        · by_cases ha : a ∈ F.M ++ locs S σ
          · rw [hid_in ha]
            refine hid_in ?_
            rcases List.mem_append.mp ha with z | z
            · exact List.mem_append_left _ z
            · exact List.mem_append_right _ ((inS a z).resolve_left e)
          · rw [hid_out ha, hid_out, if_neg e]
            intro z
            refine ha ?_
            rcases List.mem_append.mp z with z | z
            · exact List.mem_append_left _ z
            · exact List.mem_append_right _ (sub.subset z)
    · refine ⟨by rw [List.length_set]; exact R.len, fun k t w a b => ?_, R.nd.sublist sub, fun x hx => R.new x (sub.subset hx), R.ond.sublist (owns_set_sub fun _ _ z => by cases z), R.and_, R.ain, fun a h => ?_, fun x hx => R.lom x (sub.subset hx), fun q h => ⟨?_, (R.tmp q h).2⟩, fun a o q n => ?_⟩
      · rw [eV]
        rcases get_set_cases a with ⟨ek, rfl⟩ | ⟨ek, a⟩
        · exact .no
        · refine (R.sl k t w a b).mono (Same.refl _) fun l' x ew n1 n2 n3 q => ?_
          have hne : l' ≠ l := fun z => by
            rw [z] at ew
            cases t with
            | no => exact n1 rfl
            | dat d => exact n2 d rfl
            | exn c fs => exact n3 c fs rfl
            | loc es => exact ek (locs_one R.nd a (by rw [b, ew]) hi hl)
            | own j o =>
              have y := R.sl k _ w a b
              rw [ew] at y
              cases y with
              | own e0 _ => exact hM (R.ain l (List.mem_of_getElem? e0))
          show (if l' = l then none else H l') = some x
          rw [if_neg hne]; exact q
      · show (if a = l then none else H a) ≠ none
        rw [if_neg fun z => hM (by rw [← z]; exact h)]
        exact R.liv a h
      · show (if q.1 = l then none else H q.1) = some q.2
        rw [if_neg fun z => hM (by rw [← z]; exact (R.tmp q h).2.1)]
        exact (R.tmp q h).1
      · show (if a = l then none else H a) = some o
        rw [if_neg fun z => by rw [z, nl] at q; cases q]
        exact R.keep a o q n
    · exact eV
section
variable {X : Cx} {cm : CM} {W : WX} {a b c e : Expr} {ma mb : ME} {ca : MT} {mL : Sg → Rs (List Dat)} {pos p : Pos} {st : Stmt} {sts sts' : List Stmt} {s1 : MS} {n1 n2 : MN}
def nLift (s : MS) : MN := fun S => match s S with
  | .ok .nx S1 => .ok none S1
  | .exc c fs S1 => .exc c fs S1
  | _ => .bad
theorem gn_lift (h : PS X st (tS cm X.K W s1)) : PS X st (tSN cm X.K W (nLift s1)) := PS.weak h fun D σ H ⟨F, S, e1, e2, R, h⟩ => ⟨F, S, e1, e2, R, by
  unfold nLift at h
  cases hm : s1 S with
  | bad => rw [hm] at h; exact h.elim
  | exc c fs S1 => rw [hm] at h; exact h
  | ok f S1 =>
    rw [hm] at h
    cases f with
    | nx => exact h
    | rt d => exact h.elim
    | bk => exact h.elim
    | ct => exact h.elim⟩
def nRet (mL : Sg → Rs (List Dat)) : MN := fun S => (mL S).bind fun ds S1 => .ok (some ds) S1
theorem gn_ret (he : PE X e (tL cm X.K W mL)) : PS X (.Return (some e) pos) (tSN cm X.K W (nRet mL)) :=
  PS.weak (ps_ret he) fun D σ H ⟨F, S, e1, e2, R, h⟩ => by
    refine ⟨F, S, e1, e2, R, ?_⟩
    unfold nRet at h
    cases hm : mL S with
    | bad => rw [hm] at h; exact h
    | exc c fs S1 => rw [hm] at h; exact h σ
    | ok ds S1 =>
      rw [hm] at h
      exact fun l xs H1 R1 s1 hl rx => h l xs σ H1 R1 s1 hl rx
def nRetV (i : Nat) : MN := fun S => match S[i]? with
  | some (.loc ds) => .ok (some ds) (S.set i .no)
  | _ => .bad
theorem gn_retV {i : Nat} (he : PE X e (tVar i)) : PS X (.Return (some e) pos) (tSN cm X.K W (nRetV i)) :=
  PS.weak (ps_ret he) fun D σ H ⟨F, S, e1, e2, R, h⟩ => by
    unfold nRetV at h
    cases hs : S[i]? with
    | none => rw [hs] at h; exact h.elim
    | some s =>
      rw [hs] at h
      have hl : i < σ.length := by rw [← R.len]; exact (List.getElem?_eq_some_iff.mp hs).1
      have hv : σ[i]? = some σ[i] := List.getElem?_eq_getElem hl
      have q := R.sl i s _ hs hv
      cases s with
      | no => exact h.elim
      | dat d => exact h.elim
      | own j u => exact h.elim
      | exn c fs => exact h.elim
      | loc ds =>
        generalize σ[i] = w at hv q
        cases q with
        | @loc _ l _ eh r =>
          refine ⟨_, hv, ?_⟩
          obtain ⟨vs, H', e3, e4, R', eV, r'⟩ := R.drop hs hv
          rw [e3]
          exact h l vs σ H' R' (by rw [eV]; exact Same.refl _) e4 (by rw [eV]; exact r')
def nSeq (x y : MN) : MN := fun S => (x S).bind fun r S1 => match r with
  | some ds => .ok (some ds) S1
  | none => y S1
def nNext : MN := fun S => .ok none S
theorem gn_nil : PSs X [] (tSN cm X.K W nNext) := PSs.weak pss_nil fun D σ H ⟨F, S, e1, e2, R, h⟩ => h σ H R (Same.refl _)
theorem gn_one (h1 : PS X st (tSN cm X.K W n1)) : PSs X [st] (tSN cm X.K W n1) := pss_one h1
theorem gn_cons (h1 : PS X st (tSN cm X.K W n1)) (h2 : PSs X sts (tSN cm X.K W n2)) : PSs X (st :: sts) (tSN cm X.K W (nSeq n1 n2)) :=
  PSs.weak (pss_cons h1 h2) fun D σ H ⟨F, S, e1, e2, R, h⟩ => ⟨F, S, e1, e2, R, by
    unfold nSeq at h
    cases hm : n1 S with
    | bad => rw [hm] at h; exact h
    | exc c fs S1 => rw [hm] at h; exact h
    | ok f S1 =>
      rw [hm, Rs.bind_ok] at h
      cases f with
      | none => exact fun σ' H' R' s' => ⟨F, S1, e1, e2, R', outSN_same s' h⟩
      | some ds => exact h⟩
def nIf (c : MT) (x y : MN) : MN := fun S => (c S).bind fun b S1 => if b then x S1 else y S1
theorem gn_if (hc : PT X c (tT cm X.K W ca)) (h1 : PSs X sts (tSN cm X.K W n1)) (h2 : PSs X sts' (tSN cm X.K W n2)) : PS X (.If c sts sts' pos) (tSN cm X.K W (nIf ca n1 n2)) :=
  PS.weak (ps_if hc h1 h2) fun D σ H ⟨F, S, e1, e2, R, h⟩ => tG_bindN e1 e2 R h fun x H1 da S1 R1 s1 p1 h1 => by
    cases p1
    cases x with
    | true => exact ⟨F, S1, e1, e2, R1, h1⟩
    | false => exact ⟨F, S1, e1, e2, R1, h1⟩
end
end Mir

/-! MirZE: the defs that give new lists, and their calls -/
namespace Mir
open PySem PySem.Spec PyProof.Rows L2
def runN (np n : Nat) (m : MN) (as : List FA) : RN := if as.length = np then (match m (mkSlots 0 as ++ List.replicate (n - np) .no) with
  | .ok (some ds) S => (match outsFrom 0 (nOwn as) S with
    | some outs => .ok ds outs
    | none => .bad)
  | .exc c fs S => (match outsFrom 0 (nOwn as) S with
    | some outs => .exc c fs outs
    | none => .bad)
  | _ => .bad) else .bad
section
variable {P : Program} {w : World} {K : PySem.W.Frag} {mg : Str → Option Value} {base : Heap} {cm : CM}
theorem rel_args {M : List Addr} {as : List FA} {vs : List V} {ls : List Addr} {H : Hp} {N : List Str} {n np : Nat} (hn : N.length = n) (hla : as.length = np) (lv : live M H) (lm : ∀ l, l ∈ ls → l ∈ M) (ln : ls.Nodup) (ao : ArgsOk cm K (hid M H) H vs as ls) :
    Rel ⟨cm, K, M, H, ls, []⟩ (mkSlots 0 as ++ List.replicate (n - np) .no) (L2.start N vs) H := by
  have lc : ∀ σ : L2.St, locs (mkSlots 0 as ++ List.replicate (n - np) .no) σ = [] := locs_none fun s hs => by
    rcases List.mem_append.mp hs with h | h
    · exact mkSlots_loc 0 as s h
    · rw [(List.mem_replicate.mp h).2]; rfl
  refine ⟨?_, fun i s v a b => ?_, ?_, fun l h => ?_, ?_, ln, lm, lv, fun l h => ?_, fun p h => ?_, fun a o q _ => q⟩
  · unfold L2.start
    rw [List.length_append, List.length_append, List.length_map, mkSlots_len, List.length_replicate, List.length_replicate, hn, ao.length, hla]
  · have eV : vis ⟨cm, K, M, H, ls, []⟩ (mkSlots 0 as ++ List.replicate (n - np) .no) (L2.start N vs) H = hid M H := by
      unfold vis; rw [lc, List.append_nil]
    rw [eV]
    unfold L2.start at b
    by_cases hi : i < as.length
    · have hi' : i < vs.length := by rw [ao.length]; exact hi
      rw [List.getElem?_append_left (by rw [mkSlots_len]; exact hi)] at a
      rw [List.getElem?_append_left (by rw [List.length_map]; exact hi'), List.getElem?_map, List.getElem?_eq_getElem hi'] at b
      cases b
      exact mkSlots_ok (F := ⟨cm, K, M, H, ls, []⟩) rfl rfl 0 ao (fun t l e => by rw [Nat.zero_add]; exact e) a (List.getElem?_eq_getElem hi')
    · rw [List.getElem?_append_right (by rw [mkSlots_len]; omega), List.getElem?_replicate] at a
      split at a
      · cases a; exact .no
      · cases a
  · rw [lc]; exact List.nodup_nil
  · rw [lc] at h; cases h
  · rw [owns_append, owns_no, List.append_nil]; exact mkSlots_nd 0 as
  · rw [lc] at h; cases h
  · cases h
theorem fnN_of {x qual : Str} {params : Arguments} {body : List Stmt} {scope : Scope} {dvs : List V} {kws : List (Str × V)} {f : Addr} {fd : FuncData} {N ps : List Str} {k n np : Nat} {m : MN} (F : FunD K x qual params body scope dvs kws f fd) (S : FnScope N ps scope) (hn : N.length = n) (hp : ps.length = np)
    (hbody : ∀ (cdv : Value) (A : Around) (outer : List Env) (s : Shared) (H : Hp) (E : XK), Room k (A.deeper (envOfC qual scope s.heap.objs.size f cdv)) → (A.deeper (envOfC qual scope s.heap.objs.size f cdv)).guards = some [] →
      PSs (cxOf (L2.CX P w) P w K mg base N qual scope f cdv A outer s H E) body (tSN cm K (fun cls d _ H' => E cls d H') m)) : FnG P w K mg base (L2.CX P w) (k + 1) f fd ps (spN cm K (runN np n m)) := by
  have len : ∀ vs H Q E, spN cm K (runN np n m) vs H Q E → vs.length = ps.length := fun vs H Q E ⟨M, as, ls, _, _, _, a, o⟩ => by
    unfold runN at o
    by_cases hl : as.length = np
    · rw [a.length, hl, hp]
    · rw [if_neg hl] at o; exact o.elim
  obtain ⟨oc, od, dV, kV, doc, pm, an, cdv, ct, osl, rfl, lk, hcd, _, _⟩ := F.ex
  refine ⟨len, fun A outer s H args us vs Q E hr hg e0 hb r hsp => ?_⟩
  have hl := len _ _ _ _ hsp
  have KX : K.In s.heap := e0.mod.kin.keeps fun b o e => (e0.bs b o e).1
  have lim0 : s.heap.NoLimit := e0.mod.nolimit.keeps fun b o e => (e0.bs b o e).1
  refine codeAny_call_function hr.depth (KX _ _ lk) rfl S.co S.gen rfl (PySem.W.codeRec_of KX hcd) (hb _ _ _ _ (wpAny_newFunctionEnv_cells S.kind (fun ⟨nm, v⟩ hy => ?_) fun env he s1 y => ?_))
  · rcases S.par nm (List.of_mem_zip hy).1 with q | q
    · exact Or.inl q
    · exact Or.inr ⟨q, PySem.W.cellsFrom_some _ _ _ (Or.inl q)⟩
  · subst he
    refine ⟨lim0.keeps y.toInCall.keep, codeAny_func ?_⟩
    have I : L2.Inv (cxOf (L2.CX P w) P w K mg base N qual scope f cdv A outer s H E) [] (L2.start N vs) H s1 := inv_start S hr.hd e0 hl r y
    have ht := hbody cdv A outer s H E (hr.deeper _) (guards_deeper hg)
    obtain ⟨M, as, ls, lv, lm, ln, ao, of⟩ := hsp
    have hla : as.length = np := by rw [← ao.length, hl, hp]
    unfold runN at of
    rw [if_pos hla, ao.nown] at of
    have la : ∀ (t : Nat) (l : Addr), ls[t]? = some l → (⟨cm, K, M, H, ls, []⟩ : Fm).A0[0 + t]? = some l := fun t l e => by rw [Nat.zero_add]; exact e
    have hq : tSN cm K (fun cls d _ H' => E cls d H') m { nx := fun _ H' => Q .non H', rt := Q } (L2.start N vs) H := by
      refine ⟨⟨cm, K, M, H, ls, []⟩, _, rfl, rfl, rel_args hn hla lv lm ln ao, ?_⟩
      cases hm : m (mkSlots 0 as ++ List.replicate (n - np) .no) with
      | bad => rw [hm] at of; exact of
      | exc c fs S' =>
        rw [hm] at of
        intro σ' da gs H' R' _ hda hgs
        dsimp only at of
        cases ho : outsFrom 0 ls.length S' with
        | none => rw [ho] at of; exact of.elim
        | some outs =>
          rw [ho] at of
          exact of da gs H' (fun a o e n => R'.keep a o e n) (Rel.outs R' ls 0 outs la ho) (hid_sub (fun a h => List.mem_append_left _ h) _ _ hda) (hgs.mono (hid_sub fun a h => List.mem_append_left _ h))
      | ok fl S' =>
        rw [hm] at of
        cases fl with
        | none => exact of.elim
        | some ds =>
          intro l xs σ' H' R' _ hl rx
          dsimp only at of
          cases ho : outsFrom 0 ls.length S' with
          | none => rw [ho] at of; exact of.elim
          | some outs =>
            rw [ho] at of
            exact of l xs H' (fun a o e n => R'.keep a o e n) (Rel.outs R' ls 0 outs la ho) hl (rx.mono (hid_sub fun a h => List.mem_append_left _ h))
    refine wpAny_mono (ht.run [] s1 (L2.start N vs) H _ I hq) (fun fl s' hs => ?_) fun e s' hs => hs
    cases fl with
    | ret u => obtain ⟨v, σ', H', J, rv, q⟩ := hs; exact ⟨v, H', J.os, J.bare, J.base, J.hok, rv, q⟩
    | next => obtain ⟨σ', H', J, q⟩ := hs; exact ⟨V.non, H', J.os, J.bare, J.base, J.hok, (rfl : Value.none = Value.none), q⟩
    | brk => obtain ⟨_, _, _, q⟩ := hs; exact q.elim
    | cont => obtain ⟨_, _, _, q⟩ := hs; exact q.elim
end
def applyN (L : List FA → RN) (as : List AV) (S : Sg) : Rs (List Dat) := match fetch S as with
  | none => .bad
  | some (fs, is) => if nodupB is then (match L fs with
    | .ok ds outs => (match wb S is outs with
      | some S' => .ok ds S'
      | none => .bad)
    | .exc c es outs => (match wb S is outs with
      | some S' => .exc c es S'
      | none => .bad)
    | .bad => .bad) else .bad
section
variable {F : Fm} {S S' : Sg} {σ : L2.St} {H H' : Hp}
theorem applyN_ok {cm : CM} {K : PySem.W.Frag} {W : WX} {L : List FA → RN} {vs : List V} {as : List AV} {Q : VK} (e1 : F.cm = cm) (e2 : F.K = K) (R : Rel F S σ H) (av : AvsOk cm K σ (vis F S σ H) vs as) (h : outL F W σ (vis F S σ H) Q (applyN L as S)) :
    spN cm K L vs H Q (WE W σ) := by
  unfold applyN at h
  cases hf : fetch S as with
  | none => rw [hf] at h; exact h.elim
  | some q =>
    obtain ⟨fs, is⟩ := q
    rw [hf] at h
    dsimp only at h
    by_cases hn : nodupB is = true
    · rw [if_pos hn] at h
      have nd := nodupB_ok hn
      obtain ⟨ls, c1, c2, c3⟩ := fetch_ok e1 e2 R av hf
      have lin : ∀ l, l ∈ ls → l ∈ F.M ++ locs S σ := fun l hl => by
        obtain ⟨t, ht, e⟩ := List.getElem_of_mem hl
        have et : ls[t]? = some l := by rw [List.getElem?_eq_getElem ht, e]
        obtain ⟨i, hi⟩ := c3 t l et
        obtain ⟨l', e3, q⟩ := c2 t i hi
        rw [et] at e3; cases e3
        exact R.lentIn q
      have lnd : ls.Nodup := nd_of_get fun t u l ht hl => by
        obtain ⟨i, hi⟩ := c3 u l hl
        obtain ⟨k, hk⟩ := c3 t l ht
        obtain ⟨l1, d1, d2⟩ := c2 u i hi
        obtain ⟨l2, d3, d4⟩ := c2 t k hk
        rw [hl] at d1; cases d1
        rw [ht] at d3; cases d3
        have ik := R.lent1 d2 d4
        subst ik
        exact nd_ix nd hk hi
      refine ⟨F.M ++ locs S σ, fs, ls, R.live, lin, lnd, c1, ?_⟩
      cases hF : L fs with
      | bad => rw [hF] at h; exact h
      | ok d outs =>
        rw [hF] at h
        intro l xs H' kp oo hl rx
        dsimp only at h
        cases hw : wb S is outs with
        | none => rw [hw] at h; exact h.elim
        | some S' =>
          rw [hw] at h
          obtain ⟨R', s'⟩ := R.lent nd c2 c3 kp (by rw [e1, e2]; exact oo) hw
          have eV : vis F S' σ H' = hid (F.M ++ locs S σ) H' := by unfold vis; rw [(wb_spec (σ := σ) nd hw).2.1]
          exact h l xs H' R' s' hl (by rw [eV, e1, e2]; exact rx)
      | exc c es outs =>
        rw [hF] at h
        intro da gs H' kp oo hda rg
        dsimp only at h
        cases hw : wb S is outs with
        | none => rw [hw] at h; exact h.elim
        | some S' =>
          rw [hw] at h
          obtain ⟨R', s'⟩ := R.lent nd c2 c3 kp (by rw [e1, e2]; exact oo) hw
          have eV : vis F S' σ H' = hid (F.M ++ locs S σ) H' := by unfold vis; rw [(wb_spec (σ := σ) nd hw).2.1]
          have z := h da gs H' R' s' (by rw [eV]; exact hda) (by rw [eV, e1, e2]; exact rg)
          rw [e1] at z
          exact z
    · rw [if_neg hn] at h; exact h.elim
end
section
variable {X : Cx} {cm : CM} {W : WX} {e : Expr} {es : List Expr} {mr : MAv} {pos p : Pos} {k n m : Nat} {f : Addr} {fd : FuncData} {ps ks : List Str} {L : List FA → RN} {x : Str} {gV : List V → List V → List V} {arr : List AV → List AV → List AV}
def lCallN (L : List FA → RN) (n : Nat) (arr : List AV → List AV → List AV) (ma : MAv) : Sg → Rs (List Dat) := fun S => (ma S).bind fun as S1 => if as.length = n then applyN L (arr as []) S1 else .bad
/-- f(e, ..), a new list -/
theorem gl_callN (Fk : FnG X.prog X.w X.K X.mg X.base (L2.CX X.prog X.w) k f fd ps (spN cm X.K L)) (hr : Room k X.A) (hgd : X.A.guards = some []) (tk : Takes X W) (hg : Gl X x) (hm : X.mg x = some (.ref f)) (hk : PySem.W.keepIn X.K (.ref f) = true) (hb : ∃ g, KBn X.K fd ps n [] g gV) (hA : Arr n 0 gV arr)
    (ha : PA X (e :: es) (tAv cm X.K W mr)) (hdb : (x == ("__debug__" : Str)) = false := by decide) (he : starEach (e :: es) X.env = (false, eval e X.env) :: starEach es X.env := by rfl) (hpl : (backTo pos (starEach es X.env)).any (·.1) = false := by rfl) :
    PE X (.Call (.Name x p) (e :: es) [] pos) (tL cm X.K W (lCallN L n arr mr)) := by
  obtain ⟨g, hb⟩ := hb
  refine ⟨fun pins s σ H Q I ⟨F, S, e1, e2, R, h⟩ => wpAny_Call_Name_kw (ld_glob I hg hm (PySem.W.callWith_K (h₀ := X.base) I.ok.mod.kin hk (thn (ha.run pos pins s σ H (fun vs H1 => ∃ as S1, Rel F S1 σ H1 ∧ AvsOk cm X.K σ (vis F S1 σ H1) vs as ∧ as.length = n ∧ outL F W σ (vis F S1 σ H1) Q (applyN L (arr as []) S1)) I
      (tG_bindL e1 e2 R h fun vs H1 as S1 R1 s1 p1 h1 => ?_)) fun us s1 ⟨vs, H1, I1, r, as, S1, R1, p1, hl, h1⟩ => ⟨I1.kIn, ?_⟩) he hpl) hdb)⟩
  · by_cases hz : as.length = n
    · rw [if_pos hz] at h1
      exact ⟨as, S1, R1, p1, hz, h1⟩
    · rw [if_neg hz] at h1; exact h1.elim
  · have lv : vs.length = n := by rw [AvsOk.length p1]; exact hl
    exact run_g (us := us) (kw := []) Fk hr hgd tk I1 (hb.to s1 us [] I1.kIn (by rw [← r.length]; exact lv) rfl) (hb.rel r .nil) (applyN_ok e1 e2 R1 (hA.ok lv rfl p1 .nil) h1)
end
end Mir

/-! MirZF: the native side of MirZ .. MirZE -/
namespace Mir
open PySem
section
variable {S S1 S2 S3 : Sg} {ma mb : ME} {d : Dat} {i j : Nat} {P : Rs Fl → Prop} {rest : MS} {ds : List Dat}
/-! flat values -/
theorem fl_I (x : Int) : flat (eI x) = true := by simp [flat, eI]
theorem fl_B (x : Bool) : flat (eB x) = true := by simp [flat, eB]
theorem fl_S (x : Str) : flat (eS x) = true := by simp [flat, eS]
theorem fl_U (x : Unit) : flat (eU x) = true := by simp [flat, eU]
theorem fl_O {α : Type} {f : α → Dat} (h : ∀ x, flat (f x) = true) (o : Option α) : flat (eO f o) = true := by
  cases o with
  | none => simp [flat, eO]
  | some x => simp [eO]; exact h x
theorem fl_2 {α β : Type} {f : α → Dat} {g : β → Dat} (h1 : ∀ x, flat (f x) = true) (h2 : ∀ x, flat (g x) = true) (p : α × β) : flat (e2 f g p) = true := by simp [flat, flats, e2, h1, h2]
theorem fl_3 {α β γ : Type} {f : α → Dat} {g : β → Dat} {k : γ → Dat} (h1 : ∀ x, flat (f x) = true) (h2 : ∀ x, flat (g x) = true) (h3 : ∀ x, flat (k x) = true) (p : α × β × γ) : flat (e3 f g k p) = true := by simp [flat, flats, e3, h1, h2, h3]
theorem fls {α : Type} {f : α → Dat} (h : ∀ x, flat (f x) = true) (xs : List α) : flats (xs.map f) = true := by
  induction xs with
  | nil => simp [flats]
  | cons x r ih => simp [flats, h, ih]
theorem flO_nil : flatO [] = true := by simp [flatO]
theorem flO_cons {α : Type} {f : α → Dat} {xs : List α} {os : List Own} (h : ∀ x, flat (f x) = true) (r : flatO os = true) : flatO (.lst (xs.map f) :: os) = true := by simp [flatO, fls h, r]
theorem flO_rng {g : Rg} {os : List Own} (r : flatO os = true) : flatO (g.own :: os) = true := by simp [flatO, Rg.own, Rg.ds, flats, flat, r]
/-! lists that are only looked at -/
theorem q_see {n : Nat} {Fn : List FA → RF} {as : List FA} {outs : List Own} (h1 : as[n]? = some (.own (.lst ds))) (h2 : Fn (as.set n (.dat (.lst ds))) = .ok d outs) (hf : flat d = true) (ho : flatO outs = true) : see1 n Fn as = .ok d (insAt (.lst ds) (nOwn (as.take n)) outs) := by
  unfold see1
  rw [h1]
  simp only [h2, seeR, hf, ho, Bool.and_self, if_true]
theorem q_see0 {n : Nat} {Fn : List FA → RF} {as : List FA} {e : Dat} {r : RF} (h1 : as[n]? = some (.dat e)) (h2 : Fn as = r) : see1 n Fn as = r := by
  unfold see1
  rw [h1]
  exact h2
theorem q_seeN {n : Nat} {L : List FA → RN} {as : List FA} {es : List Dat} {outs : List Own} (h1 : as[n]? = some (.own (.lst ds))) (h2 : L (as.set n (.dat (.lst ds))) = .ok es outs) (hf : flats es = true) (ho : flatO outs = true) : seeN n L as = .ok es (insAt (.lst ds) (nOwn (as.take n)) outs) := by
  unfold seeN
  rw [h1]
  simp only [h2, seeRN, hf, ho, Bool.and_self, if_true]
theorem q_seeN0 {n : Nat} {L : List FA → RN} {as : List FA} {e : Dat} {r : RN} (h1 : as[n]? = some (.dat e)) (h2 : L as = r) : seeN n L as = r := by
  unfold seeN
  rw [h1]
  exact h2
theorem q_dat {L : List FA → RN} {as : List FA} {es : List Dat} {outs : List Own} (h : L as = .ok es outs) : datN L as = .ok (.lst es) outs := by unfold datN; rw [h]
/-! calls for new lists -/
theorem l_callN {L : List FA → RN} {n : Nat} {arr : List AV → List AV → List AV} {mA : MAv} {as : List AV} {fs : List FA} {is : List Nat} {outs : List Own} {es : List Dat} (ha : mA S = .ok as S1) (hl : as.length = n) (hf : fetch S1 (arr as []) = some (fs, is)) (nd : nodupB is = true) (hF : L fs = .ok es outs) (hw : wb S1 is outs = some S2) : lCallN L n arr mA S = .ok es S2 := by
  unfold lCallN; rw [ha, Rs.bind_ok, if_pos hl]; unfold applyN; simp only [hf, nd, if_true, hF, hw]
/-! bodies -/
def conv (k : MN) : Rs Fl → Rs (Option (List Dat))
  | .ok .nx S => k S
  | .exc c fs S => .exc c fs S
  | _ => .bad
theorem nseq_assoc (a b : MS) (k : MN) : nSeq (nLift a) (nSeq (nLift b) k) = nSeq (nLift (mSeq a b)) k := by
  funext S
  unfold nSeq nLift mSeq
  cases a S with
  | bad => rfl
  | exc c fs S1 => rfl
  | ok f S1 => cases f <;> rfl
def EndN (k : Nat) : Rs (Option (List Dat)) → RN
  | .ok (some ds) S => (match outsFrom 0 k S with
    | some outs => .ok ds outs
    | none => .bad)
  | .exc c fs S => (match outsFrom 0 k S with
    | some outs => .exc c fs outs
    | none => .bad)
  | _ => .bad
theorem fN_run {np n : Nat} {m : MN} {a : MS} {kn : MN} {as : List FA} {r : RN} {k : Nat} {S : Sg} (hm : m = nSeq (nLift a) kn) (hl : as.length = np) (hk : nOwn as = k) (hS : mkSlots 0 as ++ List.replicate (n - np) .no = S) (h : EndN k (conv kn (a S)) = r) : runN np n m as = r := by
  subst hm
  unfold runN
  rw [if_pos hl, hk, hS]
  rw [← h]
  have e : nSeq (nLift a) kn S = conv kn (a S) := by
    unfold nSeq nLift conv
    cases a S with
    | bad => rfl
    | exc c fs S1 => rfl
    | ok f S1 => cases f <;> rfl
  rw [e]
  unfold EndN
  cases conv kn (a S) with
  | bad => rfl
  | exc c fs S1 => rfl
  | ok f S1 => cases f <;> rfl
/-! statements -/
theorem s_parF {mL : Sg → Rs (List Dat)} (h1 : mL S = .ok ds S1) (h2 : mb S1 = .ok d S2) (hS : (S2.set i (.loc ds)).set j (.dat d) = S3) (k : P (rest S3)) : P (mSeq (mParF i j mL mb) rest S) := s_run (by unfold mParF; rw [h1, Rs.bind_ok, h2, Rs.bind_ok, hS]) k
theorem s_parG {mL : Sg → Rs (List Dat)} (h1 : ma S = .ok d S1) (h2 : mL S1 = .ok ds S2) (hS : (S2.set i (.dat d)).set j (.loc ds) = S3) (k : P (rest S3)) : P (mSeq (mParG i j ma mL) rest S) := s_run (by unfold mParG; rw [h1, Rs.bind_ok, h2, Rs.bind_ok, hS]) k
/-! new lists -/
def lrange2N (a b : Int) : Option (List Int) := if -(2 ^ 62) ≤ a ∧ a < 2 ^ 62 ∧ -(2 ^ 62) ≤ b ∧ b < 2 ^ 62 ∧ b - a < 1000000 then some (rangeI a b) else none
theorem l_range2 {a b : Int} {xs : List Int} (h1 : ma S = .ok (.int a) S1) (h2 : mb S1 = .ok (.int b) S2) (h : lrange2N a b = some xs) : lRg2 ma mb S = .ok (xs.map eI) S2 := by
  unfold lrange2N at h
  split at h
  · rename_i z; cases h
    unfold lRg2
    rw [h1, Rs.bind_ok, h2, Rs.bind_ok]
    dsimp only
    rw [if_pos z]
    congr 1
    unfold rgD rangeI
    rw [List.map_map]
    rfl
  · cases h
theorem l_ifQ {ct : MT} {t : Bool} {α : Type} {f : α → List Dat} {st : α → Sg} {nA nB : Option α} {v : α} {x y : Sg → Rs (List Dat)} (hc : ct S = .ok t S1) (ha : ∀ v, nA = some v → x S1 = .ok (f v) (st v)) (hb : ∀ v, nB = some v → y S1 = .ok (f v) (st v)) (h : (if t = true then nA else nB) = some v) : lIf ct x y S = .ok (f v) (st v) := by
  unfold lIf; rw [hc, Rs.bind_ok]
  cases t with
  | true => exact ha v h
  | false => exact hb v h
/-! enumerate(reversed(..), start=k) -/
def enumZ {α : Type} : Int → List α → List (Int × α)
  | _, [] => []
  | k, x :: r => (k, x) :: enumZ (k + 1) r
theorem enumK_map {α : Type} {f : α → Dat} : ∀ (xs : List α) (k : Int), enumK k (xs.map f) = (enumZ k xs).map (e2 eI f)
  | [], k => rfl
  | x :: r, k => by simp [enumK, enumZ, e2, eI, enumK_map r (k + 1)]
theorem i_enumR {α : Type} {f : α → Dat} {xs : List α} {k : Int} (h : ma S = .ok (eL f xs) S1) : mEnumR k ma S = .ok ((enumZ k xs.reverse).map (e2 eI f)) S1 := by
  unfold mEnumR
  rw [h, Rs.bind_ok, ← enumK_map, List.map_reverse]
  rfl
end
end Mir

/-! MirZG: what a body of a def that gives a new list comes to -/
namespace Mir
open PySem
def EndsN (k i : Nat) (q : RN) (x : Rs Fl) : Prop := EndN k (conv (nRetV i) x) = q
end Mir

/-! CrvM: curves, the plain side: a form's values; two forms with one function -/
namespace Crv
/-- the value of the form (vs, p, g) at a length -/
def vat (vs : List Int) (p : Nat) (g : Int) (l : Nat) : Int :=
  if l = 0 then 0 else if l ≤ vs.length then vs.getD (l - 1) 0
  else vs.getD (l - (l - vs.length + p - 1) / p * p - 1) 0 + ((l - vs.length + p - 1) / p : Nat) * g
theorem vat_zero (vs : List Int) (p : Nat) (g : Int) : vat vs p g 0 = 0 := rfl
theorem vat_in {vs : List Int} {p : Nat} {g : Int} {l : Nat} (h0 : l ≠ 0) (h : l ≤ vs.length) : vat vs p g l = vs.getD (l - 1) 0 := by
  unfold vat
  rw [if_neg h0, if_pos h]
theorem vat_out {vs : List Int} {p : Nat} {g : Int} {l : Nat} (h : vs.length < l) : vat vs p g l = vs.getD (l - (l - vs.length + p - 1) / p * p - 1) 0 + ((l - vs.length + p - 1) / p : Nat) * g := by
  unfold vat
  rw [if_neg (by omega), if_neg (by omega)]
/-- behind the values: the value one period earlier, and the gain -/
theorem vat_step {vs : List Int} {p : Nat} {g : Int} {l : Nat} (hp : 0 < p) (hn : p ≤ vs.length) (h : vs.length < l) : vat vs p g l = vat vs p g (l - p) + g := by
  rw [vat_out h]
  by_cases hz : vs.length < l - p
  · rw [vat_out hz]
    have e : l - vs.length + p - 1 = (l - p - vs.length + p - 1) + p := by omega
    have d : (l - vs.length + p - 1) / p = (l - p - vs.length + p - 1) / p + 1 := by rw [e, Nat.add_div_right _ hp]
    rw [d]
    have m : ((l - p - vs.length + p - 1) / p + 1) * p = (l - p - vs.length + p - 1) / p * p + p := Nat.succ_mul _ _
    rw [m, show l - ((l - p - vs.length + p - 1) / p * p + p) - 1 = l - p - (l - p - vs.length + p - 1) / p * p - 1 by omega]
    rw [Int.natCast_add, Int.add_mul]
    simp only [Int.natCast_one, Int.one_mul]
    omega
  · have d : (l - vs.length + p - 1) / p = 1 := by
      have h1 : p ≤ l - vs.length + p - 1 := by omega
      have h2 : l - vs.length + p - 1 < 2 * p := by omega
      exact Nat.div_eq_of_lt_le (by omega) (by omega)
    rw [d, vat_in (l := l - p) (by omega) (by omega)]
    simp only [Nat.one_mul, Int.natCast_one, Int.one_mul]
/-- what tells a form's function -/
structure Fits (f : Nat → Int) (vs : List Int) (p : Nat) (g : Int) : Prop where
  p0 : 0 < p
  pn : p ≤ vs.length
  z : f 0 = 0
  i : ∀ l, l ≠ 0 → l ≤ vs.length → f l = vs.getD (l - 1) 0
  o : ∀ l, vs.length < l → f l = f (l - p) + g
theorem fits_vat {vs : List Int} {p : Nat} {g : Int} (hp : 0 < p) (hn : p ≤ vs.length) : Fits (vat vs p g) vs p g :=
  ⟨hp, hn, rfl, fun l h0 h => vat_in h0 h, fun l h => vat_step hp hn h⟩
theorem Fits.eq {f : Nat → Int} {vs : List Int} {p : Nat} {g : Int} (F : Fits f vs p g) : ∀ l, f l = vat vs p g l := by
  intro l
  induction l using Nat.strongRecOn with
  | _ l ih =>
    by_cases h0 : l = 0
    · rw [h0, F.z, vat_zero]
    · by_cases h : l ≤ vs.length
      · rw [F.i l h0 h, vat_in h0 h]
      · have hp := F.p0
        rw [F.o l (by omega), vat_step F.p0 F.pn (by omega), ih (l - p) (by omega)]
/-- growth by a period, told at twelve lengths, holds for ever -/
theorem grows_all {f : Nat → Int} {vs : List Int} {p : Nat} {g : Int} (F : Fits f vs p g) (hd : p ∣ 12) {q : Nat} {w : Int} (h : ∀ k, k < 12 → f (vs.length + 1 + k + q) - f (vs.length + 1 + k) = w) : ∀ l, vs.length < l → f (l + q) = f l + w := by
  have up : ∀ m l, vs.length < l → f (l + m * p) = f l + m * g := by
    intro m
    induction m with
    | zero => intro l _; simp
    | succ m ih =>
      intro l hl
      have hp := F.p0
      have e : l + (m + 1) * p = (l + m * p) + p := by rw [Nat.succ_mul]; omega
      rw [e, F.o (l + m * p + p) (by omega), Nat.add_sub_cancel, ih l hl]
      rw [Int.natCast_add, Int.add_mul]
      simp only [Int.natCast_one, Int.one_mul]
      omega
  obtain ⟨c, hc⟩ := hd
  have up12 : ∀ l, vs.length < l → f (l + 12) = f l + c * g := fun l hl => by
    have := up c l hl
    rw [Nat.mul_comm, ← hc] at this
    exact this
  intro l
  induction l using Nat.strongRecOn with
  | _ l ih =>
    intro hl
    by_cases hz : l < vs.length + 13
    · have := h (l - vs.length - 1) (by omega)
      rw [show vs.length + 1 + (l - vs.length - 1) = l by omega] at this
      omega
    · have i1 := ih (l - 12) (by omega) (by omega)
      have i2 := up12 (l - 12) (by omega)
      have i3 := up12 (l - 12 + q) (by omega)
      rw [show l - 12 + 12 = l by omega] at i2
      rw [show l - 12 + q + 12 = l + q by omega] at i3
      omega
/-- the first m values of a function -/
def firsts (f : Nat → Int) (m : Nat) : List Int := (List.range m).map fun k => f (k + 1)
theorem firsts_len (f : Nat → Int) (m : Nat) : (firsts f m).length = m := by unfold firsts; simp
theorem firsts_at (f : Nat → Int) {m l : Nat} (h0 : l ≠ 0) (h : l ≤ m) : (firsts f m).getD (l - 1) 0 = f l := by
  unfold firsts
  rw [List.getD_eq_getElem?_getD, List.getElem?_map, List.getElem?_range (by omega)]
  simp only [Option.map_some, Option.getD_some]
  congr 1
  omega
theorem firsts_fit {f : Nat → Int} {m q : Nat} {w : Int} (z : f 0 = 0) (q0 : 0 < q) (qm : q ≤ m) (h : ∀ l, m < l → f l = f (l - q) + w) : Fits f (firsts f m) q w :=
  ⟨q0, by rw [firsts_len]; exact qm, z, fun l h0 hl => by rw [firsts_len] at hl; exact (firsts_at f h0 hl).symm, fun l hl => by rw [firsts_len] at hl; exact h l hl⟩
end Crv

namespace K24
open PySem PySem.Spec PyProof.Rows L2 Mir
noncomputable section
def topS (i : Nat) : Stmt := PySem.Challenge.pw_dueways_k24_whole_shaped_records.main.body.getD i (.Pass ⟨0, 0, 0, 0⟩)
abbrev s_l_draw : Stmt := topS 32
abbrev s_l_choice : Stmt := topS 33
abbrev s_l_rows : Stmt := topS 36
abbrev s_l_at : Stmt := topS 34
abbrev s_l_is_good : Stmt := topS 35
abbrev s_l_row : Stmt := topS 37
abbrev s_is_integer : Stmt := topS 12
abbrev s_is_count : Stmt := topS 13
abbrev s_check_values : Stmt := topS 18
abbrev s_value_at : Stmt := topS 15
abbrev s_check_growth : Stmt := topS 19
abbrev s_grows_by : Stmt := topS 16
abbrev s_form_of : Stmt := topS 17
abbrev s_Curve_init0 : Stmt := inClass (topS 20) 0
abbrev s_l_ends_well : Stmt := topS 39
abbrev s_l_record : Stmt := topS 41
abbrev s_l_walked : Stmt := topS 40
abbrev s_check_record : Stmt := topS 24
abbrev s_Curve_at : Stmt := inClass (topS 20) 6
abbrev s_Curve_find_break : Stmt := inClass (topS 20) 7
abbrev s_require_good : Stmt := topS 22
abbrev s_allowance : Stmt := topS 28
abbrev s_shaped : Stmt := topS 29
abbrev s_l_is_kept : Stmt := topS 38
abbrev s_sums_of : Stmt := topS 25
abbrev s_breach : Stmt := topS 26
abbrev s_keeps : Stmt := topS 27
abbrev s_l_right : Stmt := topS 42
abbrev s_l_rng : Stmt := topS 31
abbrev s_law : Stmt := topS 43
def d_l_draw : DefM := ⟨.glo "_law_draw", "_law_draw", "_law_draw", s_l_draw, [], []⟩
def d_l_choice : DefM := ⟨.glo "_law_choice", "_law_choice", "_law_choice", s_l_choice, [], []⟩
def d_l_rows : DefM := ⟨.glo "_law_rows", "_law_rows", "_law_rows", s_l_rows, [], []⟩
def d_l_at : DefM := ⟨.glo "_law_at", "_law_at", "_law_at", s_l_at, [], []⟩
def d_l_is_good : DefM := ⟨.glo "_law_is_good", "_law_is_good", "_law_is_good", s_l_is_good, [], []⟩
def d_l_row : DefM := ⟨.glo "_law_row", "_law_row", "_law_row", s_l_row, [], []⟩
def d_is_integer : DefM := ⟨.glo "is_integer", "is_integer", "is_integer", s_is_integer, [], []⟩
def d_is_count : DefM := ⟨.glo "is_count", "is_count", "is_count", s_is_count, [.non], []⟩
def d_check_values : DefM := ⟨.glo "check_values", "check_values", "check_values", s_check_values, [], []⟩
def d_value_at : DefM := ⟨.glo "value_at", "value_at", "value_at", s_value_at, [], []⟩
def d_check_growth : DefM := ⟨.glo "check_growth", "check_growth", "check_growth", s_check_growth, [], []⟩
def d_grows_by : DefM := ⟨.glo "grows_by", "grows_by", "grows_by", s_grows_by, [], []⟩
def d_form_of : DefM := ⟨.glo "form_of", "form_of", "form_of", s_form_of, [], []⟩
def d_Curve_init0 : DefM := ⟨.mth "Curve" "__init__", "__init__", "Curve.__init__", s_Curve_init0, [], [("period", .int 1), ("gain", .int 0)]⟩
def d_l_ends_well : DefM := ⟨.glo "_law_ends_well", "_law_ends_well", "_law_ends_well", s_l_ends_well, [], []⟩
def d_l_record : DefM := ⟨.glo "_law_record", "_law_record", "_law_record", s_l_record, [], []⟩
def d_l_walked : DefM := ⟨.glo "_law_walked", "_law_walked", "_law_walked", s_l_walked, [], []⟩
def d_check_record : DefM := ⟨.glo "check_record", "check_record", "check_record", s_check_record, [], []⟩
def d_Curve_at : DefM := ⟨.mth "Curve" "at", "at", "Curve.at", s_Curve_at, [], []⟩
def d_Curve_find_break : DefM := ⟨.mth "Curve" "find_break", "find_break", "Curve.find_break", s_Curve_find_break, [], []⟩
def d_require_good : DefM := ⟨.glo "require_good", "require_good", "require_good", s_require_good, [], []⟩
def d_allowance : DefM := ⟨.glo "allowance", "allowance", "allowance", s_allowance, [], []⟩
def d_shaped : DefM := ⟨.glo "shaped", "shaped", "shaped", s_shaped, [], []⟩
def d_l_is_kept : DefM := ⟨.glo "_law_is_kept", "_law_is_kept", "_law_is_kept", s_l_is_kept, [], []⟩
def d_sums_of : DefM := ⟨.glo "sums_of", "sums_of", "sums_of", s_sums_of, [], []⟩
def d_breach : DefM := ⟨.glo "breach", "breach", "breach", s_breach, [], []⟩
def d_keeps : DefM := ⟨.glo "keeps", "keeps", "keeps", s_keeps, [], []⟩
def d_l_right : DefM := ⟨.glo "_law_right", "_law_right", "_law_right", s_l_right, [], []⟩
def d_l_rng : DefM := ⟨.glo "_law_rng", "_law_rng", "_law_rng", s_l_rng, [], []⟩
def d_law : DefM := ⟨.glo "law", "law", "law", s_law, [], []⟩
def fn : List DefM := [d_l_draw, d_l_choice, d_l_rows, d_l_at, d_l_is_good, d_l_row, d_is_integer, d_is_count, d_check_values, d_value_at, d_check_growth, d_grows_by, d_form_of, d_Curve_init0, d_l_ends_well, d_l_record, d_l_walked, d_check_record, d_Curve_at, d_Curve_find_break, d_require_good, d_allowance, d_shaped, d_l_is_kept, d_sums_of, d_breach, d_keeps, d_l_right, d_l_rng, d_law]
def fa : List Fc := [.he (.free "len"),
  .he (.free "min"),
  .he (.free "max"),
  .he (.free "range"),
  .he (.free "divmod"),
  .he (.free "int"),
  .he (.glo "_law_draw"),
  .he (.glo "_law_rows"),
  .he (.glo "_law_choice"),
  .he (.glo "_law_at"),
  .he (.glo "_law_is_good"),
  .he (.glo "_law_row"),
  .kit (.b "dict") (.b "list") false,
  .kit (.b "tuple") (.b "list") false,
  .kit (.b "list") (.b "list") true,
  .kit (.b "str") (.b "list") false,
  .kit (.b "int") (.b "list") false,
  .kit (.b "bool") (.b "list") false,
  .kit (.b "NoneType") (.b "list") false,
  .clsF "Curve",
  .kit (.c "Curve") (.b "list") false,
  .he (.free "list"),
  .he (.free "isinstance"),
  .he (.int "MAX_VALUES" 24),
  .he (.free "enumerate"),
  .kit (.b "dict") (.b "int") false,
  .kit (.b "tuple") (.b "int") false,
  .kit (.b "list") (.b "int") false,
  .kit (.b "str") (.b "int") false,
  .kit (.b "int") (.b "int") true,
  .kit (.b "bool") (.b "int") true,
  .kit (.b "NoneType") (.b "int") false,
  .kit (.c "Curve") (.b "int") false,
  .kit (.b "dict") (.b "bool") false,
  .kit (.b "tuple") (.b "bool") false,
  .kit (.b "list") (.b "bool") false,
  .kit (.b "str") (.b "bool") false,
  .kit (.b "int") (.b "bool") false,
  .kit (.b "bool") (.b "bool") true,
  .kit (.b "NoneType") (.b "bool") false,
  .kit (.c "Curve") (.b "bool") false,
  .he (.free "bool"),
  .he (.glo "is_integer"),
  .he (.int "MAX_VALUE" 2000),
  .he (.glo "is_count"),
  .he (.glo "check_values"),
  .tupc "PERIODS" [.int 1, .int 2, .int 3, .int 4, .int 6, .int 12],
  .he (.glo "value_at"),
  .he (.glo "check_growth"),
  .he (.int "COMMON" 12),
  .he (.glo "grows_by"),
  .he (.glo "form_of"),
  .he (.noat "Curve" "own_gain"),
  .he (.noat "Curve" "own_period"),
  .he (.noat "Curve" "value_list"),
  .he (.mkr "Curve"),
  .he (.glo "Curve"),
  .he (.free "sum"),
  .he (.free "all"),
  .he (.glo "_law_ends_well"),
  .he (.glo "_law_record"),
  .he (.glo "_law_walked"),
  .he (.free "repr"),
  .he (.glo "check_record"),
  .he (.meth "Curve" "at"),
  .he (.meth "Curve" "find_break"),
  .he (.glo "require_good"),
  .he (.free "reversed"),
  .he (.glo "allowance"),
  .he (.glo "shaped"),
  .he (.free "any"),
  .he (.glo "_law_is_kept"),
  .he (.glo "sums_of"),
  .he (.glo "breach"),
  .he (.glo "keeps"),
  .he (.free "abs"),
  .he (.glo "_law_rng"),
  .he (.glo "_law_right"),
  .he (.glo "law")]
theorem bd_l_draw_2 {K : PySem.W.Frag} {fd : FuncData} (D : FunM K d_l_draw fd) : ∃ g, KBn K fd ["_law_rng_here", "_law_many"] 2 [] g (fun vs zs => [vs.getD 0 .non, vs.getD 1 .non]) :=
  kb_plain D 2 [] (fun us ws => [us.getD 0 .none, us.getD 1 .none]) (fun vs zs => [vs.getD 0 .non, vs.getD 1 .non]) (fun r1 r2 => .cons (Vals.at r1 0) (.cons (Vals.at r1 1) (.nil))) (fun _ _ _ _ _ _ us ws h1 h2 => match us, h1, ws, h2 with | [u0, u1], _, [], _ => rfl)
theorem ar_bd_l_draw_2 : Arr 2 0 (fun vs zs => [vs.getD 0 .non, vs.getD 1 .non]) (fun as bs => [as.getD 0 (.dat .non), as.getD 1 (.dat .non)]) := ⟨fun {cm K σ G vs zs as bs} l1 l2 a b => by
  match vs, l1, zs, l2, a, b with
  | [v0, v1], _, [], _, a, b => exact AvsOk.cons (a.at 0) (AvsOk.cons (a.at 1) (.nil))⟩
theorem bs_bd_l_draw_2 {K : PySem.W.Frag} {fd : FuncData} (D : FunM K d_l_draw fd) : ∃ g, KBn K fd ["_law_rng_here", "_law_many"] 2 [] g (fun vs _ => vs) :=
  kb_plain D 2 [] (fun us _ => us) (fun vs _ => vs) (fun r1 _ => r1) (fun _ _ _ _ _ _ us ws h1 h2 => match us, h1, ws, h2 with | [u0, u1], _, [], _ => rfl)
theorem bd_l_choice_2 {K : PySem.W.Frag} {fd : FuncData} (D : FunM K d_l_choice fd) : ∃ g, KBn K fd ["_law_rng_here", "_law_some"] 2 [] g (fun vs zs => [vs.getD 0 .non, vs.getD 1 .non]) :=
  kb_plain D 2 [] (fun us ws => [us.getD 0 .none, us.getD 1 .none]) (fun vs zs => [vs.getD 0 .non, vs.getD 1 .non]) (fun r1 r2 => .cons (Vals.at r1 0) (.cons (Vals.at r1 1) (.nil))) (fun _ _ _ _ _ _ us ws h1 h2 => match us, h1, ws, h2 with | [u0, u1], _, [], _ => rfl)
theorem ar_bd_l_choice_2 : Arr 2 0 (fun vs zs => [vs.getD 0 .non, vs.getD 1 .non]) (fun as bs => [as.getD 0 (.dat .non), as.getD 1 (.dat .non)]) := ⟨fun {cm K σ G vs zs as bs} l1 l2 a b => by
  match vs, l1, zs, l2, a, b with
  | [v0, v1], _, [], _, a, b => exact AvsOk.cons (a.at 0) (AvsOk.cons (a.at 1) (.nil))⟩
theorem bs_bd_l_choice_2 {K : PySem.W.Frag} {fd : FuncData} (D : FunM K d_l_choice fd) : ∃ g, KBn K fd ["_law_rng_here", "_law_some"] 2 [] g (fun vs _ => vs) :=
  kb_plain D 2 [] (fun us _ => us) (fun vs _ => vs) (fun r1 _ => r1) (fun _ _ _ _ _ _ us ws h1 h2 => match us, h1, ws, h2 with | [u0, u1], _, [], _ => rfl)
theorem bd_l_rows_0 {K : PySem.W.Frag} {fd : FuncData} (D : FunM K d_l_rows fd) : ∃ g, KBn K fd [] 0 [] g (fun vs zs => []) :=
  kb_plain D 0 [] (fun us ws => []) (fun vs zs => []) (fun r1 r2 => .nil) (fun _ _ _ _ _ _ us ws h1 h2 => match us, h1, ws, h2 with | [], _, [], _ => rfl)
theorem ar_bd_l_rows_0 : Arr 0 0 (fun vs zs => []) (fun as bs => []) := ⟨fun {cm K σ G vs zs as bs} l1 l2 a b => by
  match vs, l1, zs, l2, a, b with
  | [], _, [], _, a, b => exact .nil⟩
theorem bs_bd_l_rows_0 {K : PySem.W.Frag} {fd : FuncData} (D : FunM K d_l_rows fd) : ∃ g, KBn K fd [] 0 [] g (fun vs _ => vs) :=
  kb_plain D 0 [] (fun us _ => us) (fun vs _ => vs) (fun r1 _ => r1) (fun _ _ _ _ _ _ us ws h1 h2 => match us, h1, ws, h2 with | [], _, [], _ => rfl)
theorem bd_l_at_2 {K : PySem.W.Frag} {fd : FuncData} (D : FunM K d_l_at fd) : ∃ g, KBn K fd ["_law_row_here", "_law_size"] 2 [] g (fun vs zs => [vs.getD 0 .non, vs.getD 1 .non]) :=
  kb_plain D 2 [] (fun us ws => [us.getD 0 .none, us.getD 1 .none]) (fun vs zs => [vs.getD 0 .non, vs.getD 1 .non]) (fun r1 r2 => .cons (Vals.at r1 0) (.cons (Vals.at r1 1) (.nil))) (fun _ _ _ _ _ _ us ws h1 h2 => match us, h1, ws, h2 with | [u0, u1], _, [], _ => rfl)
theorem ar_bd_l_at_2 : Arr 2 0 (fun vs zs => [vs.getD 0 .non, vs.getD 1 .non]) (fun as bs => [as.getD 0 (.dat .non), as.getD 1 (.dat .non)]) := ⟨fun {cm K σ G vs zs as bs} l1 l2 a b => by
  match vs, l1, zs, l2, a, b with
  | [v0, v1], _, [], _, a, b => exact AvsOk.cons (a.at 0) (AvsOk.cons (a.at 1) (.nil))⟩
theorem bs_bd_l_at_2 {K : PySem.W.Frag} {fd : FuncData} (D : FunM K d_l_at fd) : ∃ g, KBn K fd ["_law_row_here", "_law_size"] 2 [] g (fun vs _ => vs) :=
  kb_plain D 2 [] (fun us _ => us) (fun vs _ => vs) (fun r1 _ => r1) (fun _ _ _ _ _ _ us ws h1 h2 => match us, h1, ws, h2 with | [u0, u1], _, [], _ => rfl)
theorem bd_l_is_good_1 {K : PySem.W.Frag} {fd : FuncData} (D : FunM K d_l_is_good fd) : ∃ g, KBn K fd ["_law_row_here"] 1 [] g (fun vs zs => [vs.getD 0 .non]) :=
  kb_plain D 1 [] (fun us ws => [us.getD 0 .none]) (fun vs zs => [vs.getD 0 .non]) (fun r1 r2 => .cons (Vals.at r1 0) (.nil)) (fun _ _ _ _ _ _ us ws h1 h2 => match us, h1, ws, h2 with | [u0], _, [], _ => rfl)
theorem ar_bd_l_is_good_1 : Arr 1 0 (fun vs zs => [vs.getD 0 .non]) (fun as bs => [as.getD 0 (.dat .non)]) := ⟨fun {cm K σ G vs zs as bs} l1 l2 a b => by
  match vs, l1, zs, l2, a, b with
  | [v0], _, [], _, a, b => exact AvsOk.cons (a.at 0) (.nil)⟩
theorem bs_bd_l_is_good_1 {K : PySem.W.Frag} {fd : FuncData} (D : FunM K d_l_is_good fd) : ∃ g, KBn K fd ["_law_row_here"] 1 [] g (fun vs _ => vs) :=
  kb_plain D 1 [] (fun us _ => us) (fun vs _ => vs) (fun r1 _ => r1) (fun _ _ _ _ _ _ us ws h1 h2 => match us, h1, ws, h2 with | [u0], _, [], _ => rfl)
theorem bd_l_row_1 {K : PySem.W.Frag} {fd : FuncData} (D : FunM K d_l_row fd) : ∃ g, KBn K fd ["_law_rng_here"] 1 [] g (fun vs zs => [vs.getD 0 .non]) :=
  kb_plain D 1 [] (fun us ws => [us.getD 0 .none]) (fun vs zs => [vs.getD 0 .non]) (fun r1 r2 => .cons (Vals.at r1 0) (.nil)) (fun _ _ _ _ _ _ us ws h1 h2 => match us, h1, ws, h2 with | [u0], _, [], _ => rfl)
theorem ar_bd_l_row_1 : Arr 1 0 (fun vs zs => [vs.getD 0 .non]) (fun as bs => [as.getD 0 (.dat .non)]) := ⟨fun {cm K σ G vs zs as bs} l1 l2 a b => by
  match vs, l1, zs, l2, a, b with
  | [v0], _, [], _, a, b => exact AvsOk.cons (a.at 0) (.nil)⟩
theorem bs_bd_l_row_1 {K : PySem.W.Frag} {fd : FuncData} (D : FunM K d_l_row fd) : ∃ g, KBn K fd ["_law_rng_here"] 1 [] g (fun vs _ => vs) :=
  kb_plain D 1 [] (fun us _ => us) (fun vs _ => vs) (fun r1 _ => r1) (fun _ _ _ _ _ _ us ws h1 h2 => match us, h1, ws, h2 with | [u0], _, [], _ => rfl)
theorem bd_is_integer_1 {K : PySem.W.Frag} {fd : FuncData} (D : FunM K d_is_integer fd) : ∃ g, KBn K fd ["value"] 1 [] g (fun vs zs => [vs.getD 0 .non]) :=
  kb_plain D 1 [] (fun us ws => [us.getD 0 .none]) (fun vs zs => [vs.getD 0 .non]) (fun r1 r2 => .cons (Vals.at r1 0) (.nil)) (fun _ _ _ _ _ _ us ws h1 h2 => match us, h1, ws, h2 with | [u0], _, [], _ => rfl)
theorem ar_bd_is_integer_1 : Arr 1 0 (fun vs zs => [vs.getD 0 .non]) (fun as bs => [as.getD 0 (.dat .non)]) := ⟨fun {cm K σ G vs zs as bs} l1 l2 a b => by
  match vs, l1, zs, l2, a, b with
  | [v0], _, [], _, a, b => exact AvsOk.cons (a.at 0) (.nil)⟩
theorem bs_bd_is_integer_1 {K : PySem.W.Frag} {fd : FuncData} (D : FunM K d_is_integer fd) : ∃ g, KBn K fd ["value"] 1 [] g (fun vs _ => vs) :=
  kb_plain D 1 [] (fun us _ => us) (fun vs _ => vs) (fun r1 _ => r1) (fun _ _ _ _ _ _ us ws h1 h2 => match us, h1, ws, h2 with | [u0], _, [], _ => rfl)
theorem bd_is_count_2 {K : PySem.W.Frag} {fd : FuncData} (D : FunM K d_is_count fd) : ∃ g, KBn K fd ["value", "most"] 2 [] g (fun vs zs => (vs.drop 0).take 1 ++ ((vs.drop 1).take 1)) :=
  kb_dfl D 2 [] (fun {α} vs ds zs => (vs.drop 0).take 1 ++ ((vs.drop 1).take 1)) (List.cons_ne_nil _ _) (fun r1 r2 r3 => vapp (vp r1 0) (vp r1 1)) (fun _ _ _ _ _ _ _ us its ws h1 h2 h3 => match us, h1, its, h2, ws, h3 with | [u0, u1], _, [i0], _, [], _ => ⟨_, rfl, rfl⟩)
theorem ar_bd_is_count_2 : Arr 2 0 (fun vs zs => (vs.drop 0).take 1 ++ ((vs.drop 1).take 1)) (fun as bs => [as.getD 0 (.dat .non), as.getD 1 (.dat .non)]) := ⟨fun {cm K σ G vs zs as bs} l1 l2 a b => by
  match vs, l1, zs, l2, a, b with
  | [v0, v1], _, [], _, a, b => exact AvsOk.cons (a.at 0) (AvsOk.cons (a.at 1) (.nil))⟩
theorem bd_check_values_1 {K : PySem.W.Frag} {fd : FuncData} (D : FunM K d_check_values fd) : ∃ g, KBn K fd ["values"] 1 [] g (fun vs zs => [vs.getD 0 .non]) :=
  kb_plain D 1 [] (fun us ws => [us.getD 0 .none]) (fun vs zs => [vs.getD 0 .non]) (fun r1 r2 => .cons (Vals.at r1 0) (.nil)) (fun _ _ _ _ _ _ us ws h1 h2 => match us, h1, ws, h2 with | [u0], _, [], _ => rfl)
theorem ar_bd_check_values_1 : Arr 1 0 (fun vs zs => [vs.getD 0 .non]) (fun as bs => [as.getD 0 (.dat .non)]) := ⟨fun {cm K σ G vs zs as bs} l1 l2 a b => by
  match vs, l1, zs, l2, a, b with
  | [v0], _, [], _, a, b => exact AvsOk.cons (a.at 0) (.nil)⟩
theorem bs_bd_check_values_1 {K : PySem.W.Frag} {fd : FuncData} (D : FunM K d_check_values fd) : ∃ g, KBn K fd ["values"] 1 [] g (fun vs _ => vs) :=
  kb_plain D 1 [] (fun us _ => us) (fun vs _ => vs) (fun r1 _ => r1) (fun _ _ _ _ _ _ us ws h1 h2 => match us, h1, ws, h2 with | [u0], _, [], _ => rfl)
theorem bd_value_at_4 {K : PySem.W.Frag} {fd : FuncData} (D : FunM K d_value_at fd) : ∃ g, KBn K fd ["values", "period", "gain", "length"] 4 [] g (fun vs zs => [vs.getD 0 .non, vs.getD 1 .non, vs.getD 2 .non, vs.getD 3 .non]) :=
  kb_plain D 4 [] (fun us ws => [us.getD 0 .none, us.getD 1 .none, us.getD 2 .none, us.getD 3 .none]) (fun vs zs => [vs.getD 0 .non, vs.getD 1 .non, vs.getD 2 .non, vs.getD 3 .non]) (fun r1 r2 => .cons (Vals.at r1 0) (.cons (Vals.at r1 1) (.cons (Vals.at r1 2) (.cons (Vals.at r1 3) (.nil))))) (fun _ _ _ _ _ _ us ws h1 h2 => match us, h1, ws, h2 with | [u0, u1, u2, u3], _, [], _ => rfl)
theorem ar_bd_value_at_4 : Arr 4 0 (fun vs zs => [vs.getD 0 .non, vs.getD 1 .non, vs.getD 2 .non, vs.getD 3 .non]) (fun as bs => [as.getD 0 (.dat .non), as.getD 1 (.dat .non), as.getD 2 (.dat .non), as.getD 3 (.dat .non)]) := ⟨fun {cm K σ G vs zs as bs} l1 l2 a b => by
  match vs, l1, zs, l2, a, b with
  | [v0, v1, v2, v3], _, [], _, a, b => exact AvsOk.cons (a.at 0) (AvsOk.cons (a.at 1) (AvsOk.cons (a.at 2) (AvsOk.cons (a.at 3) (.nil))))⟩
theorem bs_bd_value_at_4 {K : PySem.W.Frag} {fd : FuncData} (D : FunM K d_value_at fd) : ∃ g, KBn K fd ["values", "period", "gain", "length"] 4 [] g (fun vs _ => vs) :=
  kb_plain D 4 [] (fun us _ => us) (fun vs _ => vs) (fun r1 _ => r1) (fun _ _ _ _ _ _ us ws h1 h2 => match us, h1, ws, h2 with | [u0, u1, u2, u3], _, [], _ => rfl)
theorem bd_check_growth_3 {K : PySem.W.Frag} {fd : FuncData} (D : FunM K d_check_growth fd) : ∃ g, KBn K fd ["values", "period", "gain"] 3 [] g (fun vs zs => [vs.getD 0 .non, vs.getD 1 .non, vs.getD 2 .non]) :=
  kb_plain D 3 [] (fun us ws => [us.getD 0 .none, us.getD 1 .none, us.getD 2 .none]) (fun vs zs => [vs.getD 0 .non, vs.getD 1 .non, vs.getD 2 .non]) (fun r1 r2 => .cons (Vals.at r1 0) (.cons (Vals.at r1 1) (.cons (Vals.at r1 2) (.nil)))) (fun _ _ _ _ _ _ us ws h1 h2 => match us, h1, ws, h2 with | [u0, u1, u2], _, [], _ => rfl)
theorem ar_bd_check_growth_3 : Arr 3 0 (fun vs zs => [vs.getD 0 .non, vs.getD 1 .non, vs.getD 2 .non]) (fun as bs => [as.getD 0 (.dat .non), as.getD 1 (.dat .non), as.getD 2 (.dat .non)]) := ⟨fun {cm K σ G vs zs as bs} l1 l2 a b => by
  match vs, l1, zs, l2, a, b with
  | [v0, v1, v2], _, [], _, a, b => exact AvsOk.cons (a.at 0) (AvsOk.cons (a.at 1) (AvsOk.cons (a.at 2) (.nil)))⟩
theorem bs_bd_check_growth_3 {K : PySem.W.Frag} {fd : FuncData} (D : FunM K d_check_growth fd) : ∃ g, KBn K fd ["values", "period", "gain"] 3 [] g (fun vs _ => vs) :=
  kb_plain D 3 [] (fun us _ => us) (fun vs _ => vs) (fun r1 _ => r1) (fun _ _ _ _ _ _ us ws h1 h2 => match us, h1, ws, h2 with | [u0, u1, u2], _, [], _ => rfl)
theorem bd_grows_by_4 {K : PySem.W.Frag} {fd : FuncData} (D : FunM K d_grows_by fd) : ∃ g, KBn K fd ["values", "period", "gain", "other"] 4 [] g (fun vs zs => [vs.getD 0 .non, vs.getD 1 .non, vs.getD 2 .non, vs.getD 3 .non]) :=
  kb_plain D 4 [] (fun us ws => [us.getD 0 .none, us.getD 1 .none, us.getD 2 .none, us.getD 3 .none]) (fun vs zs => [vs.getD 0 .non, vs.getD 1 .non, vs.getD 2 .non, vs.getD 3 .non]) (fun r1 r2 => .cons (Vals.at r1 0) (.cons (Vals.at r1 1) (.cons (Vals.at r1 2) (.cons (Vals.at r1 3) (.nil))))) (fun _ _ _ _ _ _ us ws h1 h2 => match us, h1, ws, h2 with | [u0, u1, u2, u3], _, [], _ => rfl)
theorem ar_bd_grows_by_4 : Arr 4 0 (fun vs zs => [vs.getD 0 .non, vs.getD 1 .non, vs.getD 2 .non, vs.getD 3 .non]) (fun as bs => [as.getD 0 (.dat .non), as.getD 1 (.dat .non), as.getD 2 (.dat .non), as.getD 3 (.dat .non)]) := ⟨fun {cm K σ G vs zs as bs} l1 l2 a b => by
  match vs, l1, zs, l2, a, b with
  | [v0, v1, v2, v3], _, [], _, a, b => exact AvsOk.cons (a.at 0) (AvsOk.cons (a.at 1) (AvsOk.cons (a.at 2) (AvsOk.cons (a.at 3) (.nil))))⟩
theorem bs_bd_grows_by_4 {K : PySem.W.Frag} {fd : FuncData} (D : FunM K d_grows_by fd) : ∃ g, KBn K fd ["values", "period", "gain", "other"] 4 [] g (fun vs _ => vs) :=
  kb_plain D 4 [] (fun us _ => us) (fun vs _ => vs) (fun r1 _ => r1) (fun _ _ _ _ _ _ us ws h1 h2 => match us, h1, ws, h2 with | [u0, u1, u2, u3], _, [], _ => rfl)
theorem bd_form_of_3 {K : PySem.W.Frag} {fd : FuncData} (D : FunM K d_form_of fd) : ∃ g, KBn K fd ["values", "period", "gain"] 3 [] g (fun vs zs => [vs.getD 0 .non, vs.getD 1 .non, vs.getD 2 .non]) :=
  kb_plain D 3 [] (fun us ws => [us.getD 0 .none, us.getD 1 .none, us.getD 2 .none]) (fun vs zs => [vs.getD 0 .non, vs.getD 1 .non, vs.getD 2 .non]) (fun r1 r2 => .cons (Vals.at r1 0) (.cons (Vals.at r1 1) (.cons (Vals.at r1 2) (.nil)))) (fun _ _ _ _ _ _ us ws h1 h2 => match us, h1, ws, h2 with | [u0, u1, u2], _, [], _ => rfl)
theorem ar_bd_form_of_3 : Arr 3 0 (fun vs zs => [vs.getD 0 .non, vs.getD 1 .non, vs.getD 2 .non]) (fun as bs => [as.getD 0 (.dat .non), as.getD 1 (.dat .non), as.getD 2 (.dat .non)]) := ⟨fun {cm K σ G vs zs as bs} l1 l2 a b => by
  match vs, l1, zs, l2, a, b with
  | [v0, v1, v2], _, [], _, a, b => exact AvsOk.cons (a.at 0) (AvsOk.cons (a.at 1) (AvsOk.cons (a.at 2) (.nil)))⟩
theorem bs_bd_form_of_3 {K : PySem.W.Frag} {fd : FuncData} (D : FunM K d_form_of fd) : ∃ g, KBn K fd ["values", "period", "gain"] 3 [] g (fun vs _ => vs) :=
  kb_plain D 3 [] (fun us _ => us) (fun vs _ => vs) (fun r1 _ => r1) (fun _ _ _ _ _ _ us ws h1 h2 => match us, h1, ws, h2 with | [u0, u1, u2], _, [], _ => rfl)
theorem bd_Curve_init0_2_period_gain {K : PySem.W.Frag} {fd : FuncData} (D : FunM K d_Curve_init0 fd) : ∃ g, KBn K fd ["self", "values", "period", "gain"] 2 ["period", "gain"] g (fun vs zs => [vs.getD 0 .non, vs.getD 1 .non, zs.getD 0 .non, zs.getD 1 .non]) :=
  kb_plain D 2 ["period", "gain"] (fun us ws => [us.getD 0 .none, us.getD 1 .none, ws.getD 0 .none, ws.getD 1 .none]) (fun vs zs => [vs.getD 0 .non, vs.getD 1 .non, zs.getD 0 .non, zs.getD 1 .non]) (fun r1 r2 => .cons (Vals.at r1 0) (.cons (Vals.at r1 1) (.cons (Vals.at r2 0) (.cons (Vals.at r2 1) (.nil))))) (fun _ _ _ _ _ _ us ws h1 h2 => match us, h1, ws, h2 with | [u0, u1], _, [w0, w1], _ => rfl)
theorem ar_bd_Curve_init0_2_period_gain : Arr 2 2 (fun vs zs => [vs.getD 0 .non, vs.getD 1 .non, zs.getD 0 .non, zs.getD 1 .non]) (fun as bs => [as.getD 0 (.dat .non), as.getD 1 (.dat .non), bs.getD 0 (.dat .non), bs.getD 1 (.dat .non)]) := ⟨fun {cm K σ G vs zs as bs} l1 l2 a b => by
  match vs, l1, zs, l2, a, b with
  | [v0, v1], _, [z0, z1], _, a, b => exact AvsOk.cons (a.at 0) (AvsOk.cons (a.at 1) (AvsOk.cons (b.at 0) (AvsOk.cons (b.at 1) (.nil))))⟩
theorem as_bd_Curve_init0_2_period_gain : Arr 1 2 (fun vs zs => [vs.getD 0 .non, zs.getD 0 .non, zs.getD 1 .non]) (fun as bs => [as.getD 0 (.dat .non), bs.getD 0 (.dat .non), bs.getD 1 (.dat .non)]) := ⟨fun {cm K σ G vs zs as bs} l1 l2 a b => by
  match vs, l1, zs, l2, a, b with
  | [v0], _, [z0, z1], _, a, b => exact AvsOk.cons (a.at 0) (AvsOk.cons (b.at 0) (AvsOk.cons (b.at 1) (.nil)))⟩
theorem bd_l_ends_well_2 {K : PySem.W.Frag} {fd : FuncData} (D : FunM K d_l_ends_well fd) : ∃ g, KBn K fd ["_law_row_here", "_law_units"] 2 [] g (fun vs zs => [vs.getD 0 .non, vs.getD 1 .non]) :=
  kb_plain D 2 [] (fun us ws => [us.getD 0 .none, us.getD 1 .none]) (fun vs zs => [vs.getD 0 .non, vs.getD 1 .non]) (fun r1 r2 => .cons (Vals.at r1 0) (.cons (Vals.at r1 1) (.nil))) (fun _ _ _ _ _ _ us ws h1 h2 => match us, h1, ws, h2 with | [u0, u1], _, [], _ => rfl)
theorem ar_bd_l_ends_well_2 : Arr 2 0 (fun vs zs => [vs.getD 0 .non, vs.getD 1 .non]) (fun as bs => [as.getD 0 (.dat .non), as.getD 1 (.dat .non)]) := ⟨fun {cm K σ G vs zs as bs} l1 l2 a b => by
  match vs, l1, zs, l2, a, b with
  | [v0, v1], _, [], _, a, b => exact AvsOk.cons (a.at 0) (AvsOk.cons (a.at 1) (.nil))⟩
theorem bs_bd_l_ends_well_2 {K : PySem.W.Frag} {fd : FuncData} (D : FunM K d_l_ends_well fd) : ∃ g, KBn K fd ["_law_row_here", "_law_units"] 2 [] g (fun vs _ => vs) :=
  kb_plain D 2 [] (fun us _ => us) (fun vs _ => vs) (fun r1 _ => r1) (fun _ _ _ _ _ _ us ws h1 h2 => match us, h1, ws, h2 with | [u0, u1], _, [], _ => rfl)
theorem bd_l_record_2 {K : PySem.W.Frag} {fd : FuncData} (D : FunM K d_l_record fd) : ∃ g, KBn K fd ["_law_rng_here", "_law_row_here"] 2 [] g (fun vs zs => [vs.getD 0 .non, vs.getD 1 .non]) :=
  kb_plain D 2 [] (fun us ws => [us.getD 0 .none, us.getD 1 .none]) (fun vs zs => [vs.getD 0 .non, vs.getD 1 .non]) (fun r1 r2 => .cons (Vals.at r1 0) (.cons (Vals.at r1 1) (.nil))) (fun _ _ _ _ _ _ us ws h1 h2 => match us, h1, ws, h2 with | [u0, u1], _, [], _ => rfl)
theorem ar_bd_l_record_2 : Arr 2 0 (fun vs zs => [vs.getD 0 .non, vs.getD 1 .non]) (fun as bs => [as.getD 0 (.dat .non), as.getD 1 (.dat .non)]) := ⟨fun {cm K σ G vs zs as bs} l1 l2 a b => by
  match vs, l1, zs, l2, a, b with
  | [v0, v1], _, [], _, a, b => exact AvsOk.cons (a.at 0) (AvsOk.cons (a.at 1) (.nil))⟩
theorem bs_bd_l_record_2 {K : PySem.W.Frag} {fd : FuncData} (D : FunM K d_l_record fd) : ∃ g, KBn K fd ["_law_rng_here", "_law_row_here"] 2 [] g (fun vs _ => vs) :=
  kb_plain D 2 [] (fun us _ => us) (fun vs _ => vs) (fun r1 _ => r1) (fun _ _ _ _ _ _ us ws h1 h2 => match us, h1, ws, h2 with | [u0, u1], _, [], _ => rfl)
theorem bd_l_walked_2 {K : PySem.W.Frag} {fd : FuncData} (D : FunM K d_l_walked fd) : ∃ g, KBn K fd ["_law_row_here", "_law_units"] 2 [] g (fun vs zs => [vs.getD 0 .non, vs.getD 1 .non]) :=
  kb_plain D 2 [] (fun us ws => [us.getD 0 .none, us.getD 1 .none]) (fun vs zs => [vs.getD 0 .non, vs.getD 1 .non]) (fun r1 r2 => .cons (Vals.at r1 0) (.cons (Vals.at r1 1) (.nil))) (fun _ _ _ _ _ _ us ws h1 h2 => match us, h1, ws, h2 with | [u0, u1], _, [], _ => rfl)
theorem ar_bd_l_walked_2 : Arr 2 0 (fun vs zs => [vs.getD 0 .non, vs.getD 1 .non]) (fun as bs => [as.getD 0 (.dat .non), as.getD 1 (.dat .non)]) := ⟨fun {cm K σ G vs zs as bs} l1 l2 a b => by
  match vs, l1, zs, l2, a, b with
  | [v0, v1], _, [], _, a, b => exact AvsOk.cons (a.at 0) (AvsOk.cons (a.at 1) (.nil))⟩
theorem bs_bd_l_walked_2 {K : PySem.W.Frag} {fd : FuncData} (D : FunM K d_l_walked fd) : ∃ g, KBn K fd ["_law_row_here", "_law_units"] 2 [] g (fun vs _ => vs) :=
  kb_plain D 2 [] (fun us _ => us) (fun vs _ => vs) (fun r1 _ => r1) (fun _ _ _ _ _ _ us ws h1 h2 => match us, h1, ws, h2 with | [u0, u1], _, [], _ => rfl)
theorem bd_is_count_1 {K : PySem.W.Frag} {fd : FuncData} (D : FunM K d_is_count fd) : ∃ g, KBn K fd ["value", "most"] 1 [] g (fun vs zs => (vs.drop 0).take 1 ++ ((([.non] : List V).drop 0).take 1)) :=
  kb_dfl D 1 [] (fun {α} vs ds zs => (vs.drop 0).take 1 ++ ((ds.drop 0).take 1)) (List.cons_ne_nil _ _) (fun r1 r2 r3 => vapp (vp r1 0) (vp r2 0)) (fun _ _ _ _ _ _ _ us its ws h1 h2 h3 => match us, h1, its, h2, ws, h3 with | [u0], _, [i0], _, [], _ => ⟨_, rfl, rfl⟩)
theorem ar_bd_is_count_1 : Arr 1 0 (fun vs zs => (vs.drop 0).take 1 ++ ((([.non] : List V).drop 0).take 1)) (fun as bs => [as.getD 0 (.dat .non), .dat (.non)]) := ⟨fun {cm K σ G vs zs as bs} l1 l2 a b => by
  match vs, l1, zs, l2, a, b with
  | [v0], _, [], _, a, b => exact AvsOk.cons (a.at 0) (AvsOk.cons (.dat (.non)) (.nil))⟩
theorem bd_check_record_1 {K : PySem.W.Frag} {fd : FuncData} (D : FunM K d_check_record fd) : ∃ g, KBn K fd ["value"] 1 [] g (fun vs zs => [vs.getD 0 .non]) :=
  kb_plain D 1 [] (fun us ws => [us.getD 0 .none]) (fun vs zs => [vs.getD 0 .non]) (fun r1 r2 => .cons (Vals.at r1 0) (.nil)) (fun _ _ _ _ _ _ us ws h1 h2 => match us, h1, ws, h2 with | [u0], _, [], _ => rfl)
theorem ar_bd_check_record_1 : Arr 1 0 (fun vs zs => [vs.getD 0 .non]) (fun as bs => [as.getD 0 (.dat .non)]) := ⟨fun {cm K σ G vs zs as bs} l1 l2 a b => by
  match vs, l1, zs, l2, a, b with
  | [v0], _, [], _, a, b => exact AvsOk.cons (a.at 0) (.nil)⟩
theorem bs_bd_check_record_1 {K : PySem.W.Frag} {fd : FuncData} (D : FunM K d_check_record fd) : ∃ g, KBn K fd ["value"] 1 [] g (fun vs _ => vs) :=
  kb_plain D 1 [] (fun us _ => us) (fun vs _ => vs) (fun r1 _ => r1) (fun _ _ _ _ _ _ us ws h1 h2 => match us, h1, ws, h2 with | [u0], _, [], _ => rfl)
theorem bd_Curve_at_2 {K : PySem.W.Frag} {fd : FuncData} (D : FunM K d_Curve_at fd) : ∃ g, KBn K fd ["self", "length"] 2 [] g (fun vs zs => [vs.getD 0 .non, vs.getD 1 .non]) :=
  kb_plain D 2 [] (fun us ws => [us.getD 0 .none, us.getD 1 .none]) (fun vs zs => [vs.getD 0 .non, vs.getD 1 .non]) (fun r1 r2 => .cons (Vals.at r1 0) (.cons (Vals.at r1 1) (.nil))) (fun _ _ _ _ _ _ us ws h1 h2 => match us, h1, ws, h2 with | [u0, u1], _, [], _ => rfl)
theorem ar_bd_Curve_at_2 : Arr 2 0 (fun vs zs => [vs.getD 0 .non, vs.getD 1 .non]) (fun as bs => [as.getD 0 (.dat .non), as.getD 1 (.dat .non)]) := ⟨fun {cm K σ G vs zs as bs} l1 l2 a b => by
  match vs, l1, zs, l2, a, b with
  | [v0, v1], _, [], _, a, b => exact AvsOk.cons (a.at 0) (AvsOk.cons (a.at 1) (.nil))⟩
theorem bs_bd_Curve_at_2 {K : PySem.W.Frag} {fd : FuncData} (D : FunM K d_Curve_at fd) : ∃ g, KBn K fd ["self", "length"] 2 [] g (fun vs _ => vs) :=
  kb_plain D 2 [] (fun us _ => us) (fun vs _ => vs) (fun r1 _ => r1) (fun _ _ _ _ _ _ us ws h1 h2 => match us, h1, ws, h2 with | [u0, u1], _, [], _ => rfl)
theorem bd_Curve_find_break_1 {K : PySem.W.Frag} {fd : FuncData} (D : FunM K d_Curve_find_break fd) : ∃ g, KBn K fd ["self"] 1 [] g (fun vs zs => [vs.getD 0 .non]) :=
  kb_plain D 1 [] (fun us ws => [us.getD 0 .none]) (fun vs zs => [vs.getD 0 .non]) (fun r1 r2 => .cons (Vals.at r1 0) (.nil)) (fun _ _ _ _ _ _ us ws h1 h2 => match us, h1, ws, h2 with | [u0], _, [], _ => rfl)
theorem ar_bd_Curve_find_break_1 : Arr 1 0 (fun vs zs => [vs.getD 0 .non]) (fun as bs => [as.getD 0 (.dat .non)]) := ⟨fun {cm K σ G vs zs as bs} l1 l2 a b => by
  match vs, l1, zs, l2, a, b with
  | [v0], _, [], _, a, b => exact AvsOk.cons (a.at 0) (.nil)⟩
theorem bs_bd_Curve_find_break_1 {K : PySem.W.Frag} {fd : FuncData} (D : FunM K d_Curve_find_break fd) : ∃ g, KBn K fd ["self"] 1 [] g (fun vs _ => vs) :=
  kb_plain D 1 [] (fun us _ => us) (fun vs _ => vs) (fun r1 _ => r1) (fun _ _ _ _ _ _ us ws h1 h2 => match us, h1, ws, h2 with | [u0], _, [], _ => rfl)
theorem bd_require_good_1 {K : PySem.W.Frag} {fd : FuncData} (D : FunM K d_require_good fd) : ∃ g, KBn K fd ["curve"] 1 [] g (fun vs zs => [vs.getD 0 .non]) :=
  kb_plain D 1 [] (fun us ws => [us.getD 0 .none]) (fun vs zs => [vs.getD 0 .non]) (fun r1 r2 => .cons (Vals.at r1 0) (.nil)) (fun _ _ _ _ _ _ us ws h1 h2 => match us, h1, ws, h2 with | [u0], _, [], _ => rfl)
theorem ar_bd_require_good_1 : Arr 1 0 (fun vs zs => [vs.getD 0 .non]) (fun as bs => [as.getD 0 (.dat .non)]) := ⟨fun {cm K σ G vs zs as bs} l1 l2 a b => by
  match vs, l1, zs, l2, a, b with
  | [v0], _, [], _, a, b => exact AvsOk.cons (a.at 0) (.nil)⟩
theorem bs_bd_require_good_1 {K : PySem.W.Frag} {fd : FuncData} (D : FunM K d_require_good fd) : ∃ g, KBn K fd ["curve"] 1 [] g (fun vs _ => vs) :=
  kb_plain D 1 [] (fun us _ => us) (fun vs _ => vs) (fun r1 _ => r1) (fun _ _ _ _ _ _ us ws h1 h2 => match us, h1, ws, h2 with | [u0], _, [], _ => rfl)
theorem bd_allowance_2 {K : PySem.W.Frag} {fd : FuncData} (D : FunM K d_allowance fd) : ∃ g, KBn K fd ["entered", "curve"] 2 [] g (fun vs zs => [vs.getD 0 .non, vs.getD 1 .non]) :=
  kb_plain D 2 [] (fun us ws => [us.getD 0 .none, us.getD 1 .none]) (fun vs zs => [vs.getD 0 .non, vs.getD 1 .non]) (fun r1 r2 => .cons (Vals.at r1 0) (.cons (Vals.at r1 1) (.nil))) (fun _ _ _ _ _ _ us ws h1 h2 => match us, h1, ws, h2 with | [u0, u1], _, [], _ => rfl)
theorem ar_bd_allowance_2 : Arr 2 0 (fun vs zs => [vs.getD 0 .non, vs.getD 1 .non]) (fun as bs => [as.getD 0 (.dat .non), as.getD 1 (.dat .non)]) := ⟨fun {cm K σ G vs zs as bs} l1 l2 a b => by
  match vs, l1, zs, l2, a, b with
  | [v0, v1], _, [], _, a, b => exact AvsOk.cons (a.at 0) (AvsOk.cons (a.at 1) (.nil))⟩
theorem bs_bd_allowance_2 {K : PySem.W.Frag} {fd : FuncData} (D : FunM K d_allowance fd) : ∃ g, KBn K fd ["entered", "curve"] 2 [] g (fun vs _ => vs) :=
  kb_plain D 2 [] (fun us _ => us) (fun vs _ => vs) (fun r1 _ => r1) (fun _ _ _ _ _ _ us ws h1 h2 => match us, h1, ws, h2 with | [u0, u1], _, [], _ => rfl)
theorem bd_shaped_2 {K : PySem.W.Frag} {fd : FuncData} (D : FunM K d_shaped fd) : ∃ g, KBn K fd ["record", "curve"] 2 [] g (fun vs zs => [vs.getD 0 .non, vs.getD 1 .non]) :=
  kb_plain D 2 [] (fun us ws => [us.getD 0 .none, us.getD 1 .none]) (fun vs zs => [vs.getD 0 .non, vs.getD 1 .non]) (fun r1 r2 => .cons (Vals.at r1 0) (.cons (Vals.at r1 1) (.nil))) (fun _ _ _ _ _ _ us ws h1 h2 => match us, h1, ws, h2 with | [u0, u1], _, [], _ => rfl)
theorem ar_bd_shaped_2 : Arr 2 0 (fun vs zs => [vs.getD 0 .non, vs.getD 1 .non]) (fun as bs => [as.getD 0 (.dat .non), as.getD 1 (.dat .non)]) := ⟨fun {cm K σ G vs zs as bs} l1 l2 a b => by
  match vs, l1, zs, l2, a, b with
  | [v0, v1], _, [], _, a, b => exact AvsOk.cons (a.at 0) (AvsOk.cons (a.at 1) (.nil))⟩
theorem bs_bd_shaped_2 {K : PySem.W.Frag} {fd : FuncData} (D : FunM K d_shaped fd) : ∃ g, KBn K fd ["record", "curve"] 2 [] g (fun vs _ => vs) :=
  kb_plain D 2 [] (fun us _ => us) (fun vs _ => vs) (fun r1 _ => r1) (fun _ _ _ _ _ _ us ws h1 h2 => match us, h1, ws, h2 with | [u0, u1], _, [], _ => rfl)
theorem bd_l_is_kept_2 {K : PySem.W.Frag} {fd : FuncData} (D : FunM K d_l_is_kept fd) : ∃ g, KBn K fd ["_law_row_here", "_law_units"] 2 [] g (fun vs zs => [vs.getD 0 .non, vs.getD 1 .non]) :=
  kb_plain D 2 [] (fun us ws => [us.getD 0 .none, us.getD 1 .none]) (fun vs zs => [vs.getD 0 .non, vs.getD 1 .non]) (fun r1 r2 => .cons (Vals.at r1 0) (.cons (Vals.at r1 1) (.nil))) (fun _ _ _ _ _ _ us ws h1 h2 => match us, h1, ws, h2 with | [u0, u1], _, [], _ => rfl)
theorem ar_bd_l_is_kept_2 : Arr 2 0 (fun vs zs => [vs.getD 0 .non, vs.getD 1 .non]) (fun as bs => [as.getD 0 (.dat .non), as.getD 1 (.dat .non)]) := ⟨fun {cm K σ G vs zs as bs} l1 l2 a b => by
  match vs, l1, zs, l2, a, b with
  | [v0, v1], _, [], _, a, b => exact AvsOk.cons (a.at 0) (AvsOk.cons (a.at 1) (.nil))⟩
theorem bs_bd_l_is_kept_2 {K : PySem.W.Frag} {fd : FuncData} (D : FunM K d_l_is_kept fd) : ∃ g, KBn K fd ["_law_row_here", "_law_units"] 2 [] g (fun vs _ => vs) :=
  kb_plain D 2 [] (fun us _ => us) (fun vs _ => vs) (fun r1 _ => r1) (fun _ _ _ _ _ _ us ws h1 h2 => match us, h1, ws, h2 with | [u0, u1], _, [], _ => rfl)
theorem bd_sums_of_1 {K : PySem.W.Frag} {fd : FuncData} (D : FunM K d_sums_of fd) : ∃ g, KBn K fd ["record"] 1 [] g (fun vs zs => [vs.getD 0 .non]) :=
  kb_plain D 1 [] (fun us ws => [us.getD 0 .none]) (fun vs zs => [vs.getD 0 .non]) (fun r1 r2 => .cons (Vals.at r1 0) (.nil)) (fun _ _ _ _ _ _ us ws h1 h2 => match us, h1, ws, h2 with | [u0], _, [], _ => rfl)
theorem ar_bd_sums_of_1 : Arr 1 0 (fun vs zs => [vs.getD 0 .non]) (fun as bs => [as.getD 0 (.dat .non)]) := ⟨fun {cm K σ G vs zs as bs} l1 l2 a b => by
  match vs, l1, zs, l2, a, b with
  | [v0], _, [], _, a, b => exact AvsOk.cons (a.at 0) (.nil)⟩
theorem bs_bd_sums_of_1 {K : PySem.W.Frag} {fd : FuncData} (D : FunM K d_sums_of fd) : ∃ g, KBn K fd ["record"] 1 [] g (fun vs _ => vs) :=
  kb_plain D 1 [] (fun us _ => us) (fun vs _ => vs) (fun r1 _ => r1) (fun _ _ _ _ _ _ us ws h1 h2 => match us, h1, ws, h2 with | [u0], _, [], _ => rfl)
theorem bd_breach_2 {K : PySem.W.Frag} {fd : FuncData} (D : FunM K d_breach fd) : ∃ g, KBn K fd ["record", "curve"] 2 [] g (fun vs zs => [vs.getD 0 .non, vs.getD 1 .non]) :=
  kb_plain D 2 [] (fun us ws => [us.getD 0 .none, us.getD 1 .none]) (fun vs zs => [vs.getD 0 .non, vs.getD 1 .non]) (fun r1 r2 => .cons (Vals.at r1 0) (.cons (Vals.at r1 1) (.nil))) (fun _ _ _ _ _ _ us ws h1 h2 => match us, h1, ws, h2 with | [u0, u1], _, [], _ => rfl)
theorem ar_bd_breach_2 : Arr 2 0 (fun vs zs => [vs.getD 0 .non, vs.getD 1 .non]) (fun as bs => [as.getD 0 (.dat .non), as.getD 1 (.dat .non)]) := ⟨fun {cm K σ G vs zs as bs} l1 l2 a b => by
  match vs, l1, zs, l2, a, b with
  | [v0, v1], _, [], _, a, b => exact AvsOk.cons (a.at 0) (AvsOk.cons (a.at 1) (.nil))⟩
theorem bs_bd_breach_2 {K : PySem.W.Frag} {fd : FuncData} (D : FunM K d_breach fd) : ∃ g, KBn K fd ["record", "curve"] 2 [] g (fun vs _ => vs) :=
  kb_plain D 2 [] (fun us _ => us) (fun vs _ => vs) (fun r1 _ => r1) (fun _ _ _ _ _ _ us ws h1 h2 => match us, h1, ws, h2 with | [u0, u1], _, [], _ => rfl)
theorem bd_keeps_2 {K : PySem.W.Frag} {fd : FuncData} (D : FunM K d_keeps fd) : ∃ g, KBn K fd ["record", "curve"] 2 [] g (fun vs zs => [vs.getD 0 .non, vs.getD 1 .non]) :=
  kb_plain D 2 [] (fun us ws => [us.getD 0 .none, us.getD 1 .none]) (fun vs zs => [vs.getD 0 .non, vs.getD 1 .non]) (fun r1 r2 => .cons (Vals.at r1 0) (.cons (Vals.at r1 1) (.nil))) (fun _ _ _ _ _ _ us ws h1 h2 => match us, h1, ws, h2 with | [u0, u1], _, [], _ => rfl)
theorem ar_bd_keeps_2 : Arr 2 0 (fun vs zs => [vs.getD 0 .non, vs.getD 1 .non]) (fun as bs => [as.getD 0 (.dat .non), as.getD 1 (.dat .non)]) := ⟨fun {cm K σ G vs zs as bs} l1 l2 a b => by
  match vs, l1, zs, l2, a, b with
  | [v0, v1], _, [], _, a, b => exact AvsOk.cons (a.at 0) (AvsOk.cons (a.at 1) (.nil))⟩
theorem bs_bd_keeps_2 {K : PySem.W.Frag} {fd : FuncData} (D : FunM K d_keeps fd) : ∃ g, KBn K fd ["record", "curve"] 2 [] g (fun vs _ => vs) :=
  kb_plain D 2 [] (fun us _ => us) (fun vs _ => vs) (fun r1 _ => r1) (fun _ _ _ _ _ _ us ws h1 h2 => match us, h1, ws, h2 with | [u0, u1], _, [], _ => rfl)
theorem bd_shaped_0_curve_record {K : PySem.W.Frag} {fd : FuncData} (D : FunM K d_shaped fd) : ∃ g, KBn K fd ["record", "curve"] 0 ["curve", "record"] g (fun vs zs => [zs.getD 1 .non, zs.getD 0 .non]) :=
  kb_plain D 0 ["curve", "record"] (fun us ws => [ws.getD 1 .none, ws.getD 0 .none]) (fun vs zs => [zs.getD 1 .non, zs.getD 0 .non]) (fun r1 r2 => .cons (Vals.at r2 1) (.cons (Vals.at r2 0) (.nil))) (fun _ _ _ _ _ _ us ws h1 h2 => match us, h1, ws, h2 with | [], _, [w0, w1], _ => rfl)
theorem ar_bd_shaped_0_curve_record : Arr 0 2 (fun vs zs => [zs.getD 1 .non, zs.getD 0 .non]) (fun as bs => [bs.getD 1 (.dat .non), bs.getD 0 (.dat .non)]) := ⟨fun {cm K σ G vs zs as bs} l1 l2 a b => by
  match vs, l1, zs, l2, a, b with
  | [], _, [z0, z1], _, a, b => exact AvsOk.cons (b.at 1) (AvsOk.cons (b.at 0) (.nil))⟩
theorem bd_l_rng_2 {K : PySem.W.Frag} {fd : FuncData} (D : FunM K d_l_rng fd) : ∃ g, KBn K fd ["_law_script", "_law_k"] 2 [] g (fun vs zs => [vs.getD 0 .non, vs.getD 1 .non]) :=
  kb_plain D 2 [] (fun us ws => [us.getD 0 .none, us.getD 1 .none]) (fun vs zs => [vs.getD 0 .non, vs.getD 1 .non]) (fun r1 r2 => .cons (Vals.at r1 0) (.cons (Vals.at r1 1) (.nil))) (fun _ _ _ _ _ _ us ws h1 h2 => match us, h1, ws, h2 with | [u0, u1], _, [], _ => rfl)
theorem ar_bd_l_rng_2 : Arr 2 0 (fun vs zs => [vs.getD 0 .non, vs.getD 1 .non]) (fun as bs => [as.getD 0 (.dat .non), as.getD 1 (.dat .non)]) := ⟨fun {cm K σ G vs zs as bs} l1 l2 a b => by
  match vs, l1, zs, l2, a, b with
  | [v0, v1], _, [], _, a, b => exact AvsOk.cons (a.at 0) (AvsOk.cons (a.at 1) (.nil))⟩
theorem bs_bd_l_rng_2 {K : PySem.W.Frag} {fd : FuncData} (D : FunM K d_l_rng fd) : ∃ g, KBn K fd ["_law_script", "_law_k"] 2 [] g (fun vs _ => vs) :=
  kb_plain D 2 [] (fun us _ => us) (fun vs _ => vs) (fun r1 _ => r1) (fun _ _ _ _ _ _ us ws h1 h2 => match us, h1, ws, h2 with | [u0, u1], _, [], _ => rfl)
theorem bd_l_right_1 {K : PySem.W.Frag} {fd : FuncData} (D : FunM K d_l_right fd) : ∃ g, KBn K fd ["_law_rng_here"] 1 [] g (fun vs zs => [vs.getD 0 .non]) :=
  kb_plain D 1 [] (fun us ws => [us.getD 0 .none]) (fun vs zs => [vs.getD 0 .non]) (fun r1 r2 => .cons (Vals.at r1 0) (.nil)) (fun _ _ _ _ _ _ us ws h1 h2 => match us, h1, ws, h2 with | [u0], _, [], _ => rfl)
theorem ar_bd_l_right_1 : Arr 1 0 (fun vs zs => [vs.getD 0 .non]) (fun as bs => [as.getD 0 (.dat .non)]) := ⟨fun {cm K σ G vs zs as bs} l1 l2 a b => by
  match vs, l1, zs, l2, a, b with
  | [v0], _, [], _, a, b => exact AvsOk.cons (a.at 0) (.nil)⟩
theorem bs_bd_l_right_1 {K : PySem.W.Frag} {fd : FuncData} (D : FunM K d_l_right fd) : ∃ g, KBn K fd ["_law_rng_here"] 1 [] g (fun vs _ => vs) :=
  kb_plain D 1 [] (fun us _ => us) (fun vs _ => vs) (fun r1 _ => r1) (fun _ _ _ _ _ _ us ws h1 h2 => match us, h1, ws, h2 with | [u0], _, [], _ => rfl)
theorem sc_l_draw : FnScope ["_law_rng_here", "_law_many", "_law_digit"] ["_law_rng_here", "_law_many"] (defScope s_l_draw) := ⟨rfl, rfl, rfl, by decide +kernel, rfl, by decide +kernel, by decide +kernel⟩
def m_l_draw : MS :=
    mSeq (mIfS (cTruth (m2 gtD (mIxS 0 (mC (.int 0))) (mC (.int 0)))) (mSeq (mAsg (mCall divmodC (mCons (mIxS 0 (mC (.int 0))) (mCons (mVar 1) (mNil)))) (gTpN 2 (gCs (gIx 0 (mC (.int 0))) (gCs (gNm 2) (gNl)))))
    (mRet (mVar 2))) (mNext))
    (mSeq (mAsg (m2 modD (mCall intC (mCons (m2 addD (m2 mulD (mIxS 0 (mC (.int 1))) (mC (.int 48311))) (mC (.int 20011))) (mNil))) (mC (.int 2147483563))) (gIx 0 (mC (.int 1))))
    (mRet (m2 modD (m2 fdivD (m2 modD (mCall intC (mCons (m2 mulD (mIxS 0 (mC (.int 1))) (mIxS 0 (mC (.int 1)))) (mNil))) (mC (.int 2147483497))) (mC (.int 17))) (mVar 1))))
def F_l_draw : List FA → RF := runDef 2 3 m_l_draw
theorem ok_l_draw {P : Program} {w : World} {K : PySem.W.Frag} {mg : Str → Option Value} {base : Heap} (c : Kn fa fn K mg) {fd : FuncData} (D : FunM K d_l_draw fd) : FnG P w K mg base (L2.CX P w) 1 (d_l_draw.ad.a K) fd ["_law_rng_here", "_law_many"] (spF ⟨He.ga K, none⟩ K F_l_draw) := by
  exact fnG_of D sc_l_draw rfl rfl fun cdv A outer s H E hr hg =>
    gs_cons (gs_if (gt_cmp o_gt (ge_ixS (pv 0) (ge_int) (fun _ _ => rfl)) (ge_int) (nomark _)) (gs_cons (gs_asg (ge_callB c_divmod (by rfl) (c.free 4) (by decide +kernel) (ga_cons (ge_ixS (pv 0) (ge_int) (fun _ _ => rfl)) (ga_cons (ge_var (pv 1)) (ga_nil)))) (gg_tupN rfl (ggs_cons (gg_ix (pv 0) (ge_int)) (ggs_cons (gg_name (pg_name (i := 2) sc_l_draw.nd rfl (by first | exact .inl rfl | exact .inr rfl))) (ggs_nil)))))
    (gs_one (gs_ret (ge_var (pv 2))))) (gs_nil))
    (gs_cons (gs_asg (ge_op o_mod (ge_callTy c_int (by rfl) (c.free 5) (by decide +kernel) (ga_cons (ge_op o_add (ge_op o_mul (ge_ixS (pv 0) (ge_int) (fun _ _ => rfl)) (ge_int)) (ge_int)) (ga_nil))) (ge_int)) (gg_ix (pv 0) (ge_int)))
    (gs_one (gs_ret (ge_op o_mod (ge_op o_fdiv (ge_op o_mod (ge_callTy c_int (by rfl) (c.free 5) (by decide +kernel) (ga_cons (ge_op o_mul (ge_ixS (pv 0) (ge_int) (fun _ _ => rfl)) (ge_ixS (pv 0) (ge_int) (fun _ _ => rfl))) (ga_nil))) (ge_int)) (ge_int)) (ge_var (pv 1))))))
theorem sc_l_choice : FnScope ["_law_rng_here", "_law_some"] ["_law_rng_here", "_law_some"] (defScope s_l_choice) := ⟨rfl, rfl, rfl, by decide +kernel, rfl, by decide +kernel, by decide +kernel⟩
def m_l_choice : MS :=
    mRet (m2 ixD (mVar 1) (mCallF F_l_draw 2 0 (fun as bs => [as.getD 0 (.dat .non), as.getD 1 (.dat .non)]) (vSlot 0 (vDat (mCall lenC (mCons (mVar 1) (mNil))) (vNil))) vNil))
def F_l_choice : List FA → RF := runDef 2 2 m_l_choice
theorem ok_l_choice {P : Program} {w : World} {K : PySem.W.Frag} {mg : Str → Option Value} {base : Heap} (c : Kn fa fn K mg) {fd : FuncData} (D : FunM K d_l_choice fd) : FnG P w K mg base (L2.CX P w) 2 (d_l_choice.ad.a K) fd ["_law_rng_here", "_law_some"] (spF ⟨He.ga K, none⟩ K F_l_choice) := by
  obtain ⟨fd_l_draw, D_l_draw⟩ := c.def_ 0 (d := d_l_draw)
  have O_l_draw := ok_l_draw (P := P) (w := w) (base := base) c D_l_draw
  have B2_l_draw := bs_bd_l_draw_2 D_l_draw
  exact fnG_of D sc_l_choice rfl rfl fun cdv A outer s H E hr hg =>
    gs_one (gs_ret (ge_ix i_ix (ge_var (pv 1)) (ge_callF O_l_draw (hr.mono (by decide)) hg (takes_of rfl rfl rfl rfl) (by rfl) (c.glo 6) D_l_draw.kp (bd_l_draw_2 D_l_draw) ar_bd_l_draw_2 (gv_slot (pv 0) (gv_dat (ge_callB c_len (by rfl) (c.free 0) (by decide +kernel) (ga_cons (ge_var (pv 1)) (ga_nil))) (gv_nil)))) (fun _ _ => rfl)))
theorem sc_l_rows : FnScope ["_law_rows_here"] [] (defScope s_l_rows) := ⟨rfl, rfl, rfl, by decide +kernel, rfl, by decide +kernel, by decide +kernel⟩
def m_l_rows : MS :=
    mSeq (mAsg (mLst (mCons (mTup (mCons (mLst (mCons (mC (.int 1)) (mNil))) (mCons (mC (.int 1)) (mCons (mC (.int 0)) (mNil))))) (mCons (mTup (mCons (mLst (mCons (mC (.int 1)) (mCons (mC (.int 1)) (mNil)))) (mCons (mC (.int 2)) (mCons (mC (.int 1)) (mNil))))) (mCons (mTup (mCons (mLst (mCons (mC (.int 1)) (mCons (mC (.int 1)) (mCons (mC (.int 1)) (mNil))))) (mCons (mC (.int 3)) (mCons (mC (.int 1)) (mNil))))) (mCons (mTup (mCons (mLst (mCons (mC (.int 2)) (mCons (mC (.int 2)) (mNil)))) (mCons (mC (.int 2)) (mCons (mC (.int 1)) (mNil))))) (mCons (mTup (mCons (mLst (mCons (mC (.int 1)) (mNil))) (mCons (mC (.int 1)) (mCons (mC (.int 1)) (mNil))))) (mCons (mTup (mCons (mLst (mCons (mC (.int 2)) (mCons (mC (.int 2)) (mCons (mC (.int 2)) (mNil))))) (mCons (mC (.int 3)) (mCons (mC (.int 1)) (mNil))))) (mNil)))))))) (gNm 0))
    (mSeq (mAsg (m2 addD (mVar 0) (mLst (mCons (mTup (mCons (mLst (mCons (mC (.int 2)) (mNil))) (mCons (mC (.int 1)) (mCons (mC (.int 0)) (mNil))))) (mCons (mTup (mCons (mLst (mCons (mC (.int 2)) (mCons (mC (.int 2)) (mCons (mC (.int 3)) (mNil))))) (mCons (mC (.int 3)) (mCons (mC (.int 2)) (mNil))))) (mCons (mTup (mCons (mLst (mCons (mC (.int 1)) (mCons (mC (.int 2)) (mNil)))) (mCons (mC (.int 1)) (mCons (mC (.int 0)) (mNil))))) (mCons (mTup (mCons (mLst (mCons (mC (.int 2)) (mCons (mC (.int 2)) (mCons (mC (.int 2)) (mCons (mC (.int 2)) (mNil)))))) (mCons (mC (.int 4)) (mCons (mC (.int 1)) (mNil))))) (mCons (mTup (mCons (mLst (mCons (mC (.int 2)) (mNil))) (mCons (mC (.int 1)) (mCons (mC (.int 1)) (mNil))))) (mCons (mTup (mCons (mLst (mCons (mC (.int 0)) (mNil))) (mCons (mC (.int 1)) (mCons (mC (.int 0)) (mNil))))) (mNil))))))))) (gNm 0))
    (mRet (m2 addD (mVar 0) (mLst (mCons (mTup (mCons (mLst (mCons (mC (.int 1)) (mCons (mC (.int 2)) (mCons (mC (.int 2)) (mCons (mC (.int 2)) (mNil)))))) (mCons (mC (.int 4)) (mCons (mC (.int 1)) (mNil))))) (mCons (mTup (mCons (mLst (mCons (mC (.int 3)) (mCons (mC (.int 3)) (mCons (mC (.int 3)) (mNil))))) (mCons (mC (.int 3)) (mCons (mC (.int 1)) (mNil))))) (mCons (mTup (mCons (mLst (mCons (mC (.int 1)) (mCons (mC (.int 1)) (mCons (mC (.int 2)) (mNil))))) (mCons (mC (.int 2)) (mCons (mC (.int 1)) (mNil))))) (mCons (mTup (mCons (mLst (mCons (mC (.int 3)) (mCons (mC (.int 3)) (mCons (mC (.int 3)) (mCons (mC (.int 3)) (mCons (mC (.int 3)) (mCons (mC (.int 3)) (mNil)))))))) (mCons (mC (.int 6)) (mCons (mC (.int 1)) (mNil))))) (mNil)))))))))
def F_l_rows : List FA → RF := runDef 0 1 m_l_rows
theorem ok_l_rows {P : Program} {w : World} {K : PySem.W.Frag} {mg : Str → Option Value} {base : Heap} (c : Kn fa fn K mg) {fd : FuncData} (D : FunM K d_l_rows fd) : FnG P w K mg base (L2.CX P w) 1 (d_l_rows.ad.a K) fd [] (spF ⟨He.ga K, none⟩ K F_l_rows) := by
  exact fnG_of D sc_l_rows rfl rfl fun cdv A outer s H E hr hg =>
    gs_cons (gs_set (i := 0) sc_l_rows.nd rfl (by first | exact .inl rfl | exact .inr rfl) (ge_lst (ga_cons (ge_tup (ga_cons (ge_lst (ga_cons (ge_int) (ga_nil))) (ga_cons (ge_int) (ga_cons (ge_int) (ga_nil))))) (ga_cons (ge_tup (ga_cons (ge_lst (ga_cons (ge_int) (ga_cons (ge_int) (ga_nil)))) (ga_cons (ge_int) (ga_cons (ge_int) (ga_nil))))) (ga_cons (ge_tup (ga_cons (ge_lst (ga_cons (ge_int) (ga_cons (ge_int) (ga_cons (ge_int) (ga_nil))))) (ga_cons (ge_int) (ga_cons (ge_int) (ga_nil))))) (ga_cons (ge_tup (ga_cons (ge_lst (ga_cons (ge_int) (ga_cons (ge_int) (ga_nil)))) (ga_cons (ge_int) (ga_cons (ge_int) (ga_nil))))) (ga_cons (ge_tup (ga_cons (ge_lst (ga_cons (ge_int) (ga_nil))) (ga_cons (ge_int) (ga_cons (ge_int) (ga_nil))))) (ga_cons (ge_tup (ga_cons (ge_lst (ga_cons (ge_int) (ga_cons (ge_int) (ga_cons (ge_int) (ga_nil))))) (ga_cons (ge_int) (ga_cons (ge_int) (ga_nil))))) (ga_nil)))))))))
    (gs_cons (gs_set (i := 0) sc_l_rows.nd rfl (by first | exact .inl rfl | exact .inr rfl) (ge_op o_add (ge_var (pv 0)) (ge_lst (ga_cons (ge_tup (ga_cons (ge_lst (ga_cons (ge_int) (ga_nil))) (ga_cons (ge_int) (ga_cons (ge_int) (ga_nil))))) (ga_cons (ge_tup (ga_cons (ge_lst (ga_cons (ge_int) (ga_cons (ge_int) (ga_cons (ge_int) (ga_nil))))) (ga_cons (ge_int) (ga_cons (ge_int) (ga_nil))))) (ga_cons (ge_tup (ga_cons (ge_lst (ga_cons (ge_int) (ga_cons (ge_int) (ga_nil)))) (ga_cons (ge_int) (ga_cons (ge_int) (ga_nil))))) (ga_cons (ge_tup (ga_cons (ge_lst (ga_cons (ge_int) (ga_cons (ge_int) (ga_cons (ge_int) (ga_cons (ge_int) (ga_nil)))))) (ga_cons (ge_int) (ga_cons (ge_int) (ga_nil))))) (ga_cons (ge_tup (ga_cons (ge_lst (ga_cons (ge_int) (ga_nil))) (ga_cons (ge_int) (ga_cons (ge_int) (ga_nil))))) (ga_cons (ge_tup (ga_cons (ge_lst (ga_cons (ge_int) (ga_nil))) (ga_cons (ge_int) (ga_cons (ge_int) (ga_nil))))) (ga_nil))))))))))
    (gs_one (gs_ret (ge_op o_add (ge_var (pv 0)) (ge_lst (ga_cons (ge_tup (ga_cons (ge_lst (ga_cons (ge_int) (ga_cons (ge_int) (ga_cons (ge_int) (ga_cons (ge_int) (ga_nil)))))) (ga_cons (ge_int) (ga_cons (ge_int) (ga_nil))))) (ga_cons (ge_tup (ga_cons (ge_lst (ga_cons (ge_int) (ga_cons (ge_int) (ga_cons (ge_int) (ga_nil))))) (ga_cons (ge_int) (ga_cons (ge_int) (ga_nil))))) (ga_cons (ge_tup (ga_cons (ge_lst (ga_cons (ge_int) (ga_cons (ge_int) (ga_cons (ge_int) (ga_nil))))) (ga_cons (ge_int) (ga_cons (ge_int) (ga_nil))))) (ga_cons (ge_tup (ga_cons (ge_lst (ga_cons (ge_int) (ga_cons (ge_int) (ga_cons (ge_int) (ga_cons (ge_int) (ga_cons (ge_int) (ga_cons (ge_int) (ga_nil)))))))) (ga_cons (ge_int) (ga_cons (ge_int) (ga_nil))))) (ga_nil))))))))))
theorem sc_l_at : FnScope ["_law_row_here", "_law_size", "_law_times", "_law_steps", "_law_cycle", "_law_rise"] ["_law_row_here", "_law_size"] (defScope s_l_at) := ⟨rfl, rfl, rfl, by decide +kernel, rfl, by decide +kernel, by decide +kernel⟩
def m_l_at : MS :=
    mSeq (mAsg (mVar 0) (gTpN 3 (gCs (gNm 3) (gCs (gNm 4) (gCs (gNm 5) (gNl))))))
    (mSeq (mIfS (cTruth (m2 eqD (mVar 1) (mC (.int 0)))) (mRet (mC (.int 0))) (mNext))
    (mSeq (mIfS (cTruth (m2 leD (mVar 1) (mCall lenC (mCons (mVar 3) (mNil))))) (mRet (m2 ixD (mVar 3) (m2 subD (mVar 1) (mC (.int 1))))) (mNext))
    (mSeq (mAsg (m2 fdivD (m2 subD (m2 addD (m2 subD (mVar 1) (mCall lenC (mCons (mVar 3) (mNil)))) (mVar 4)) (mC (.int 1))) (mVar 4)) (gNm 2))
    (mRet (m2 addD (m2 ixD (mVar 3) (m2 subD (m2 subD (mVar 1) (m2 mulD (mVar 2) (mVar 4))) (mC (.int 1)))) (m2 mulD (mVar 2) (mVar 5)))))))
def F_l_at : List FA → RF := runDef 2 6 m_l_at
theorem ok_l_at {P : Program} {w : World} {K : PySem.W.Frag} {mg : Str → Option Value} {base : Heap} (c : Kn fa fn K mg) {fd : FuncData} (D : FunM K d_l_at fd) : FnG P w K mg base (L2.CX P w) 1 (d_l_at.ad.a K) fd ["_law_row_here", "_law_size"] (spF ⟨He.ga K, none⟩ K F_l_at) := by
  exact fnG_of D sc_l_at rfl rfl fun cdv A outer s H E hr hg =>
    gs_cons (gs_asg (ge_var (pv 0)) (gg_tupN rfl (ggs_cons (gg_name (pg_name (i := 3) sc_l_at.nd rfl (by first | exact .inl rfl | exact .inr rfl))) (ggs_cons (gg_name (pg_name (i := 4) sc_l_at.nd rfl (by first | exact .inl rfl | exact .inr rfl))) (ggs_cons (gg_name (pg_name (i := 5) sc_l_at.nd rfl (by first | exact .inl rfl | exact .inr rfl))) (ggs_nil))))))
    (gs_cons (gs_if (gt_cmp (o_eq hr.units) (ge_var (pv 1)) (ge_int) (nomark _)) (gs_one (gs_ret (ge_int))) (gs_nil))
    (gs_cons (gs_if (gt_cmp o_le (ge_var (pv 1)) (ge_callB c_len (by rfl) (c.free 0) (by decide +kernel) (ga_cons (ge_var (pv 3)) (ga_nil))) (nomark _)) (gs_one (gs_ret (ge_ix i_ix (ge_var (pv 3)) (ge_op o_sub (ge_var (pv 1)) (ge_int)) (fun _ _ => rfl)))) (gs_nil))
    (gs_cons (gs_set (i := 2) sc_l_at.nd rfl (by first | exact .inl rfl | exact .inr rfl) (ge_op o_fdiv (ge_op o_sub (ge_op o_add (ge_op o_sub (ge_var (pv 1)) (ge_callB c_len (by rfl) (c.free 0) (by decide +kernel) (ga_cons (ge_var (pv 3)) (ga_nil)))) (ge_var (pv 4))) (ge_int)) (ge_var (pv 4))))
    (gs_one (gs_ret (ge_op o_add (ge_ix i_ix (ge_var (pv 3)) (ge_op o_sub (ge_op o_sub (ge_var (pv 1)) (ge_op o_mul (ge_var (pv 2)) (ge_var (pv 4)))) (ge_int)) (fun _ _ => rfl)) (ge_op o_mul (ge_var (pv 2)) (ge_var (pv 5)))))))))
theorem sc_l_is_good : FnScope ["_law_row_here", "_law_many", "_law_one", "_law_other"] ["_law_row_here"] (defScope s_l_is_good) := ⟨rfl, rfl, rfl, by decide +kernel, rfl, by decide +kernel, by decide +kernel⟩
def m_l_is_good : MS :=
    mSeq (mAsg (m2 addD (mCall lenC (mCons (m2 ixD (mVar 0) (mC (.int 0))) (mNil))) (m2 ixD (mVar 0) (mC (.int 1)))) (gNm 1))
    (mSeq (mFor (mIts range2 (mCons (mC (.int 1)) (mCons (m2 addD (mVar 1) (mC (.int 1))) (mNil)))) (gNm 2) (mFor (mIts range2 (mCons (mC (.int 1)) (mCons (m2 addD (mVar 2) (mC (.int 1))) (mNil)))) (gNm 3) (mIfS (cTruth (m2 gtD (mCallF F_l_at 2 0 (fun as bs => [as.getD 0 (.dat .non), as.getD 1 (.dat .non)]) (vDat (mVar 0) (vDat (m2 addD (mVar 2) (mVar 3)) (vNil))) vNil) (m2 addD (mCallF F_l_at 2 0 (fun as bs => [as.getD 0 (.dat .non), as.getD 1 (.dat .non)]) (vDat (mVar 0) (vDat (mVar 2) (vNil))) vNil) (mCallF F_l_at 2 0 (fun as bs => [as.getD 0 (.dat .non), as.getD 1 (.dat .non)]) (vDat (mVar 0) (vDat (mVar 3) (vNil))) vNil)))) (mRet (mC (.bl false))) (mNext))))
    (mRet (mC (.bl true))))
def F_l_is_good : List FA → RF := runDef 1 4 m_l_is_good
theorem ok_l_is_good {P : Program} {w : World} {K : PySem.W.Frag} {mg : Str → Option Value} {base : Heap} (c : Kn fa fn K mg) {fd : FuncData} (D : FunM K d_l_is_good fd) : FnG P w K mg base (L2.CX P w) 2 (d_l_is_good.ad.a K) fd ["_law_row_here"] (spF ⟨He.ga K, none⟩ K F_l_is_good) := by
  obtain ⟨fd_l_at, D_l_at⟩ := c.def_ 3 (d := d_l_at)
  have O_l_at := ok_l_at (P := P) (w := w) (base := base) c D_l_at
  have B2_l_at := bs_bd_l_at_2 D_l_at
  exact fnG_of D sc_l_is_good rfl rfl fun cdv A outer s H E hr hg =>
    gs_cons (gs_set (i := 1) sc_l_is_good.nd rfl (by first | exact .inl rfl | exact .inr rfl) (ge_op o_add (ge_callB c_len (by rfl) (c.free 0) (by decide +kernel) (ga_cons (ge_ix i_ix (ge_var (pv 0)) (ge_int) (fun _ _ => rfl)) (ga_nil))) (ge_ix i_ix (ge_var (pv 0)) (ge_int) (fun _ _ => rfl))))
    (gs_cons (gs_for (passes_of rfl) rfl (gi_range2 (by rfl) (c.free 3) (ga_cons (ge_int) (ga_cons (ge_op o_add (ge_var (pv 1)) (ge_int)) (ga_nil)))) (gg_name (pg_name (i := 2) sc_l_is_good.nd rfl (by first | exact .inl rfl | exact .inr rfl))) (gs_one (gs_for (passes_of rfl) rfl (gi_range2 (by rfl) (c.free 3) (ga_cons (ge_int) (ga_cons (ge_op o_add (ge_var (pv 2)) (ge_int)) (ga_nil)))) (gg_name (pg_name (i := 3) sc_l_is_good.nd rfl (by first | exact .inl rfl | exact .inr rfl))) (gs_one (gs_if (gt_cmp o_gt (ge_callF O_l_at (hr.mono (by decide)) hg (takes_of rfl rfl rfl rfl) (by rfl) (c.glo 9) D_l_at.kp (bd_l_at_2 D_l_at) ar_bd_l_at_2 (gv_dat (ge_var (pv 0)) (gv_dat (ge_op o_add (ge_var (pv 2)) (ge_var (pv 3))) (gv_nil)))) (ge_op o_add (ge_callF O_l_at (hr.mono (by decide)) hg (takes_of rfl rfl rfl rfl) (by rfl) (c.glo 9) D_l_at.kp (bd_l_at_2 D_l_at) ar_bd_l_at_2 (gv_dat (ge_var (pv 0)) (gv_dat (ge_var (pv 2)) (gv_nil)))) (ge_callF O_l_at (hr.mono (by decide)) hg (takes_of rfl rfl rfl rfl) (by rfl) (c.glo 9) D_l_at.kp (bd_l_at_2 D_l_at) ar_bd_l_at_2 (gv_dat (ge_var (pv 0)) (gv_dat (ge_var (pv 3)) (gv_nil))))) (nomark _)) (gs_one (gs_ret (ge_bl))) (gs_nil))))))
    (gs_one (gs_ret (ge_bl))))
theorem sc_l_row : FnScope ["_law_rng_here", "_law_steps", "_law_turn", "_law_cycle", "_law_low", "_law_row_here", "_law_one"] ["_law_rng_here"] (defScope s_l_row) := ⟨rfl, rfl, rfl, by decide +kernel, rfl, by decide +kernel, by decide +kernel⟩
def m_l_row : MS :=
    mSeq (mIfS (cTruth (m2 gtD (mCallF F_l_draw 2 0 (fun as bs => [as.getD 0 (.dat .non), as.getD 1 (.dat .non)]) (vSlot 0 (vDat (mC (.int 3)) (vNil))) vNil) (mC (.int 0)))) (mRet (mCallF F_l_choice 2 0 (fun as bs => [as.getD 0 (.dat .non), as.getD 1 (.dat .non)]) (vSlot 0 (vDat (mCallF F_l_rows 0 0 (fun as bs => []) vNil vNil) (vNil))) vNil)) (mNext))
    (mSeq (mSetF 1 (lLst (mCons (mCallF F_l_draw 2 0 (fun as bs => [as.getD 0 (.dat .non), as.getD 1 (.dat .non)]) (vSlot 0 (vDat (mC (.int 3)) (vNil))) vNil) (mNil))))
    (mSeq (mFor (mIts range1 (mCons (mCallF F_l_draw 2 0 (fun as bs => [as.getD 0 (.dat .non), as.getD 1 (.dat .non)]) (vSlot 0 (vDat (mC (.int 4)) (vNil))) vNil) (mNil))) (gNm 2) (mApp 1 (m2 addD (mIxS 1 (m1 negD (mC (.int 1)))) (mCallF F_l_draw 2 0 (fun as bs => [as.getD 0 (.dat .non), as.getD 1 (.dat .non)]) (vSlot 0 (vDat (mC (.int 2)) (vNil))) vNil))))
    (mSeq (mAsg (mCallF F_l_choice 2 0 (fun as bs => [as.getD 0 (.dat .non), as.getD 1 (.dat .non)]) (vSlot 0 (vDat (mLc (mItems (mLst (mCons (mC (.int 1)) (mCons (mC (.int 2)) (mCons (mC (.int 3)) (mCons (mC (.int 4)) (mNil))))))) (cgN 6) (cTruth (m2 leD (mVar 6) (mCallP lenC 1))) (mVar 6) [6]) (vNil))) vNil) (gNm 3))
    (mSeq (mAsg (m2 subD (mIxS 1 (m1 negD (mC (.int 1)))) (m2 ixD (mCatR (mLst (mCons (mC (.int 0)) (mNil))) 1) (m2 subD (m2 addD (mCallP lenC 1) (mC (.int 1))) (mVar 3)))) (gNm 4))
    (mSeq (mAsg (mTup (mCons (mVar 1) (mCons (mVar 3) (mCons (m2 addD (mCall maxC (mCons (mC (.int 0)) (mCons (mVar 4) (mNil)))) (mCallF F_l_draw 2 0 (fun as bs => [as.getD 0 (.dat .non), as.getD 1 (.dat .non)]) (vSlot 0 (vDat (mC (.int 2)) (vNil))) vNil)) (mNil))))) (gNm 5))
    (mRet (mIf (cTruth (mCallF F_l_is_good 1 0 (fun as bs => [as.getD 0 (.dat .non)]) (vDat (mVar 5) (vNil)) vNil)) (mVar 5) (mCallF F_l_choice 2 0 (fun as bs => [as.getD 0 (.dat .non), as.getD 1 (.dat .non)]) (vSlot 0 (vDat (mCallF F_l_rows 0 0 (fun as bs => []) vNil vNil) (vNil))) vNil))))))))
def F_l_row : List FA → RF := runDef 1 7 m_l_row
theorem ok_l_row {P : Program} {w : World} {K : PySem.W.Frag} {mg : Str → Option Value} {base : Heap} (c : Kn fa fn K mg) {fd : FuncData} (D : FunM K d_l_row fd) : FnG P w K mg base (L2.CX P w) 3 (d_l_row.ad.a K) fd ["_law_rng_here"] (spF ⟨He.ga K, none⟩ K F_l_row) := by
  obtain ⟨fd_l_draw, D_l_draw⟩ := c.def_ 0 (d := d_l_draw)
  have O_l_draw := ok_l_draw (P := P) (w := w) (base := base) c D_l_draw
  have B2_l_draw := bs_bd_l_draw_2 D_l_draw
  obtain ⟨fd_l_choice, D_l_choice⟩ := c.def_ 1 (d := d_l_choice)
  have O_l_choice := ok_l_choice (P := P) (w := w) (base := base) c D_l_choice
  have B2_l_choice := bs_bd_l_choice_2 D_l_choice
  obtain ⟨fd_l_rows, D_l_rows⟩ := c.def_ 2 (d := d_l_rows)
  have O_l_rows := ok_l_rows (P := P) (w := w) (base := base) c D_l_rows
  have B0_l_rows := bs_bd_l_rows_0 D_l_rows
  obtain ⟨fd_l_is_good, D_l_is_good⟩ := c.def_ 4 (d := d_l_is_good)
  have O_l_is_good := ok_l_is_good (P := P) (w := w) (base := base) c D_l_is_good
  have B1_l_is_good := bs_bd_l_is_good_1 D_l_is_good
  exact fnG_of D sc_l_row rfl rfl fun cdv A outer s H E hr hg =>
    gs_cons (gs_if (gt_cmp o_gt (ge_callF O_l_draw (hr.mono (by decide)) hg (takes_of rfl rfl rfl rfl) (by rfl) (c.glo 6) D_l_draw.kp (bd_l_draw_2 D_l_draw) ar_bd_l_draw_2 (gv_slot (pv 0) (gv_dat (ge_int) (gv_nil)))) (ge_int) (nomark _)) (gs_one (gs_ret (ge_callF O_l_choice (hr.mono (by decide)) hg (takes_of rfl rfl rfl rfl) (by rfl) (c.glo 8) D_l_choice.kp (bd_l_choice_2 D_l_choice) ar_bd_l_choice_2 (gv_slot (pv 0) (gv_dat (ge_callFK0 O_l_rows (hr.mono (by decide)) hg (takes_of rfl rfl rfl rfl) (by rfl) (c.glo 7) D_l_rows.kp (bd_l_rows_0 D_l_rows) ar_bd_l_rows_0 gk_nil) (gv_nil)))))) (gs_nil))
    (gs_cons (gs_setF (i := 1) sc_l_row.nd rfl (by first | exact .inl rfl | exact .inr rfl) (gl_lst (ga_cons (ge_callF O_l_draw (hr.mono (by decide)) hg (takes_of rfl rfl rfl rfl) (by rfl) (c.glo 6) D_l_draw.kp (bd_l_draw_2 D_l_draw) ar_bd_l_draw_2 (gv_slot (pv 0) (gv_dat (ge_int) (gv_nil)))) (ga_nil))))
    (gs_cons (gs_for (passes_of rfl) rfl (gi_range1 (by rfl) (c.free 3) (ga_cons (ge_callF O_l_draw (hr.mono (by decide)) hg (takes_of rfl rfl rfl rfl) (by rfl) (c.glo 6) D_l_draw.kp (bd_l_draw_2 D_l_draw) ar_bd_l_draw_2 (gv_slot (pv 0) (gv_dat (ge_int) (gv_nil)))) (ga_nil))) (gg_name (pg_name (i := 2) sc_l_row.nd rfl (by first | exact .inl rfl | exact .inr rfl))) (gs_one (gs_app (pv 1) (ge_op o_add (ge_ixS (pv 1) (ge_un u_neg (ge_int)) (fun _ _ => rfl)) (ge_callF O_l_draw (hr.mono (by decide)) hg (takes_of rfl rfl rfl rfl) (by rfl) (c.glo 6) D_l_draw.kp (bd_l_draw_2 D_l_draw) ar_bd_l_draw_2 (gv_slot (pv 0) (gv_dat (ge_int) (gv_nil))))))))
    (gs_cons (gs_set (i := 3) sc_l_row.nd rfl (by first | exact .inl rfl | exact .inr rfl) (ge_callF O_l_choice (hr.mono (by decide)) hg (takes_of rfl rfl rfl rfl) (by rfl) (c.glo 8) D_l_choice.kp (bd_l_choice_2 D_l_choice) ar_bd_l_choice_2 (gv_slot (pv 0) (gv_dat (ge_lc (own := [("_law_one", 6)]) rfl sc_l_row.nd (gi_seq (ge_lst (ga_cons (ge_int) (ga_cons (ge_int) (ga_cons (ge_int) (ga_cons (ge_int) (ga_nil))))))) (blkOk_by (by rfl)) (tg_name 6) (fun _ _ _ _ _ => pg_name (i := 6) sc_l_row.nd rfl (by first | exact .inl rfl | exact .inr rfl)) (fun _ _ _ _ _ => pts_one (gt_cmp o_le (ge_var (pv 6)) (ge_callBP c_len (by rfl) (c.free 0) (by decide +kernel) (pv 1)) (nomark _))) (fun _ _ _ _ _ => ge_var (pv 6))) (gv_nil)))))
    (gs_cons (gs_set (i := 4) sc_l_row.nd rfl (by first | exact .inl rfl | exact .inr rfl) (ge_op o_sub (ge_ixS (pv 1) (ge_un u_neg (ge_int)) (fun _ _ => rfl)) (ge_ix i_ix (ge_catR (ge_lst (ga_cons (ge_int) (ga_nil))) (pv 1)) (ge_op o_sub (ge_op o_add (ge_callBP c_len (by rfl) (c.free 0) (by decide +kernel) (pv 1)) (ge_int)) (ge_var (pv 3))) (fun _ _ => rfl))))
    (gs_cons (gs_set (i := 5) sc_l_row.nd rfl (by first | exact .inl rfl | exact .inr rfl) (ge_tup (ga_cons (ge_var (pv 1)) (ga_cons (ge_var (pv 3)) (ga_cons (ge_op o_add (ge_callB (c_max rfl) (by rfl) (c.free 2) (by decide +kernel) (ga_cons (ge_int) (ga_cons (ge_var (pv 4)) (ga_nil)))) (ge_callF O_l_draw (hr.mono (by decide)) hg (takes_of rfl rfl rfl rfl) (by rfl) (c.glo 6) D_l_draw.kp (bd_l_draw_2 D_l_draw) ar_bd_l_draw_2 (gv_slot (pv 0) (gv_dat (ge_int) (gv_nil))))) (ga_nil))))))
    (gs_one (gs_ret (ge_if (gt_val (ge_callF O_l_is_good (hr.mono (by decide)) hg (takes_of rfl rfl rfl rfl) (by rfl) (c.glo 10) D_l_is_good.kp (bd_l_is_good_1 D_l_is_good) ar_bd_l_is_good_1 (gv_dat (ge_var (pv 5)) (gv_nil)))) (ge_var (pv 5)) (ge_callF O_l_choice (hr.mono (by decide)) hg (takes_of rfl rfl rfl rfl) (by rfl) (c.glo 8) D_l_choice.kp (bd_l_choice_2 D_l_choice) ar_bd_l_choice_2 (gv_slot (pv 0) (gv_dat (ge_callFK0 O_l_rows (hr.mono (by decide)) hg (takes_of rfl rfl rfl rfl) (by rfl) (c.glo 7) D_l_rows.kp (bd_l_rows_0 D_l_rows) ar_bd_l_rows_0 gk_nil) (gv_nil))))))))))))
theorem sc_is_integer : FnScope ["value"] ["value"] (defScope s_is_integer) := ⟨rfl, rfl, rfl, by decide +kernel, rfl, by decide +kernel, by decide +kernel⟩
def m_is_integer : MS :=
    mRet (mAnd (m1 (isiT [("NoneType", false), ("bool", true), ("int", true), ("str", false), ("list", false), ("tuple", false), ("dict", false)] [("Curve", false)]) (mVar 0)) (mNot (m1 (isiT [("NoneType", false), ("bool", true), ("int", false), ("str", false), ("list", false), ("tuple", false), ("dict", false)] [("Curve", false)]) (mVar 0))))
def F_is_integer : List FA → RF := runDef 1 1 m_is_integer
theorem ok_is_integer {P : Program} {w : World} {K : PySem.W.Frag} {mg : Str → Option Value} {base : Heap} (c : Kn fa fn K mg) {fd : FuncData} (D : FunM K d_is_integer fd) : FnG P w K mg base (L2.CX P w) 1 (d_is_integer.ad.a K) fd ["value"] (spF ⟨He.ga K, none⟩ K F_is_integer) := by
  exact fnG_of D sc_is_integer rfl rfl fun cdv A outer s H E hr hg =>
    gs_one (gs_ret (ge_and (ge_isi (c.free 22) (by rfl) (ge_var (pv 0)) (pe_bltn (v := .ty "int") (by rfl) (c.free 5) (by decide +kernel) rfl) (.ty _) (aa1 (c.kit 31 (a := .b "NoneType") (b := (.b "int")) (r := false)) (aa1 (c.kit 30 (a := .b "bool") (b := (.b "int")) (r := true)) (aa1 (c.kit 29 (a := .b "int") (b := (.b "int")) (r := true)) (aa1 (c.kit 28 (a := .b "str") (b := (.b "int")) (r := false)) (aa1 (c.kit 27 (a := .b "list") (b := (.b "int")) (r := false)) (aa1 (c.kit 26 (a := .b "tuple") (b := (.b "int")) (r := false)) (aa1 (c.kit 25 (a := .b "dict") (b := (.b "int")) (r := false)) (aa0)))))))) (aa1 ⟨c.cls 19, c.kit 32 (a := .c "Curve") (b := (.b "int")) (r := false)⟩ (aa0))) (ge_one (ge_not (ge_isi (c.free 22) (by rfl) (ge_var (pv 0)) (pe_bltn (v := .ty "bool") (by rfl) (c.free 41) (by decide +kernel) rfl) (.ty _) (aa1 (c.kit 39 (a := .b "NoneType") (b := (.b "bool")) (r := false)) (aa1 (c.kit 38 (a := .b "bool") (b := (.b "bool")) (r := true)) (aa1 (c.kit 37 (a := .b "int") (b := (.b "bool")) (r := false)) (aa1 (c.kit 36 (a := .b "str") (b := (.b "bool")) (r := false)) (aa1 (c.kit 35 (a := .b "list") (b := (.b "bool")) (r := false)) (aa1 (c.kit 34 (a := .b "tuple") (b := (.b "bool")) (r := false)) (aa1 (c.kit 33 (a := .b "dict") (b := (.b "bool")) (r := false)) (aa0)))))))) (aa1 ⟨c.cls 19, c.kit 40 (a := .c "Curve") (b := (.b "bool")) (r := false)⟩ (aa0)))))))
theorem sc_is_count : FnScope ["value", "most"] ["value", "most"] (defScope s_is_count) := ⟨rfl, rfl, rfl, by decide +kernel, rfl, by decide +kernel, by decide +kernel⟩
def m_is_count : MS :=
    mRet (mAnd (mCallF F_is_integer 1 0 (fun as bs => [as.getD 0 (.dat .non)]) (vDat (mVar 0) (vNil)) vNil) (mAnd (m2 geD (mVar 0) (mC (.int 0))) (mOr (m2 isND (mVar 1) (mC .non)) (m2 leD (mVar 0) (mVar 1)))))
def F_is_count : List FA → RF := runDef 2 2 m_is_count
theorem ok_is_count {P : Program} {w : World} {K : PySem.W.Frag} {mg : Str → Option Value} {base : Heap} (c : Kn fa fn K mg) {fd : FuncData} (D : FunM K d_is_count fd) : FnG P w K mg base (L2.CX P w) 2 (d_is_count.ad.a K) fd ["value", "most"] (spF ⟨He.ga K, none⟩ K F_is_count) := by
  obtain ⟨fd_is_integer, D_is_integer⟩ := c.def_ 6 (d := d_is_integer)
  have O_is_integer := ok_is_integer (P := P) (w := w) (base := base) c D_is_integer
  have B1_is_integer := bs_bd_is_integer_1 D_is_integer
  exact fnG_of D sc_is_count rfl rfl fun cdv A outer s H E hr hg =>
    gs_one (gs_ret (ge_and (ge_callF O_is_integer (hr.mono (by decide)) hg (takes_of rfl rfl rfl rfl) (by rfl) (c.glo 42) D_is_integer.kp (bd_is_integer_1 D_is_integer) ar_bd_is_integer_1 (gv_dat (ge_var (pv 0)) (gv_nil))) (ge_and (ge_cmp o_ge (ge_var (pv 0)) (ge_int) (nomark _)) (ge_one (ge_or (ge_cmp o_isN (ge_var (pv 1)) (ge_non) (nomark _)) (ge_one (ge_cmp o_le (ge_var (pv 0)) (ge_var (pv 1)) (nomark _))))))))
theorem sc_check_values : FnScope ["values", "position", "value"] ["values"] (defScope s_check_values) := ⟨rfl, rfl, rfl, by decide +kernel, rfl, by decide +kernel, by decide +kernel⟩
def m_check_values : MS :=
    mSeq (mIfS (cNot (cTruth (m1 (isiT [("NoneType", false), ("bool", false), ("int", false), ("str", false), ("list", true), ("tuple", false), ("dict", false)] [("Curve", false)]) (mVar 0)))) (mNever) (mNext))
    (mSeq (mIfS (cNot (cTruth (mChain leD leD (mC (.int 1)) (mCall lenC (mCons (mVar 0) (mNil))) (mC (.int 24))))) (mNever) (mNext))
    (mFor (mIts enumD (mCons (mVar 0) (mNil))) (gTpN 2 (gCs (gNm 1) (gCs (gNm 2) (gNl)))) (mIfS (cOr (cNot (cTruth (mCallF F_is_count 2 0 (fun as bs => [as.getD 0 (.dat .non), as.getD 1 (.dat .non)]) (vDat (mVar 2) (vDat (mC (.int 2000)) (vNil))) vNil))) (cAnd (cTruth (m2 gtD (mVar 1) (mC (.int 0)))) (cTruth (m2 ltD (mVar 2) (m2 ixD (mVar 0) (m2 subD (mVar 1) (mC (.int 1)))))))) (mNever) (mNext))))
def F_check_values : List FA → RF := runDef 1 3 m_check_values
theorem ok_check_values {P : Program} {w : World} {K : PySem.W.Frag} {mg : Str → Option Value} {base : Heap} (c : Kn fa fn K mg) {fd : FuncData} (D : FunM K d_check_values fd) : FnG P w K mg base (L2.CX P w) 3 (d_check_values.ad.a K) fd ["values"] (spF ⟨He.ga K, none⟩ K F_check_values) := by
  obtain ⟨fd_is_count, D_is_count⟩ := c.def_ 7 (d := d_is_count)
  have O_is_count := ok_is_count (P := P) (w := w) (base := base) c D_is_count
  exact fnG_of D sc_check_values rfl rfl fun cdv A outer s H E hr hg =>
    gs_cons (gs_if (gt_not (gt_val (ge_isi (c.free 22) (by rfl) (ge_var (pv 0)) (pe_bltn (v := .ty "list") (by rfl) (c.free 21) (by decide +kernel) rfl) (.ty _) (aa1 (c.kit 18 (a := .b "NoneType") (b := (.b "list")) (r := false)) (aa1 (c.kit 17 (a := .b "bool") (b := (.b "list")) (r := false)) (aa1 (c.kit 16 (a := .b "int") (b := (.b "list")) (r := false)) (aa1 (c.kit 15 (a := .b "str") (b := (.b "list")) (r := false)) (aa1 (c.kit 14 (a := .b "list") (b := (.b "list")) (r := true)) (aa1 (c.kit 13 (a := .b "tuple") (b := (.b "list")) (r := false)) (aa1 (c.kit 12 (a := .b "dict") (b := (.b "list")) (r := false)) (aa0)))))))) (aa1 ⟨c.cls 19, c.kit 20 (a := .c "Curve") (b := (.b "list")) (r := false)⟩ (aa0))))) (gs_one (gs_never)) (gs_nil))
    (gs_cons (gs_if (gt_not (gt_chain o_le o_le (ge_int) (ge_callB c_len (by rfl) (c.free 0) (by decide +kernel) (ga_cons (ge_var (pv 0)) (ga_nil))) (ge_gint (by rfl) (c.int 23)) (hbl := by intro x y z h; cases x <;> cases y <;> cases h <;> exact ⟨_, rfl⟩))) (gs_one (gs_never)) (gs_nil))
    (gs_one (gs_for (passes_of rfl) rfl (gi_enum (by rfl) (c.free 24) (ga_cons (ge_var (pv 0)) (ga_nil))) (gg_tupN rfl (ggs_cons (gg_name (pg_name (i := 1) sc_check_values.nd rfl (by first | exact .inl rfl | exact .inr rfl))) (ggs_cons (gg_name (pg_name (i := 2) sc_check_values.nd rfl (by first | exact .inl rfl | exact .inr rfl))) (ggs_nil)))) (gs_one (gs_if ((gw_or (gt_not (gt_val (ge_callF O_is_count (hr.mono (by decide)) hg (takes_of rfl rfl rfl rfl) (by rfl) (c.glo 44) D_is_count.kp (bd_is_count_2 D_is_count) ar_bd_is_count_2 (gv_dat (ge_var (pv 2)) (gv_dat (ge_gint (by rfl) (c.int 43)) (gv_nil)))))) (gw_or1 ((gw_and (gt_cmp o_gt (ge_var (pv 1)) (ge_int) (nomark _)) (gw_and1 (gt_cmp o_lt (ge_var (pv 2)) (ge_ix i_ix (ge_var (pv 0)) (ge_op o_sub (ge_var (pv 1)) (ge_int)) (fun _ _ => rfl)) (nomark _)))).pt))).pt) (gs_one (gs_never)) (gs_nil))))))
theorem sc_value_at : FnScope ["values", "period", "gain", "length", "times"] ["values", "period", "gain", "length"] (defScope s_value_at) := ⟨rfl, rfl, rfl, by decide +kernel, rfl, by decide +kernel, by decide +kernel⟩
def m_value_at : MS :=
    mSeq (mIfS (cTruth (m2 eqD (mVar 3) (mC (.int 0)))) (mRet (mC (.int 0))) (mNext))
    (mSeq (mIfS (cTruth (m2 leD (mVar 3) (mCall lenC (mCons (mVar 0) (mNil))))) (mRet (m2 ixD (mVar 0) (m2 subD (mVar 3) (mC (.int 1))))) (mNext))
    (mSeq (mAsg (m2 fdivD (m2 subD (m2 addD (m2 subD (mVar 3) (mCall lenC (mCons (mVar 0) (mNil)))) (mVar 1)) (mC (.int 1))) (mVar 1)) (gNm 4))
    (mRet (m2 addD (m2 ixD (mVar 0) (m2 subD (m2 subD (mVar 3) (m2 mulD (mVar 4) (mVar 1))) (mC (.int 1)))) (m2 mulD (mVar 4) (mVar 2))))))
def F_value_at : List FA → RF := runDef 4 5 m_value_at
theorem ok_value_at {P : Program} {w : World} {K : PySem.W.Frag} {mg : Str → Option Value} {base : Heap} (c : Kn fa fn K mg) {fd : FuncData} (D : FunM K d_value_at fd) : FnG P w K mg base (L2.CX P w) 1 (d_value_at.ad.a K) fd ["values", "period", "gain", "length"] (spF ⟨He.ga K, none⟩ K F_value_at) := by
  exact fnG_of D sc_value_at rfl rfl fun cdv A outer s H E hr hg =>
    gs_cons (gs_if (gt_cmp (o_eq hr.units) (ge_var (pv 3)) (ge_int) (nomark _)) (gs_one (gs_ret (ge_int))) (gs_nil))
    (gs_cons (gs_if (gt_cmp o_le (ge_var (pv 3)) (ge_callB c_len (by rfl) (c.free 0) (by decide +kernel) (ga_cons (ge_var (pv 0)) (ga_nil))) (nomark _)) (gs_one (gs_ret (ge_ix i_ix (ge_var (pv 0)) (ge_op o_sub (ge_var (pv 3)) (ge_int)) (fun _ _ => rfl)))) (gs_nil))
    (gs_cons (gs_set (i := 4) sc_value_at.nd rfl (by first | exact .inl rfl | exact .inr rfl) (ge_op o_fdiv (ge_op o_sub (ge_op o_add (ge_op o_sub (ge_var (pv 3)) (ge_callB c_len (by rfl) (c.free 0) (by decide +kernel) (ga_cons (ge_var (pv 0)) (ga_nil)))) (ge_var (pv 1))) (ge_int)) (ge_var (pv 1))))
    (gs_one (gs_ret (ge_op o_add (ge_ix i_ix (ge_var (pv 0)) (ge_op o_sub (ge_op o_sub (ge_var (pv 3)) (ge_op o_mul (ge_var (pv 4)) (ge_var (pv 1)))) (ge_int)) (fun _ _ => rfl)) (ge_op o_mul (ge_var (pv 4)) (ge_var (pv 2))))))))
theorem sc_check_growth : FnScope ["values", "period", "gain"] ["values", "period", "gain"] (defScope s_check_growth) := ⟨rfl, rfl, rfl, by decide +kernel, rfl, by decide +kernel, by decide +kernel⟩
def m_check_growth : MS :=
    mSeq (mIfS (cOr (cNot (cTruth (mCallF F_is_integer 1 0 (fun as bs => [as.getD 0 (.dat .non)]) (vDat (mVar 1) (vNil)) vNil))) (cOr (cTruth (m2 notInD (mVar 1) (mC (.tup [.int 1, .int 2, .int 3, .int 4, .int 6, .int 12])))) (cTruth (m2 gtD (mVar 1) (mCall lenC (mCons (mVar 0) (mNil))))))) (mNever) (mNext))
    (mIfS (cOr (cNot (cTruth (mCallF F_is_count 2 0 (fun as bs => [as.getD 0 (.dat .non), as.getD 1 (.dat .non)]) (vDat (mVar 2) (vDat (mC (.int 2000)) (vNil))) vNil))) (cTruth (m2 ltD (mCallF F_value_at 4 0 (fun as bs => [as.getD 0 (.dat .non), as.getD 1 (.dat .non), as.getD 2 (.dat .non), as.getD 3 (.dat .non)]) (vDat (mVar 0) (vDat (mVar 1) (vDat (mVar 2) (vDat (m2 addD (mCall lenC (mCons (mVar 0) (mNil))) (mC (.int 1))) (vNil))))) vNil) (m2 ixD (mVar 0) (m1 negD (mC (.int 1))))))) (mNever) (mNext))
def F_check_growth : List FA → RF := runDef 3 3 m_check_growth
theorem ok_check_growth {P : Program} {w : World} {K : PySem.W.Frag} {mg : Str → Option Value} {base : Heap} (c : Kn fa fn K mg) {fd : FuncData} (D : FunM K d_check_growth fd) : FnG P w K mg base (L2.CX P w) 3 (d_check_growth.ad.a K) fd ["values", "period", "gain"] (spF ⟨He.ga K, none⟩ K F_check_growth) := by
  obtain ⟨fd_is_integer, D_is_integer⟩ := c.def_ 6 (d := d_is_integer)
  have O_is_integer := ok_is_integer (P := P) (w := w) (base := base) c D_is_integer
  have B1_is_integer := bs_bd_is_integer_1 D_is_integer
  obtain ⟨fd_is_count, D_is_count⟩ := c.def_ 7 (d := d_is_count)
  have O_is_count := ok_is_count (P := P) (w := w) (base := base) c D_is_count
  obtain ⟨fd_value_at, D_value_at⟩ := c.def_ 9 (d := d_value_at)
  have O_value_at := ok_value_at (P := P) (w := w) (base := base) c D_value_at
  have B4_value_at := bs_bd_value_at_4 D_value_at
  exact fnG_of D sc_check_growth rfl rfl fun cdv A outer s H E hr hg =>
    gs_cons (gs_if ((gw_or (gt_not (gt_val (ge_callF O_is_integer (hr.mono (by decide)) hg (takes_of rfl rfl rfl rfl) (by rfl) (c.glo 42) D_is_integer.kp (bd_is_integer_1 D_is_integer) ar_bd_is_integer_1 (gv_dat (ge_var (pv 1)) (gv_nil))))) (gw_or (gt_cmp o_notIn (ge_var (pv 1)) (ge_gtup (by rfl) (c.tup 46).1 (c.tup 46).2 (fun _ => .cons (.int 1) (.cons (.int 2) (.cons (.int 3) (.cons (.int 4) (.cons (.int 6) (.cons (.int 12) (.nil)))))))) rfl) (gw_or1 (gt_cmp o_gt (ge_var (pv 1)) (ge_callB c_len (by rfl) (c.free 0) (by decide +kernel) (ga_cons (ge_var (pv 0)) (ga_nil))) (nomark _))))).pt) (gs_one (gs_never)) (gs_nil))
    (gs_one (gs_if ((gw_or (gt_not (gt_val (ge_callF O_is_count (hr.mono (by decide)) hg (takes_of rfl rfl rfl rfl) (by rfl) (c.glo 44) D_is_count.kp (bd_is_count_2 D_is_count) ar_bd_is_count_2 (gv_dat (ge_var (pv 2)) (gv_dat (ge_gint (by rfl) (c.int 43)) (gv_nil)))))) (gw_or1 (gt_cmp o_lt (ge_callF O_value_at (hr.mono (by decide)) hg (takes_of rfl rfl rfl rfl) (by rfl) (c.glo 47) D_value_at.kp (bd_value_at_4 D_value_at) ar_bd_value_at_4 (gv_dat (ge_var (pv 0)) (gv_dat (ge_var (pv 1)) (gv_dat (ge_var (pv 2)) (gv_dat (ge_op o_add (ge_callB c_len (by rfl) (c.free 0) (by decide +kernel) (ga_cons (ge_var (pv 0)) (ga_nil))) (ge_int)) (gv_nil)))))) (ge_ix i_ix (ge_var (pv 0)) (ge_un u_neg (ge_int)) (fun _ _ => rfl)) (nomark _)))).pt) (gs_one (gs_never)) (gs_nil)))
theorem sc_grows_by : FnScope ["values", "period", "gain", "other", "start", "growth", "length", "one", "next_one"] ["values", "period", "gain", "other"] (defScope s_grows_by) := ⟨rfl, rfl, rfl, by decide +kernel, rfl, by decide +kernel, by decide +kernel⟩
def m_grows_by : MS :=
    mSeq (mAsg (m2 addD (mCall lenC (mCons (mVar 0) (mNil))) (mC (.int 1))) (gNm 4))
    (mSeq (mAsg (m2 subD (mCallF F_value_at 4 0 (fun as bs => [as.getD 0 (.dat .non), as.getD 1 (.dat .non), as.getD 2 (.dat .non), as.getD 3 (.dat .non)]) (vDat (mVar 0) (vDat (mVar 1) (vDat (mVar 2) (vDat (m2 addD (mVar 4) (mVar 3)) (vNil))))) vNil) (mCallF F_value_at 4 0 (fun as bs => [as.getD 0 (.dat .non), as.getD 1 (.dat .non), as.getD 2 (.dat .non), as.getD 3 (.dat .non)]) (vDat (mVar 0) (vDat (mVar 1) (vDat (mVar 2) (vDat (mVar 4) (vNil))))) vNil)) (gNm 5))
    (mSeq (mFor (mIts range2 (mCons (mVar 4) (mCons (m2 addD (mVar 4) (mC (.int 12))) (mNil)))) (gNm 6) (mSeq (mPar 7 8 (mCons (mCallF F_value_at 4 0 (fun as bs => [as.getD 0 (.dat .non), as.getD 1 (.dat .non), as.getD 2 (.dat .non), as.getD 3 (.dat .non)]) (vDat (mVar 0) (vDat (mVar 1) (vDat (mVar 2) (vDat (mVar 6) (vNil))))) vNil) (mCons (mCallF F_value_at 4 0 (fun as bs => [as.getD 0 (.dat .non), as.getD 1 (.dat .non), as.getD 2 (.dat .non), as.getD 3 (.dat .non)]) (vDat (mVar 0) (vDat (mVar 1) (vDat (mVar 2) (vDat (m2 addD (mVar 6) (mVar 3)) (vNil))))) vNil) (mNil))))
    (mIfS (cTruth (m2 neD (m2 subD (mVar 8) (mVar 7)) (mVar 5))) (mRet (mC .non)) (mNext))))
    (mRet (mVar 5))))
def F_grows_by : List FA → RF := runDef 4 9 m_grows_by
theorem ok_grows_by {P : Program} {w : World} {K : PySem.W.Frag} {mg : Str → Option Value} {base : Heap} (c : Kn fa fn K mg) {fd : FuncData} (D : FunM K d_grows_by fd) : FnG P w K mg base (L2.CX P w) 2 (d_grows_by.ad.a K) fd ["values", "period", "gain", "other"] (spF ⟨He.ga K, none⟩ K F_grows_by) := by
  obtain ⟨fd_value_at, D_value_at⟩ := c.def_ 9 (d := d_value_at)
  have O_value_at := ok_value_at (P := P) (w := w) (base := base) c D_value_at
  have B4_value_at := bs_bd_value_at_4 D_value_at
  exact fnG_of D sc_grows_by rfl rfl fun cdv A outer s H E hr hg =>
    gs_cons (gs_set (i := 4) sc_grows_by.nd rfl (by first | exact .inl rfl | exact .inr rfl) (ge_op o_add (ge_callB c_len (by rfl) (c.free 0) (by decide +kernel) (ga_cons (ge_var (pv 0)) (ga_nil))) (ge_int)))
    (gs_cons (gs_set (i := 5) sc_grows_by.nd rfl (by first | exact .inl rfl | exact .inr rfl) (ge_op o_sub (ge_callF O_value_at (hr.mono (by decide)) hg (takes_of rfl rfl rfl rfl) (by rfl) (c.glo 47) D_value_at.kp (bd_value_at_4 D_value_at) ar_bd_value_at_4 (gv_dat (ge_var (pv 0)) (gv_dat (ge_var (pv 1)) (gv_dat (ge_var (pv 2)) (gv_dat (ge_op o_add (ge_var (pv 4)) (ge_var (pv 3))) (gv_nil)))))) (ge_callF O_value_at (hr.mono (by decide)) hg (takes_of rfl rfl rfl rfl) (by rfl) (c.glo 47) D_value_at.kp (bd_value_at_4 D_value_at) ar_bd_value_at_4 (gv_dat (ge_var (pv 0)) (gv_dat (ge_var (pv 1)) (gv_dat (ge_var (pv 2)) (gv_dat (ge_var (pv 4)) (gv_nil))))))))
    (gs_cons (gs_for (passes_of rfl) rfl (gi_range2 (by rfl) (c.free 3) (ga_cons (ge_var (pv 4)) (ga_cons (ge_op o_add (ge_var (pv 4)) (ge_gint (by rfl) (c.int 49))) (ga_nil)))) (gg_name (pg_name (i := 6) sc_grows_by.nd rfl (by first | exact .inl rfl | exact .inr rfl))) (gs_cons (gs_par (i := 7) (j := 8) rfl sc_grows_by.nd rfl rfl (by decide) rfl rfl (ga_cons (ge_callF O_value_at (hr.mono (by decide)) hg (takes_of rfl rfl rfl rfl) (by rfl) (c.glo 47) D_value_at.kp (bd_value_at_4 D_value_at) ar_bd_value_at_4 (gv_dat (ge_var (pv 0)) (gv_dat (ge_var (pv 1)) (gv_dat (ge_var (pv 2)) (gv_dat (ge_var (pv 6)) (gv_nil)))))) (ga_cons (ge_callF O_value_at (hr.mono (by decide)) hg (takes_of rfl rfl rfl rfl) (by rfl) (c.glo 47) D_value_at.kp (bd_value_at_4 D_value_at) ar_bd_value_at_4 (gv_dat (ge_var (pv 0)) (gv_dat (ge_var (pv 1)) (gv_dat (ge_var (pv 2)) (gv_dat (ge_op o_add (ge_var (pv 6)) (ge_var (pv 3))) (gv_nil)))))) (ga_nil))) rfl)
    (gs_one (gs_if (gt_cmp (o_ne hr.units) (ge_op o_sub (ge_var (pv 8)) (ge_var (pv 7))) (ge_var (pv 5)) (nomark _)) (gs_one (gs_ret (ge_non))) (gs_nil)))))
    (gs_one (gs_ret (ge_var (pv 5))))))
theorem sc_form_of : FnScope ["values", "period", "gain", "best", "growth", "found", "length", "other"] ["values", "period", "gain"] (defScope s_form_of) := ⟨rfl, rfl, rfl, by decide +kernel, rfl, by decide +kernel, by decide +kernel⟩
def m_form_of : MS :=
    mSeq (mAsg (m2 ixD (mLc (mItems (mC (.tup [.int 1, .int 2, .int 3, .int 4, .int 6, .int 12]))) (cgN 7) (cTruth (m2 notND (mCallF F_grows_by 4 0 (fun as bs => [as.getD 0 (.dat .non), as.getD 1 (.dat .non), as.getD 2 (.dat .non), as.getD 3 (.dat .non)]) (vDat (mVar 0) (vDat (mVar 1) (vDat (mVar 2) (vDat (mVar 7) (vNil))))) vNil) (mC .non))) (mVar 7) [7]) (mC (.int 0))) (gNm 3))
    (mSeq (mAsg (mCallF F_grows_by 4 0 (fun as bs => [as.getD 0 (.dat .non), as.getD 1 (.dat .non), as.getD 2 (.dat .non), as.getD 3 (.dat .non)]) (vDat (mVar 0) (vDat (mVar 1) (vDat (mVar 2) (vDat (mVar 3) (vNil))))) vNil) (gNm 4))
    (mSeq (mSetF 5 (lLc (mIts range2 (mCons (mC (.int 1)) (mCons (m2 addD (m2 addD (mCall lenC (mCons (mVar 0) (mNil))) (mC (.int 12))) (mC (.int 1))) (mNil)))) (cgN 6) (cYes) (mCallF F_value_at 4 0 (fun as bs => [as.getD 0 (.dat .non), as.getD 1 (.dat .non), as.getD 2 (.dat .non), as.getD 3 (.dat .non)]) (vDat (mVar 0) (vDat (mVar 1) (vDat (mVar 2) (vDat (mVar 6) (vNil))))) vNil) [6]))
    (mSeq (mWhile (cAnd (cTruth (m2 gtD (mCallP lenC 5) (mVar 3))) (cTruth (m2 eqD (mIxS 5 (m1 negD (mC (.int 1)))) (m2 addD (mIxS 5 (m2 subD (m1 negD (mC (.int 1))) (mVar 3))) (mVar 4))))) (mPop 5))
    (mRet (mTup (mCons (mVar 5) (mCons (mVar 3) (mCons (mVar 4) (mNil)))))))))
def F_form_of : List FA → RF := runDef 3 8 m_form_of
theorem ok_form_of {P : Program} {w : World} {K : PySem.W.Frag} {mg : Str → Option Value} {base : Heap} (c : Kn fa fn K mg) {fd : FuncData} (D : FunM K d_form_of fd) : FnG P w K mg base (L2.CX P w) 3 (d_form_of.ad.a K) fd ["values", "period", "gain"] (spF ⟨He.ga K, none⟩ K F_form_of) := by
  obtain ⟨fd_grows_by, D_grows_by⟩ := c.def_ 11 (d := d_grows_by)
  have O_grows_by := ok_grows_by (P := P) (w := w) (base := base) c D_grows_by
  have B4_grows_by := bs_bd_grows_by_4 D_grows_by
  obtain ⟨fd_value_at, D_value_at⟩ := c.def_ 9 (d := d_value_at)
  have O_value_at := ok_value_at (P := P) (w := w) (base := base) c D_value_at
  have B4_value_at := bs_bd_value_at_4 D_value_at
  exact fnG_of D sc_form_of rfl rfl fun cdv A outer s H E hr hg =>
    gs_cons (gs_set (i := 3) sc_form_of.nd rfl (by first | exact .inl rfl | exact .inr rfl) (ge_ix i_ix (ge_lc (own := [("other", 7)]) rfl sc_form_of.nd (gi_seq (ge_gtup (by rfl) (c.tup 46).1 (c.tup 46).2 (fun _ => .cons (.int 1) (.cons (.int 2) (.cons (.int 3) (.cons (.int 4) (.cons (.int 6) (.cons (.int 12) (.nil))))))))) (blkOk_by (by rfl)) (tg_name 7) (fun _ _ _ _ _ => pg_name (i := 7) sc_form_of.nd rfl (by first | exact .inl rfl | exact .inr rfl)) (fun _ _ _ _ _ => pts_one (gt_cmp o_notN (ge_callF O_grows_by (hr.mono (by decide)) hg Mir.takes0 (by rfl) (c.glo 50) D_grows_by.kp (bd_grows_by_4 D_grows_by) ar_bd_grows_by_4 (gv_dat (ge_var (pv 0)) (gv_dat (ge_var (pv 1)) (gv_dat (ge_var (pv 2)) (gv_dat (ge_var (pv 7)) (gv_nil)))))) (ge_non) (nomark _))) (fun _ _ _ _ _ => ge_var (pv 7))) (ge_int) (fun _ _ => rfl)))
    (gs_cons (gs_set (i := 4) sc_form_of.nd rfl (by first | exact .inl rfl | exact .inr rfl) (ge_callF O_grows_by (hr.mono (by decide)) hg (takes_of rfl rfl rfl rfl) (by rfl) (c.glo 50) D_grows_by.kp (bd_grows_by_4 D_grows_by) ar_bd_grows_by_4 (gv_dat (ge_var (pv 0)) (gv_dat (ge_var (pv 1)) (gv_dat (ge_var (pv 2)) (gv_dat (ge_var (pv 3)) (gv_nil)))))))
    (gs_cons (gs_setLcF (i := 5) (own := [("length", 6)])  rfl sc_form_of.nd rfl rfl (gi_range2 (by rfl) (c.free 3) (ga_cons (ge_int) (ga_cons (ge_op o_add (ge_op o_add (ge_callB c_len (by rfl) (c.free 0) (by decide +kernel) (ga_cons (ge_var (pv 0)) (ga_nil))) (ge_gint (by rfl) (c.int 49))) (ge_int)) (ga_nil)))) (blkOk_by (by rfl)) (tg_name 6) (fun _ _ _ _ _ => pg_name (i := 6) sc_form_of.nd rfl (by first | exact .inl rfl | exact .inr rfl)) (fun _ _ _ _ _ => pts_of rfl) (fun _ _ _ _ _ => ge_callF O_value_at (hr.mono (by decide)) hg Mir.takes0 (by rfl) (c.glo 47) D_value_at.kp (bd_value_at_4 D_value_at) ar_bd_value_at_4 (gv_dat (ge_var (pv 0)) (gv_dat (ge_var (pv 1)) (gv_dat (ge_var (pv 2)) (gv_dat (ge_var (pv 6)) (gv_nil)))))))
    (gs_cons (gs_while (passes_of rfl) ((gw_and (gt_cmp o_gt (ge_callBP c_len (by rfl) (c.free 0) (by decide +kernel) (pv 5)) (ge_var (pv 3)) (nomark _)) (gw_and1 (gt_cmp (o_eq hr.units) (ge_ixS (pv 5) (ge_un u_neg (ge_int)) (fun _ _ => rfl)) (ge_op o_add (ge_ixS (pv 5) (ge_op o_sub (ge_un u_neg (ge_int)) (ge_var (pv 3))) (fun _ _ => rfl)) (ge_var (pv 4))) (nomark _)))).pt) (gs_one (gs_pop (pv 5))))
    (gs_one (gs_ret (ge_tup (ga_cons (ge_var (pv 5)) (ga_cons (ge_var (pv 3)) (ga_cons (ge_var (pv 4)) (ga_nil))))))))))
theorem sc_Curve_init0 : FnScope ["self", "values", "period", "gain"] ["self", "values", "period", "gain"] (defScope s_Curve_init0) := ⟨rfl, rfl, rfl, by decide +kernel, rfl, by decide +kernel, by decide +kernel⟩
def m_Curve_init0 : MS :=
    mSeq (mDrop (mCallF F_check_values 1 0 (fun as bs => [as.getD 0 (.dat .non)]) (vDat (mVar 1) (vNil)) vNil))
    (mSeq (mDrop (mCallF F_check_growth 3 0 (fun as bs => [as.getD 0 (.dat .non), as.getD 1 (.dat .non), as.getD 2 (.dat .non)]) (vDat (mVar 1) (vDat (mVar 2) (vDat (mVar 3) (vNil)))) vNil))
    (mAsg (mCallF F_form_of 3 0 (fun as bs => [as.getD 0 (.dat .non), as.getD 1 (.dat .non), as.getD 2 (.dat .non)]) (vDat (mVar 1) (vDat (mVar 2) (vDat (mVar 3) (vNil)))) vNil) (gTpN 3 (gCs (gFld ["Curve"] 0 "value_list") (gCs (gFld ["Curve"] 0 "own_period") (gCs (gFld ["Curve"] 0 "own_gain") (gNl)))))))
def F_Curve_init0 : List FA → RF := runDef 4 4 m_Curve_init0
theorem ok_Curve_init0 {P : Program} {w : World} {K : PySem.W.Frag} {mg : Str → Option Value} {base : Heap} (c : Kn fa fn K mg) {fd : FuncData} (D : FunM K d_Curve_init0 fd) : FnG P w K mg base (L2.CX P w) 4 (d_Curve_init0.ad.a K) fd ["self", "values", "period", "gain"] (spF ⟨He.ga K, none⟩ K F_Curve_init0) := by
  obtain ⟨fd_check_values, D_check_values⟩ := c.def_ 8 (d := d_check_values)
  have O_check_values := ok_check_values (P := P) (w := w) (base := base) c D_check_values
  have B1_check_values := bs_bd_check_values_1 D_check_values
  obtain ⟨fd_check_growth, D_check_growth⟩ := c.def_ 10 (d := d_check_growth)
  have O_check_growth := ok_check_growth (P := P) (w := w) (base := base) c D_check_growth
  have B3_check_growth := bs_bd_check_growth_3 D_check_growth
  obtain ⟨fd_form_of, D_form_of⟩ := c.def_ 12 (d := d_form_of)
  have O_form_of := ok_form_of (P := P) (w := w) (base := base) c D_form_of
  have B3_form_of := bs_bd_form_of_3 D_form_of
  exact fnG_of D sc_Curve_init0 rfl rfl fun cdv A outer s H E hr hg =>
    gs_cons (gs_expr (ge_callF O_check_values (hr.mono (by decide)) hg (takes_of rfl rfl rfl rfl) (by rfl) (c.glo 45) D_check_values.kp (bd_check_values_1 D_check_values) ar_bd_check_values_1 (gv_dat (ge_var (pv 1)) (gv_nil))))
    (gs_cons (gs_expr (ge_callF O_check_growth (hr.mono (by decide)) hg (takes_of rfl rfl rfl rfl) (by rfl) (c.glo 48) D_check_growth.kp (bd_check_growth_3 D_check_growth) ar_bd_check_growth_3 (gv_dat (ge_var (pv 1)) (gv_dat (ge_var (pv 2)) (gv_dat (ge_var (pv 3)) (gv_nil))))))
    (gs_one (gs_asg (ge_callF O_form_of (hr.mono (by decide)) hg (takes_of rfl rfl rfl rfl) (by rfl) (c.glo 51) D_form_of.kp (bd_form_of_3 D_form_of) ar_bd_form_of_3 (gv_dat (ge_var (pv 1)) (gv_dat (ge_var (pv 2)) (gv_dat (ge_var (pv 3)) (gv_nil))))) (gg_tupN rfl (ggs_cons (gg_fld (aa1 ⟨(c.cls 19).cl, c.noat 54⟩ aa0) (pv 0)) (ggs_cons (gg_fld (aa1 ⟨(c.cls 19).cl, c.noat 53⟩ aa0) (pv 0)) (ggs_cons (gg_fld (aa1 ⟨(c.cls 19).cl, c.noat 52⟩ aa0) (pv 0)) (ggs_nil))))))))
theorem sc_l_ends_well : FnScope ["_law_row_here", "_law_units", "_law_lengths", "_law_size"] ["_law_row_here", "_law_units"] (defScope s_l_ends_well) := ⟨rfl, rfl, rfl, by decide +kernel, rfl, by decide +kernel, by decide +kernel⟩
def m_l_ends_well : MS :=
    mSeq (mAsg (mFresh (lRg2 (mC (.int 1)) (m2 addD (mCall lenC (mCons (mVar 1) (mNil))) (mC (.int 1))))) (gNm 2))
    (mRet (mCall allC (mCons (mLc (mItems (mVar 2)) (cgN 3) (cYes) (m2 leD (mCall sumC (mCons (mSl (mVar 1) (oS (m2 subD (mCall lenC (mCons (mVar 1) (mNil))) (mVar 3))) (oN)) (mNil))) (mCallF F_l_at 2 0 (fun as bs => [as.getD 0 (.dat .non), as.getD 1 (.dat .non)]) (vDat (mVar 0) (vDat (mVar 3) (vNil))) vNil)) [3]) (mNil))))
def F_l_ends_well : List FA → RF := runDef 2 4 m_l_ends_well
theorem ok_l_ends_well {P : Program} {w : World} {K : PySem.W.Frag} {mg : Str → Option Value} {base : Heap} (c : Kn fa fn K mg) {fd : FuncData} (D : FunM K d_l_ends_well fd) : FnG P w K mg base (L2.CX P w) 2 (d_l_ends_well.ad.a K) fd ["_law_row_here", "_law_units"] (spF ⟨He.ga K, none⟩ K F_l_ends_well) := by
  obtain ⟨fd_l_at, D_l_at⟩ := c.def_ 3 (d := d_l_at)
  have O_l_at := ok_l_at (P := P) (w := w) (base := base) c D_l_at
  have B2_l_at := bs_bd_l_at_2 D_l_at
  exact fnG_of D sc_l_ends_well rfl rfl fun cdv A outer s H E hr hg =>
    gs_cons (gs_set (i := 2) sc_l_ends_well.nd rfl (by first | exact .inl rfl | exact .inr rfl) (ge_fresh (gl_range2 (by rfl) (c.free 21) (by rfl) (c.free 3) (ge_int) (ge_op o_add (ge_callB c_len (by rfl) (c.free 0) (by decide +kernel) (ga_cons (ge_var (pv 1)) (ga_nil))) (ge_int)))))
    (gs_one (gs_ret (ge_callB (c_all rfl) (by rfl) (c.free 58) (by decide +kernel) (ga_cons (ge_lc (own := [("_law_size", 3)]) rfl sc_l_ends_well.nd (gi_seq (ge_var (pv 2))) (blkOk_by (by rfl)) (tg_name 3) (fun _ _ _ _ _ => pg_name (i := 3) sc_l_ends_well.nd rfl (by first | exact .inl rfl | exact .inr rfl)) (fun _ _ _ _ _ => pts_of rfl) (fun _ _ _ _ _ => ge_cmp o_le (ge_callB (c_sum rfl) (by rfl) (c.free 57) (by decide +kernel) (ga_cons (ge_slice (ge_var (pv 1)) (go_some (ge_op o_sub (ge_callB c_len (by rfl) (c.free 0) (by decide +kernel) (ga_cons (ge_var (pv 1)) (ga_nil))) (ge_var (pv 3)))) (go_none)) (ga_nil))) (ge_callF O_l_at (hr.mono (by decide)) hg Mir.takes0 (by rfl) (c.glo 9) D_l_at.kp (bd_l_at_2 D_l_at) ar_bd_l_at_2 (gv_dat (ge_var (pv 0)) (gv_dat (ge_var (pv 3)) (gv_nil)))) (nomark _))) (ga_nil)))))
theorem sc_l_record : FnScope ["_law_rng_here", "_law_row_here", "_law_found", "_law_way", "_law_many", "_law_more", "_law_k", "_law_one"] ["_law_rng_here", "_law_row_here"] (defScope s_l_record) := ⟨rfl, rfl, rfl, by decide +kernel, rfl, by decide +kernel, by decide +kernel⟩
def m_l_record : MS :=
    mSeq (mAsg (mTup (mCons (mCallF F_l_draw 2 0 (fun as bs => [as.getD 0 (.dat .non), as.getD 1 (.dat .non)]) (vSlot 0 (vDat (mC (.int 5)) (vNil))) vNil) (mCons (mCallF F_l_draw 2 0 (fun as bs => [as.getD 0 (.dat .non), as.getD 1 (.dat .non)]) (vSlot 0 (vDat (mC (.int 15)) (vNil))) vNil) (mNil)))) (gTpN 2 (gCs (gNm 3) (gCs (gNm 4) (gNl)))))
    (mSeq (mIfS (cTruth (m2 eqD (mVar 3) (mC (.int 0)))) (mRet (m2 addD (mLst (mCons (mCallF F_l_draw 2 0 (fun as bs => [as.getD 0 (.dat .non), as.getD 1 (.dat .non)]) (vSlot 0 (vDat (mC (.int 12)) (vNil))) vNil) (mNil))) (m2 mulD (mLst (mCons (mC (.int 0)) (mNil))) (mVar 4)))) (mNext))
    (mSeq (mIfS (cTruth (m2 eqD (mVar 3) (mC (.int 1)))) (mRet (mLc (mIts range1 (mCons (mVar 4) (mNil))) (cgN 6) (cYes) (m2 ixD (mLst (mCons (mC (.int 0)) (mCons (mC (.int 1)) (mCons (m2 powD (mC (.int 10)) (mC (.int 17))) (mCons (mC (.int 2)) (mNil)))))) (mCallF F_l_draw 2 0 (fun as bs => [as.getD 0 (.dat .non), as.getD 1 (.dat .non)]) (vSlot 0 (vDat (mC (.int 4)) (vNil))) vNil)) [6])) (mNext))
    (mSeq (mSetF 2 (lIf (cTruth (m2 gtD (mVar 3) (mC (.int 2)))) (lLc (mIts range1 (mCons (mVar 4) (mNil))) (cgN 6) (cYes) (mCallF F_l_draw 2 0 (fun as bs => [as.getD 0 (.dat .non), as.getD 1 (.dat .non)]) (vSlot 0 (vDat (m2 ixD (mLst (mCons (mC (.int 2)) (mCons (mC (.int 4)) (mNil)))) (m2 subD (mVar 3) (mC (.int 3)))) (vNil))) vNil) [6]) (lLst (mNil))))
    (mSeq (mWhile (cAnd (cTruth (m2 eqD (mVar 3) (mC (.int 2)))) (cTruth (m2 ltD (mCallP lenC 2) (mVar 4)))) (mSeq (mAsg (mLst (mCons (mCallF F_l_draw 2 0 (fun as bs => [as.getD 0 (.dat .non), as.getD 1 (.dat .non)]) (vSlot 0 (vDat (mC (.int 3)) (vNil))) vNil) (mCons (mC (.int 0)) (mNil)))) (gNm 5))
    (mApp 2 (m2 ixD (mLc (mItems (mVar 5)) (cgN 7) (cTruth (mCallF F_l_ends_well 2 0 (fun as bs => [as.getD 0 (.dat .non), as.getD 1 (.dat .non)]) (vDat (mVar 1) (vDat (mCatL 2 (mLst (mCons (mVar 7) (mNil)))) (vNil))) vNil)) (mVar 7) [7]) (mC (.int 0))))))
    (mRet (mVar 2))))))
def F_l_record : List FA → RF := runDef 2 8 m_l_record
theorem ok_l_record {P : Program} {w : World} {K : PySem.W.Frag} {mg : Str → Option Value} {base : Heap} (c : Kn fa fn K mg) {fd : FuncData} (D : FunM K d_l_record fd) : FnG P w K mg base (L2.CX P w) 3 (d_l_record.ad.a K) fd ["_law_rng_here", "_law_row_here"] (spF ⟨He.ga K, none⟩ K F_l_record) := by
  obtain ⟨fd_l_draw, D_l_draw⟩ := c.def_ 0 (d := d_l_draw)
  have O_l_draw := ok_l_draw (P := P) (w := w) (base := base) c D_l_draw
  have B2_l_draw := bs_bd_l_draw_2 D_l_draw
  obtain ⟨fd_l_ends_well, D_l_ends_well⟩ := c.def_ 14 (d := d_l_ends_well)
  have O_l_ends_well := ok_l_ends_well (P := P) (w := w) (base := base) c D_l_ends_well
  have B2_l_ends_well := bs_bd_l_ends_well_2 D_l_ends_well
  exact fnG_of D sc_l_record rfl rfl fun cdv A outer s H E hr hg =>
    gs_cons (gs_asg (ge_tup (ga_cons (ge_callF O_l_draw (hr.mono (by decide)) hg (takes_of rfl rfl rfl rfl) (by rfl) (c.glo 6) D_l_draw.kp (bd_l_draw_2 D_l_draw) ar_bd_l_draw_2 (gv_slot (pv 0) (gv_dat (ge_int) (gv_nil)))) (ga_cons (ge_callF O_l_draw (hr.mono (by decide)) hg (takes_of rfl rfl rfl rfl) (by rfl) (c.glo 6) D_l_draw.kp (bd_l_draw_2 D_l_draw) ar_bd_l_draw_2 (gv_slot (pv 0) (gv_dat (ge_int) (gv_nil)))) (ga_nil)))) (gg_tupN rfl (ggs_cons (gg_name (pg_name (i := 3) sc_l_record.nd rfl (by first | exact .inl rfl | exact .inr rfl))) (ggs_cons (gg_name (pg_name (i := 4) sc_l_record.nd rfl (by first | exact .inl rfl | exact .inr rfl))) (ggs_nil)))))
    (gs_cons (gs_if (gt_cmp (o_eq hr.units) (ge_var (pv 3)) (ge_int) (nomark _)) (gs_one (gs_ret (ge_op o_add (ge_lst (ga_cons (ge_callF O_l_draw (hr.mono (by decide)) hg (takes_of rfl rfl rfl rfl) (by rfl) (c.glo 6) D_l_draw.kp (bd_l_draw_2 D_l_draw) ar_bd_l_draw_2 (gv_slot (pv 0) (gv_dat (ge_int) (gv_nil)))) (ga_nil))) (ge_op o_mul (ge_lst (ga_cons (ge_int) (ga_nil))) (ge_var (pv 4)))))) (gs_nil))
    (gs_cons (gs_if (gt_cmp (o_eq hr.units) (ge_var (pv 3)) (ge_int) (nomark _)) (gs_one (gs_ret (ge_lc (own := [("_law_k", 6)]) rfl sc_l_record.nd (gi_range1 (by rfl) (c.free 3) (ga_cons (ge_var (pv 4)) (ga_nil))) (blkOk_by (by rfl)) (tg_name 6) (fun _ _ _ _ _ => pg_name (i := 6) sc_l_record.nd rfl (by first | exact .inl rfl | exact .inr rfl)) (fun _ _ _ _ _ => pts_of rfl) (fun _ _ _ _ _ => ge_ix i_ix (ge_lst (ga_cons (ge_int) (ga_cons (ge_int) (ga_cons (ge_op o_pow (ge_int) (ge_int)) (ga_cons (ge_int) (ga_nil)))))) (ge_callF O_l_draw (hr.mono (by decide)) hg Mir.takes0 (by rfl) (c.glo 6) D_l_draw.kp (bd_l_draw_2 D_l_draw) ar_bd_l_draw_2 (gv_slot (pv 0) (gv_dat (ge_int) (gv_nil)))) (fun _ _ => rfl))))) (gs_nil))
    (gs_cons (gs_setF (i := 2) sc_l_record.nd rfl (by first | exact .inl rfl | exact .inr rfl) (gl_if (gt_cmp o_gt (ge_var (pv 3)) (ge_int) (nomark _)) (gl_lc (own := [("_law_k", 6)]) rfl sc_l_record.nd (gi_range1 (by rfl) (c.free 3) (ga_cons (ge_var (pv 4)) (ga_nil))) (blkOk_by (by rfl)) (tg_name 6) (fun _ _ _ _ _ => pg_name (i := 6) sc_l_record.nd rfl (by first | exact .inl rfl | exact .inr rfl)) (fun _ _ _ _ _ => pts_of rfl) (fun _ _ _ _ _ => ge_callF O_l_draw (hr.mono (by decide)) hg Mir.takes0 (by rfl) (c.glo 6) D_l_draw.kp (bd_l_draw_2 D_l_draw) ar_bd_l_draw_2 (gv_slot (pv 0) (gv_dat (ge_ix i_ix (ge_lst (ga_cons (ge_int) (ga_cons (ge_int) (ga_nil)))) (ge_op o_sub (ge_var (pv 3)) (ge_int)) (fun _ _ => rfl)) (gv_nil))))) (gl_lst (ga_nil))))
    (gs_cons (gs_while (passes_of rfl) ((gw_and (gt_cmp (o_eq hr.units) (ge_var (pv 3)) (ge_int) (nomark _)) (gw_and1 (gt_cmp o_lt (ge_callBP c_len (by rfl) (c.free 0) (by decide +kernel) (pv 2)) (ge_var (pv 4)) (nomark _)))).pt) (gs_cons (gs_set (i := 5) sc_l_record.nd rfl (by first | exact .inl rfl | exact .inr rfl) (ge_lst (ga_cons (ge_callF O_l_draw (hr.mono (by decide)) hg (takes_of rfl rfl rfl rfl) (by rfl) (c.glo 6) D_l_draw.kp (bd_l_draw_2 D_l_draw) ar_bd_l_draw_2 (gv_slot (pv 0) (gv_dat (ge_int) (gv_nil)))) (ga_cons (ge_int) (ga_nil)))))
    (gs_one (gs_app (pv 2) (ge_ix i_ix (ge_lc (own := [("_law_one", 7)]) rfl sc_l_record.nd (gi_seq (ge_var (pv 5))) (blkOk_by (by rfl)) (tg_name 7) (fun _ _ _ _ _ => pg_name (i := 7) sc_l_record.nd rfl (by first | exact .inl rfl | exact .inr rfl)) (fun _ _ _ _ _ => pts_one (gt_val (ge_callF O_l_ends_well (hr.mono (by decide)) hg Mir.takes0 (by rfl) (c.glo 59) D_l_ends_well.kp (bd_l_ends_well_2 D_l_ends_well) ar_bd_l_ends_well_2 (gv_dat (ge_var (pv 1)) (gv_dat (ge_catL (pv 2) (ge_lst (ga_cons (ge_var (pv 7)) (ga_nil)))) (gv_nil)))))) (fun _ _ _ _ _ => ge_var (pv 7))) (ge_int) (fun _ _ => rfl))))))
    (gs_one (gs_ret (ge_var (pv 2))))))))
theorem sc_l_walked : FnScope ["_law_row_here", "_law_units", "_law_coming", "_law_found", "_law_waiting", "_law_count"] ["_law_row_here", "_law_units"] (defScope s_l_walked) := ⟨rfl, rfl, rfl, by decide +kernel, rfl, by decide +kernel, by decide +kernel⟩
def m_l_walked : MS :=
    mSeq (mParF 3 4 (lLst (mNil)) (mC (.int 0)))
    (mSeq (mFor (mItems (mVar 1)) (gNm 2) (mSeq (mAsg (m2 addD (mVar 4) (mVar 2)) (gNm 4))
    (mSeq (mAsg (mCall minC (mCons (mVar 4) (mCons (mCallF F_l_at 2 0 (fun as bs => [as.getD 0 (.dat .non), as.getD 1 (.dat .non)]) (vDat (mVar 0) (vDat (mC (.int 1)) (vNil))) vNil) (mNil)))) (gNm 5))
    (mSeq (mWhile (cNot (cTruth (mCallF F_l_ends_well 2 0 (fun as bs => [as.getD 0 (.dat .non), as.getD 1 (.dat .non)]) (vDat (mVar 0) (vDat (mCatL 3 (mLst (mCons (mVar 5) (mNil)))) (vNil))) vNil))) (mAsg (m2 subD (mVar 5) (mC (.int 1))) (gNm 5)))
    (mSeq (mApp 3 (mVar 5))
    (mAsg (m2 subD (mVar 4) (mVar 5)) (gNm 4)))))))
    (mRet (mVar 3)))
def F_l_walked : List FA → RF := runDef 2 6 m_l_walked
theorem ok_l_walked {P : Program} {w : World} {K : PySem.W.Frag} {mg : Str → Option Value} {base : Heap} (c : Kn fa fn K mg) {fd : FuncData} (D : FunM K d_l_walked fd) : FnG P w K mg base (L2.CX P w) 3 (d_l_walked.ad.a K) fd ["_law_row_here", "_law_units"] (spF ⟨He.ga K, none⟩ K F_l_walked) := by
  obtain ⟨fd_l_at, D_l_at⟩ := c.def_ 3 (d := d_l_at)
  have O_l_at := ok_l_at (P := P) (w := w) (base := base) c D_l_at
  have B2_l_at := bs_bd_l_at_2 D_l_at
  obtain ⟨fd_l_ends_well, D_l_ends_well⟩ := c.def_ 14 (d := d_l_ends_well)
  have O_l_ends_well := ok_l_ends_well (P := P) (w := w) (base := base) c D_l_ends_well
  have B2_l_ends_well := bs_bd_l_ends_well_2 D_l_ends_well
  exact fnG_of D sc_l_walked rfl rfl fun cdv A outer s H E hr hg =>
    gs_cons (gs_parF (i := 3) (j := 4) rfl sc_l_walked.nd rfl rfl (by decide) rfl rfl (gl_lst (ga_nil)) (ge_int) rfl)
    (gs_cons (gs_for (passes_of rfl) rfl (gi_seq (ge_var (pv 1))) (gg_name (pg_name (i := 2) sc_l_walked.nd rfl (by first | exact .inl rfl | exact .inr rfl))) (gs_cons (gs_set (i := 4) sc_l_walked.nd rfl (by first | exact .inl rfl | exact .inr rfl) (ge_op o_add (ge_var (pv 4)) (ge_var (pv 2))))
    (gs_cons (gs_set (i := 5) sc_l_walked.nd rfl (by first | exact .inl rfl | exact .inr rfl) (ge_callB (c_min rfl) (by rfl) (c.free 1) (by decide +kernel) (ga_cons (ge_var (pv 4)) (ga_cons (ge_callF O_l_at (hr.mono (by decide)) hg (takes_of rfl rfl rfl rfl) (by rfl) (c.glo 9) D_l_at.kp (bd_l_at_2 D_l_at) ar_bd_l_at_2 (gv_dat (ge_var (pv 0)) (gv_dat (ge_int) (gv_nil)))) (ga_nil)))))
    (gs_cons (gs_while (passes_of rfl) (gt_not (gt_val (ge_callF O_l_ends_well (hr.mono (by decide)) hg (takes_of rfl rfl rfl rfl) (by rfl) (c.glo 59) D_l_ends_well.kp (bd_l_ends_well_2 D_l_ends_well) ar_bd_l_ends_well_2 (gv_dat (ge_var (pv 0)) (gv_dat (ge_catL (pv 3) (ge_lst (ga_cons (ge_var (pv 5)) (ga_nil)))) (gv_nil)))))) (gs_one (gs_set (i := 5) sc_l_walked.nd rfl (by first | exact .inl rfl | exact .inr rfl) (ge_op o_sub (ge_var (pv 5)) (ge_int)))))
    (gs_cons (gs_app (pv 3) (ge_var (pv 5)))
    (gs_one (gs_set (i := 4) sc_l_walked.nd rfl (by first | exact .inl rfl | exact .inr rfl) (ge_op o_sub (ge_var (pv 4)) (ge_var (pv 5))))))))))
    (gs_one (gs_ret (ge_var (pv 3)))))
theorem sc_check_record : FnScope ["value", "position", "units"] ["value"] (defScope s_check_record) := ⟨rfl, rfl, rfl, by decide +kernel, rfl, by decide +kernel, by decide +kernel⟩
def m_check_record : MS :=
    mSeq (mIfS (cNot (cTruth (m1 (isiT [("NoneType", false), ("bool", false), ("int", false), ("str", false), ("list", true), ("tuple", false), ("dict", false)] [("Curve", false)]) (mVar 0)))) (mNever) (mNext))
    (mFor (mIts enumD (mCons (mVar 0) (mNil))) (gTpN 2 (gCs (gNm 1) (gCs (gNm 2) (gNl)))) (mIfS (cNot (cTruth (mCallF F_is_count 1 0 (fun as bs => [as.getD 0 (.dat .non), .dat (.non)]) (vDat (mVar 2) (vNil)) vNil))) (mNever) (mNext)))
def F_check_record : List FA → RF := runDef 1 3 m_check_record
theorem ok_check_record {P : Program} {w : World} {K : PySem.W.Frag} {mg : Str → Option Value} {base : Heap} (c : Kn fa fn K mg) {fd : FuncData} (D : FunM K d_check_record fd) : FnG P w K mg base (L2.CX P w) 3 (d_check_record.ad.a K) fd ["value"] (spF ⟨He.ga K, none⟩ K F_check_record) := by
  obtain ⟨fd_is_count, D_is_count⟩ := c.def_ 7 (d := d_is_count)
  have O_is_count := ok_is_count (P := P) (w := w) (base := base) c D_is_count
  exact fnG_of D sc_check_record rfl rfl fun cdv A outer s H E hr hg =>
    gs_cons (gs_if (gt_not (gt_val (ge_isi (c.free 22) (by rfl) (ge_var (pv 0)) (pe_bltn (v := .ty "list") (by rfl) (c.free 21) (by decide +kernel) rfl) (.ty _) (aa1 (c.kit 18 (a := .b "NoneType") (b := (.b "list")) (r := false)) (aa1 (c.kit 17 (a := .b "bool") (b := (.b "list")) (r := false)) (aa1 (c.kit 16 (a := .b "int") (b := (.b "list")) (r := false)) (aa1 (c.kit 15 (a := .b "str") (b := (.b "list")) (r := false)) (aa1 (c.kit 14 (a := .b "list") (b := (.b "list")) (r := true)) (aa1 (c.kit 13 (a := .b "tuple") (b := (.b "list")) (r := false)) (aa1 (c.kit 12 (a := .b "dict") (b := (.b "list")) (r := false)) (aa0)))))))) (aa1 ⟨c.cls 19, c.kit 20 (a := .c "Curve") (b := (.b "list")) (r := false)⟩ (aa0))))) (gs_one (gs_never)) (gs_nil))
    (gs_one (gs_for (passes_of rfl) rfl (gi_enum (by rfl) (c.free 24) (ga_cons (ge_var (pv 0)) (ga_nil))) (gg_tupN rfl (ggs_cons (gg_name (pg_name (i := 1) sc_check_record.nd rfl (by first | exact .inl rfl | exact .inr rfl))) (ggs_cons (gg_name (pg_name (i := 2) sc_check_record.nd rfl (by first | exact .inl rfl | exact .inr rfl))) (ggs_nil)))) (gs_one (gs_if (gt_not (gt_val (ge_callF O_is_count (hr.mono (by decide)) hg (takes_of rfl rfl rfl rfl) (by rfl) (c.glo 44) D_is_count.kp (bd_is_count_1 D_is_count) ar_bd_is_count_1 (gv_dat (ge_var (pv 2)) (gv_nil))))) (gs_one (gs_never)) (gs_nil)))))
theorem sc_Curve_at : FnScope ["self", "length"] ["self", "length"] (defScope s_Curve_at) := ⟨rfl, rfl, rfl, by decide +kernel, rfl, by decide +kernel, by decide +kernel⟩
def m_Curve_at : MS :=
    mSeq (mIfS (cNot (cTruth (mCallF F_is_count 1 0 (fun as bs => [as.getD 0 (.dat .non), .dat (.non)]) (vDat (mVar 1) (vNil)) vNil))) (mNever) (mNext))
    (mRet (mCallF F_value_at 4 0 (fun as bs => [as.getD 0 (.dat .non), as.getD 1 (.dat .non), as.getD 2 (.dat .non), as.getD 3 (.dat .non)]) (vDat (m1 (fldD ["Curve"] "value_list") (mVar 0)) (vDat (m1 (fldD ["Curve"] "own_period") (mVar 0)) (vDat (m1 (fldD ["Curve"] "own_gain") (mVar 0)) (vDat (mVar 1) (vNil))))) vNil))
def F_Curve_at : List FA → RF := runDef 2 2 m_Curve_at
theorem ok_Curve_at {P : Program} {w : World} {K : PySem.W.Frag} {mg : Str → Option Value} {base : Heap} (c : Kn fa fn K mg) {fd : FuncData} (D : FunM K d_Curve_at fd) : FnG P w K mg base (L2.CX P w) 3 (d_Curve_at.ad.a K) fd ["self", "length"] (spF ⟨He.ga K, none⟩ K F_Curve_at) := by
  obtain ⟨fd_is_count, D_is_count⟩ := c.def_ 7 (d := d_is_count)
  have O_is_count := ok_is_count (P := P) (w := w) (base := base) c D_is_count
  obtain ⟨fd_value_at, D_value_at⟩ := c.def_ 9 (d := d_value_at)
  have O_value_at := ok_value_at (P := P) (w := w) (base := base) c D_value_at
  have B4_value_at := bs_bd_value_at_4 D_value_at
  exact fnG_of D sc_Curve_at rfl rfl fun cdv A outer s H E hr hg =>
    gs_cons (gs_if (gt_not (gt_val (ge_callF O_is_count (hr.mono (by decide)) hg (takes_of rfl rfl rfl rfl) (by rfl) (c.glo 44) D_is_count.kp (bd_is_count_1 D_is_count) ar_bd_is_count_1 (gv_dat (ge_var (pv 1)) (gv_nil))))) (gs_one (gs_never)) (gs_nil))
    (gs_one (gs_ret (ge_callF O_value_at (hr.mono (by decide)) hg (takes_of rfl rfl rfl rfl) (by rfl) (c.glo 47) D_value_at.kp (bd_value_at_4 D_value_at) ar_bd_value_at_4 (gv_dat (ge_fld (aa1 ⟨(c.cls 19).cl, c.noat 54⟩ aa0) (ge_var (pv 0))) (gv_dat (ge_fld (aa1 ⟨(c.cls 19).cl, c.noat 53⟩ aa0) (ge_var (pv 0))) (gv_dat (ge_fld (aa1 ⟨(c.cls 19).cl, c.noat 52⟩ aa0) (ge_var (pv 0))) (gv_dat (ge_var (pv 1)) (gv_nil))))))))
theorem sc_Curve_find_break : FnScope ["self", "many", "both", "one"] ["self"] (defScope s_Curve_find_break) := ⟨rfl, rfl, rfl, by decide +kernel, rfl, by decide +kernel, by decide +kernel⟩
def m_Curve_find_break : MS :=
    mSeq (mAsg (mCall lenC (mCons (m1 (fldD ["Curve"] "value_list") (mVar 0)) (mNil))) (gNm 1))
    (mSeq (mFor (mIts range2 (mCons (mC (.int 2)) (mCons (m2 addD (m2 mulD (mC (.int 2)) (mVar 1)) (mC (.int 1))) (mNil)))) (gNm 2) (mFor (mIts range2 (mCons (mCall maxC (mCons (mC (.int 1)) (mCons (m2 subD (mVar 2) (mVar 1)) (mNil)))) (mCons (m2 addD (m2 fdivD (mVar 2) (mC (.int 2))) (mC (.int 1))) (mNil)))) (gNm 3) (mIfS (cTruth (m2 gtD (mMeth ["Curve"] "at" F_Curve_at 1 (fun as bs => [as.getD 0 (.dat .non), as.getD 1 (.dat .non)]) (mVar 0) (vDat (mVar 2) (vNil))) (m2 addD (mMeth ["Curve"] "at" F_Curve_at 1 (fun as bs => [as.getD 0 (.dat .non), as.getD 1 (.dat .non)]) (mVar 0) (vDat (mVar 3) (vNil))) (mMeth ["Curve"] "at" F_Curve_at 1 (fun as bs => [as.getD 0 (.dat .non), as.getD 1 (.dat .non)]) (mVar 0) (vDat (m2 subD (mVar 2) (mVar 3)) (vNil)))))) (mRet (mTup (mCons (mVar 3) (mCons (m2 subD (mVar 2) (mVar 3)) (mNil))))) (mNext))))
    (mRet (mC .non)))
def F_Curve_find_break : List FA → RF := runDef 1 4 m_Curve_find_break
theorem ok_Curve_find_break {P : Program} {w : World} {K : PySem.W.Frag} {mg : Str → Option Value} {base : Heap} (c : Kn fa fn K mg) {fd : FuncData} (D : FunM K d_Curve_find_break fd) : FnG P w K mg base (L2.CX P w) 4 (d_Curve_find_break.ad.a K) fd ["self"] (spF ⟨He.ga K, none⟩ K F_Curve_find_break) := by
  obtain ⟨fd_Curve_at, D_Curve_at⟩ := c.def_ 18 (d := d_Curve_at)
  have O_Curve_at := ok_Curve_at (P := P) (w := w) (base := base) c D_Curve_at
  have B2_Curve_at := bs_bd_Curve_at_2 D_Curve_at
  exact fnG_of D sc_Curve_find_break rfl rfl fun cdv A outer s H E hr hg =>
    gs_cons (gs_set (i := 1) sc_Curve_find_break.nd rfl (by first | exact .inl rfl | exact .inr rfl) (ge_callB c_len (by rfl) (c.free 0) (by decide +kernel) (ga_cons (ge_fld (aa1 ⟨(c.cls 19).cl, c.noat 54⟩ aa0) (ge_var (pv 0))) (ga_nil))))
    (gs_cons (gs_for (passes_of rfl) rfl (gi_range2 (by rfl) (c.free 3) (ga_cons (ge_int) (ga_cons (ge_op o_add (ge_op o_mul (ge_int) (ge_var (pv 1))) (ge_int)) (ga_nil)))) (gg_name (pg_name (i := 2) sc_Curve_find_break.nd rfl (by first | exact .inl rfl | exact .inr rfl))) (gs_one (gs_for (passes_of rfl) rfl (gi_range2 (by rfl) (c.free 3) (ga_cons (ge_callB (c_max rfl) (by rfl) (c.free 2) (by decide +kernel) (ga_cons (ge_int) (ga_cons (ge_op o_sub (ge_var (pv 2)) (ge_var (pv 1))) (ga_nil)))) (ga_cons (ge_op o_add (ge_op o_fdiv (ge_var (pv 2)) (ge_int)) (ge_int)) (ga_nil)))) (gg_name (pg_name (i := 3) sc_Curve_find_break.nd rfl (by first | exact .inl rfl | exact .inr rfl))) (gs_one (gs_if (gt_cmp o_gt (ge_meth (aa1 ⟨(c.cls 19).cl, c.meth 64⟩ aa0) O_Curve_at (hr.mono (by decide)) hg (takes_of rfl rfl rfl rfl) (bd_Curve_at_2 D_Curve_at) ar_bd_Curve_at_2 (ge_var (pv 0)) (gv_dat (ge_var (pv 2)) (gv_nil))) (ge_op o_add (ge_meth (aa1 ⟨(c.cls 19).cl, c.meth 64⟩ aa0) O_Curve_at (hr.mono (by decide)) hg (takes_of rfl rfl rfl rfl) (bd_Curve_at_2 D_Curve_at) ar_bd_Curve_at_2 (ge_var (pv 0)) (gv_dat (ge_var (pv 3)) (gv_nil))) (ge_meth (aa1 ⟨(c.cls 19).cl, c.meth 64⟩ aa0) O_Curve_at (hr.mono (by decide)) hg (takes_of rfl rfl rfl rfl) (bd_Curve_at_2 D_Curve_at) ar_bd_Curve_at_2 (ge_var (pv 0)) (gv_dat (ge_op o_sub (ge_var (pv 2)) (ge_var (pv 3))) (gv_nil)))) (nomark _)) (gs_one (gs_ret (ge_tup (ga_cons (ge_var (pv 3)) (ga_cons (ge_op o_sub (ge_var (pv 2)) (ge_var (pv 3))) (ga_nil)))))) (gs_nil))))))
    (gs_one (gs_ret (ge_non))))
theorem sc_require_good : FnScope ["curve", "found"] ["curve"] (defScope s_require_good) := ⟨rfl, rfl, rfl, by decide +kernel, rfl, by decide +kernel, by decide +kernel⟩
def m_require_good : MS :=
    mSeq (mAsg (mMeth ["Curve"] "find_break" F_Curve_find_break 0 (fun as bs => [as.getD 0 (.dat .non)]) (mVar 0) vNil) (gNm 1))
    (mIfS (cTruth (m2 notND (mVar 1) (mC .non))) (mNever) (mNext))
def F_require_good : List FA → RF := runDef 1 2 m_require_good
theorem ok_require_good {P : Program} {w : World} {K : PySem.W.Frag} {mg : Str → Option Value} {base : Heap} (c : Kn fa fn K mg) {fd : FuncData} (D : FunM K d_require_good fd) : FnG P w K mg base (L2.CX P w) 5 (d_require_good.ad.a K) fd ["curve"] (spF ⟨He.ga K, none⟩ K F_require_good) := by
  obtain ⟨fd_Curve_find_break, D_Curve_find_break⟩ := c.def_ 19 (d := d_Curve_find_break)
  have O_Curve_find_break := ok_Curve_find_break (P := P) (w := w) (base := base) c D_Curve_find_break
  have B1_Curve_find_break := bs_bd_Curve_find_break_1 D_Curve_find_break
  exact fnG_of D sc_require_good rfl rfl fun cdv A outer s H E hr hg =>
    gs_cons (gs_set (i := 1) sc_require_good.nd rfl (by first | exact .inl rfl | exact .inr rfl) (ge_meth0 (aa1 ⟨(c.cls 19).cl, c.meth 65⟩ aa0) O_Curve_find_break (hr.mono (by decide)) hg (takes_of rfl rfl rfl rfl) (bd_Curve_find_break_1 D_Curve_find_break) ar_bd_Curve_find_break_1 (ge_var (pv 0))))
    (gs_one (gs_if (gt_cmp o_notN (ge_var (pv 1)) (ge_non) (nomark _)) (gs_one (gs_never)) (gs_nil)))
theorem sc_allowance : FnScope ["entered", "curve", "least", "units", "length", "count"] ["entered", "curve"] (defScope s_allowance) := ⟨rfl, rfl, rfl, by decide +kernel, rfl, by decide +kernel, by decide +kernel⟩
def m_allowance : MS :=
    mSeq (mPar 2 3 (mCons (mMeth ["Curve"] "at" F_Curve_at 1 (fun as bs => [as.getD 0 (.dat .non), as.getD 1 (.dat .non)]) (mVar 1) (vDat (mC (.int 1)) (vNil))) (mCons (mC (.int 0)) (mNil))))
    (mSeq (mFor (mEnumR 2 (mVar 0)) (gTpN 2 (gCs (gNm 4) (gCs (gNm 5) (gNl)))) (mSeq (mAsg (m2 addD (mVar 3) (mVar 5)) (gNm 3))
    (mAsg (mCall minC (mCons (mVar 2) (mCons (m2 subD (mMeth ["Curve"] "at" F_Curve_at 1 (fun as bs => [as.getD 0 (.dat .non), as.getD 1 (.dat .non)]) (mVar 1) (vDat (mVar 4) (vNil))) (mVar 3)) (mNil)))) (gNm 2))))
    (mRet (mCall maxC (mCons (mC (.int 0)) (mCons (mVar 2) (mNil))))))
def F_allowance : List FA → RF := runDef 2 6 m_allowance
theorem ok_allowance {P : Program} {w : World} {K : PySem.W.Frag} {mg : Str → Option Value} {base : Heap} (c : Kn fa fn K mg) {fd : FuncData} (D : FunM K d_allowance fd) : FnG P w K mg base (L2.CX P w) 4 (d_allowance.ad.a K) fd ["entered", "curve"] (spF ⟨He.ga K, none⟩ K F_allowance) := by
  obtain ⟨fd_Curve_at, D_Curve_at⟩ := c.def_ 18 (d := d_Curve_at)
  have O_Curve_at := ok_Curve_at (P := P) (w := w) (base := base) c D_Curve_at
  have B2_Curve_at := bs_bd_Curve_at_2 D_Curve_at
  exact fnG_of D sc_allowance rfl rfl fun cdv A outer s H E hr hg =>
    gs_cons (gs_par (i := 2) (j := 3) rfl sc_allowance.nd rfl rfl (by decide) rfl rfl (ga_cons (ge_meth (aa1 ⟨(c.cls 19).cl, c.meth 64⟩ aa0) O_Curve_at (hr.mono (by decide)) hg (takes_of rfl rfl rfl rfl) (bd_Curve_at_2 D_Curve_at) ar_bd_Curve_at_2 (ge_var (pv 1)) (gv_dat (ge_int) (gv_nil))) (ga_cons (ge_int) (ga_nil))) rfl)
    (gs_cons (gs_for (passes_of rfl) rfl (gi_enumR (by rfl) (c.free 24) (by rfl) (c.free 67) (ge_var (pv 0)) (by decide) (by decide)) (gg_tupN rfl (ggs_cons (gg_name (pg_name (i := 4) sc_allowance.nd rfl (by first | exact .inl rfl | exact .inr rfl))) (ggs_cons (gg_name (pg_name (i := 5) sc_allowance.nd rfl (by first | exact .inl rfl | exact .inr rfl))) (ggs_nil)))) (gs_cons (gs_set (i := 3) sc_allowance.nd rfl (by first | exact .inl rfl | exact .inr rfl) (ge_op o_add (ge_var (pv 3)) (ge_var (pv 5))))
    (gs_one (gs_set (i := 2) sc_allowance.nd rfl (by first | exact .inl rfl | exact .inr rfl) (ge_callB (c_min rfl) (by rfl) (c.free 1) (by decide +kernel) (ga_cons (ge_var (pv 2)) (ga_cons (ge_op o_sub (ge_meth (aa1 ⟨(c.cls 19).cl, c.meth 64⟩ aa0) O_Curve_at (hr.mono (by decide)) hg (takes_of rfl rfl rfl rfl) (bd_Curve_at_2 D_Curve_at) ar_bd_Curve_at_2 (ge_var (pv 1)) (gv_dat (ge_var (pv 4)) (gv_nil))) (ge_var (pv 3))) (ga_nil))))))))
    (gs_one (gs_ret (ge_callB (c_max rfl) (by rfl) (c.free 2) (by decide +kernel) (ga_cons (ge_int) (ga_cons (ge_var (pv 2)) (ga_nil)))))))
theorem sc_shaped : FnScope ["record", "curve", "units", "entered", "waiting", "count"] ["record", "curve"] (defScope s_shaped) := ⟨rfl, rfl, rfl, by decide +kernel, rfl, by decide +kernel, by decide +kernel⟩
def m_shaped : MN :=
    nSeq (nLift (mDrop (mCallF F_check_record 1 0 (fun as bs => [as.getD 0 (.dat .non)]) (vDat (mVar 0) (vNil)) vNil)))
    (nSeq (nLift (mDrop (mCallF F_require_good 1 0 (fun as bs => [as.getD 0 (.dat .non)]) (vDat (mVar 1) (vNil)) vNil)))
    (nSeq (nLift (mParF 3 4 (lLst (mNil)) (mC (.int 0))))
    (nSeq (nLift (mFor (mItems (mVar 0)) (gNm 2) (mSeq (mAsg (m2 addD (mVar 4) (mVar 2)) (gNm 4))
    (mSeq (mAsg (mCall minC (mCons (mVar 4) (mCons (mCallF (see1 0 F_allowance) 2 0 (fun as bs => [as.getD 0 (.dat .non), as.getD 1 (.dat .non)]) (vVar 3 (vDat (mVar 1) (vNil))) vNil) (mNil)))) (gNm 5))
    (mSeq (mApp 3 (mVar 5))
    (mAsg (m2 subD (mVar 4) (mVar 5)) (gNm 4)))))))
    (nRetV 3))))
def F_shaped : List FA → RN := runN 2 6 m_shaped
theorem ok_shaped {P : Program} {w : World} {K : PySem.W.Frag} {mg : Str → Option Value} {base : Heap} (c : Kn fa fn K mg) {fd : FuncData} (D : FunM K d_shaped fd) : FnG P w K mg base (L2.CX P w) 6 (d_shaped.ad.a K) fd ["record", "curve"] (spN ⟨He.ga K, none⟩ K F_shaped) := by
  obtain ⟨fd_check_record, D_check_record⟩ := c.def_ 17 (d := d_check_record)
  have O_check_record := ok_check_record (P := P) (w := w) (base := base) c D_check_record
  have B1_check_record := bs_bd_check_record_1 D_check_record
  obtain ⟨fd_require_good, D_require_good⟩ := c.def_ 20 (d := d_require_good)
  have O_require_good := ok_require_good (P := P) (w := w) (base := base) c D_require_good
  have B1_require_good := bs_bd_require_good_1 D_require_good
  obtain ⟨fd_allowance, D_allowance⟩ := c.def_ 21 (d := d_allowance)
  have O_allowance := ok_allowance (P := P) (w := w) (base := base) c D_allowance
  have B2_allowance := bs_bd_allowance_2 D_allowance
  exact fnN_of D sc_shaped rfl rfl fun cdv A outer s H E hr hg =>
    gn_cons (gn_lift (gs_expr (ge_callF O_check_record (hr.mono (by decide)) hg (takes_of rfl rfl rfl rfl) (by rfl) (c.glo 63) D_check_record.kp (bd_check_record_1 D_check_record) ar_bd_check_record_1 (gv_dat (ge_var (pv 0)) (gv_nil)))))
    (gn_cons (gn_lift (gs_expr (ge_callF O_require_good (hr.mono (by decide)) hg (takes_of rfl rfl rfl rfl) (by rfl) (c.glo 66) D_require_good.kp (bd_require_good_1 D_require_good) ar_bd_require_good_1 (gv_dat (ge_var (pv 1)) (gv_nil)))))
    (gn_cons (gn_lift (gs_parF (i := 3) (j := 4) rfl sc_shaped.nd rfl rfl (by decide) rfl rfl (gl_lst (ga_nil)) (ge_int) rfl))
    (gn_cons (gn_lift (gs_for (passes_of rfl) rfl (gi_seq (ge_var (pv 0))) (gg_name (pg_name (i := 2) sc_shaped.nd rfl (by first | exact .inl rfl | exact .inr rfl))) (gs_cons (gs_set (i := 4) sc_shaped.nd rfl (by first | exact .inl rfl | exact .inr rfl) (ge_op o_add (ge_var (pv 4)) (ge_var (pv 2))))
    (gs_cons (gs_set (i := 5) sc_shaped.nd rfl (by first | exact .inl rfl | exact .inr rfl) (ge_callB (c_min rfl) (by rfl) (c.free 1) (by decide +kernel) (ga_cons (ge_var (pv 4)) (ga_cons (ge_callF (O_allowance.see 0) (hr.mono (by decide)) hg (takes_of rfl rfl rfl rfl) (by rfl) (c.glo 68) D_allowance.kp (bd_allowance_2 D_allowance) ar_bd_allowance_2 (gv_var (pv 3) (gv_dat (ge_var (pv 1)) (gv_nil)))) (ga_nil)))))
    (gs_cons (gs_app (pv 3) (ge_var (pv 5)))
    (gs_one (gs_set (i := 4) sc_shaped.nd rfl (by first | exact .inl rfl | exact .inr rfl) (ge_op o_sub (ge_var (pv 4)) (ge_var (pv 5))))))))))
    (gn_one (gn_retV (pv 3))))))
theorem sc_l_is_kept : FnScope ["_law_row_here", "_law_units", "_law_size", "_law_most", "_law_start"] ["_law_row_here", "_law_units"] (defScope s_l_is_kept) := ⟨rfl, rfl, rfl, by decide +kernel, rfl, by decide +kernel, by decide +kernel⟩
def m_l_is_kept : MS :=
    mSeq (mFor (mIts range2 (mCons (mC (.int 1)) (mCons (m2 addD (mCall lenC (mCons (mVar 1) (mNil))) (mC (.int 1))) (mNil)))) (gNm 2) (mSeq (mAsg (mCallF F_l_at 2 0 (fun as bs => [as.getD 0 (.dat .non), as.getD 1 (.dat .non)]) (vDat (mVar 0) (vDat (mVar 2) (vNil))) vNil) (gNm 3))
    (mIfS (cTruth (mCall anyC (mCons (mLc (mIts range1 (mCons (m2 subD (m2 addD (mCall lenC (mCons (mVar 1) (mNil))) (mC (.int 1))) (mVar 2)) (mNil))) (cgN 4) (cYes) (m2 gtD (mCall sumC (mCons (mSl (mVar 1) (oS (mVar 4)) (oS (m2 addD (mVar 4) (mVar 2)))) (mNil))) (mVar 3)) [4]) (mNil)))) (mRet (mC (.bl false))) (mNext))))
    (mRet (mC (.bl true)))
def F_l_is_kept : List FA → RF := runDef 2 5 m_l_is_kept
theorem ok_l_is_kept {P : Program} {w : World} {K : PySem.W.Frag} {mg : Str → Option Value} {base : Heap} (c : Kn fa fn K mg) {fd : FuncData} (D : FunM K d_l_is_kept fd) : FnG P w K mg base (L2.CX P w) 2 (d_l_is_kept.ad.a K) fd ["_law_row_here", "_law_units"] (spF ⟨He.ga K, none⟩ K F_l_is_kept) := by
  obtain ⟨fd_l_at, D_l_at⟩ := c.def_ 3 (d := d_l_at)
  have O_l_at := ok_l_at (P := P) (w := w) (base := base) c D_l_at
  have B2_l_at := bs_bd_l_at_2 D_l_at
  exact fnG_of D sc_l_is_kept rfl rfl fun cdv A outer s H E hr hg =>
    gs_cons (gs_for (passes_of rfl) rfl (gi_range2 (by rfl) (c.free 3) (ga_cons (ge_int) (ga_cons (ge_op o_add (ge_callB c_len (by rfl) (c.free 0) (by decide +kernel) (ga_cons (ge_var (pv 1)) (ga_nil))) (ge_int)) (ga_nil)))) (gg_name (pg_name (i := 2) sc_l_is_kept.nd rfl (by first | exact .inl rfl | exact .inr rfl))) (gs_cons (gs_set (i := 3) sc_l_is_kept.nd rfl (by first | exact .inl rfl | exact .inr rfl) (ge_callF O_l_at (hr.mono (by decide)) hg (takes_of rfl rfl rfl rfl) (by rfl) (c.glo 9) D_l_at.kp (bd_l_at_2 D_l_at) ar_bd_l_at_2 (gv_dat (ge_var (pv 0)) (gv_dat (ge_var (pv 2)) (gv_nil)))))
    (gs_one (gs_if (gt_val (ge_callB (c_any rfl) (by rfl) (c.free 70) (by decide +kernel) (ga_cons (ge_lc (own := [("_law_start", 4)]) rfl sc_l_is_kept.nd (gi_range1 (by rfl) (c.free 3) (ga_cons (ge_op o_sub (ge_op o_add (ge_callB c_len (by rfl) (c.free 0) (by decide +kernel) (ga_cons (ge_var (pv 1)) (ga_nil))) (ge_int)) (ge_var (pv 2))) (ga_nil))) (blkOk_by (by rfl)) (tg_name 4) (fun _ _ _ _ _ => pg_name (i := 4) sc_l_is_kept.nd rfl (by first | exact .inl rfl | exact .inr rfl)) (fun _ _ _ _ _ => pts_of rfl) (fun _ _ _ _ _ => ge_cmp o_gt (ge_callB (c_sum rfl) (by rfl) (c.free 57) (by decide +kernel) (ga_cons (ge_slice (ge_var (pv 1)) (go_some (ge_var (pv 4))) (go_some (ge_op o_add (ge_var (pv 4)) (ge_var (pv 2))))) (ga_nil))) (ge_var (pv 3)) (nomark _))) (ga_nil)))) (gs_one (gs_ret (ge_bl))) (gs_nil)))))
    (gs_one (gs_ret (ge_bl)))
theorem sc_sums_of : FnScope ["record", "sums", "units"] ["record"] (defScope s_sums_of) := ⟨rfl, rfl, rfl, by decide +kernel, rfl, by decide +kernel, by decide +kernel⟩
def m_sums_of : MS :=
    mSeq (mSetF 1 (lLst (mCons (mC (.int 0)) (mNil))))
    (mSeq (mFor (mItems (mVar 0)) (gNm 2) (mApp 1 (m2 addD (mIxS 1 (m1 negD (mC (.int 1)))) (mVar 2))))
    (mRet (mVar 1)))
def F_sums_of : List FA → RF := runDef 1 3 m_sums_of
theorem ok_sums_of {P : Program} {w : World} {K : PySem.W.Frag} {mg : Str → Option Value} {base : Heap} (c : Kn fa fn K mg) {fd : FuncData} (D : FunM K d_sums_of fd) : FnG P w K mg base (L2.CX P w) 1 (d_sums_of.ad.a K) fd ["record"] (spF ⟨He.ga K, none⟩ K F_sums_of) := by
  exact fnG_of D sc_sums_of rfl rfl fun cdv A outer s H E hr hg =>
    gs_cons (gs_setF (i := 1) sc_sums_of.nd rfl (by first | exact .inl rfl | exact .inr rfl) (gl_lst (ga_cons (ge_int) (ga_nil))))
    (gs_cons (gs_for (passes_of rfl) rfl (gi_seq (ge_var (pv 0))) (gg_name (pg_name (i := 2) sc_sums_of.nd rfl (by first | exact .inl rfl | exact .inr rfl))) (gs_one (gs_app (pv 1) (ge_op o_add (ge_ixS (pv 1) (ge_un u_neg (ge_int)) (fun _ _ => rfl)) (ge_var (pv 2))))))
    (gs_one (gs_ret (ge_var (pv 1)))))
theorem sc_breach : FnScope ["record", "curve", "sums", "length", "most", "start", "units"] ["record", "curve"] (defScope s_breach) := ⟨rfl, rfl, rfl, by decide +kernel, rfl, by decide +kernel, by decide +kernel⟩
def m_breach : MS :=
    mSeq (mDrop (mCallF F_check_record 1 0 (fun as bs => [as.getD 0 (.dat .non)]) (vDat (mVar 0) (vNil)) vNil))
    (mSeq (mAsg (mCallF F_sums_of 1 0 (fun as bs => [as.getD 0 (.dat .non)]) (vDat (mVar 0) (vNil)) vNil) (gNm 2))
    (mSeq (mFor (mIts range2 (mCons (mC (.int 1)) (mCons (m2 addD (mCall lenC (mCons (mVar 0) (mNil))) (mC (.int 1))) (mNil)))) (gNm 3) (mSeq (mAsg (mMeth ["Curve"] "at" F_Curve_at 1 (fun as bs => [as.getD 0 (.dat .non), as.getD 1 (.dat .non)]) (mVar 1) (vDat (mVar 3) (vNil))) (gNm 4))
    (mFor (mIts range1 (mCons (m2 addD (m2 subD (mCall lenC (mCons (mVar 0) (mNil))) (mVar 3)) (mC (.int 1))) (mNil))) (gNm 5) (mSeq (mAsg (m2 subD (m2 ixD (mVar 2) (m2 addD (mVar 5) (mVar 3))) (m2 ixD (mVar 2) (mVar 5))) (gNm 6))
    (mIfS (cTruth (m2 gtD (mVar 6) (mVar 4))) (mRet (mTup (mCons (mVar 3) (mCons (mVar 5) (mCons (m2 subD (mVar 6) (mVar 4)) (mNil)))))) (mNext))))))
    (mRet (mC .non))))
def F_breach : List FA → RF := runDef 2 7 m_breach
theorem ok_breach {P : Program} {w : World} {K : PySem.W.Frag} {mg : Str → Option Value} {base : Heap} (c : Kn fa fn K mg) {fd : FuncData} (D : FunM K d_breach fd) : FnG P w K mg base (L2.CX P w) 4 (d_breach.ad.a K) fd ["record", "curve"] (spF ⟨He.ga K, none⟩ K F_breach) := by
  obtain ⟨fd_check_record, D_check_record⟩ := c.def_ 17 (d := d_check_record)
  have O_check_record := ok_check_record (P := P) (w := w) (base := base) c D_check_record
  have B1_check_record := bs_bd_check_record_1 D_check_record
  obtain ⟨fd_sums_of, D_sums_of⟩ := c.def_ 24 (d := d_sums_of)
  have O_sums_of := ok_sums_of (P := P) (w := w) (base := base) c D_sums_of
  have B1_sums_of := bs_bd_sums_of_1 D_sums_of
  obtain ⟨fd_Curve_at, D_Curve_at⟩ := c.def_ 18 (d := d_Curve_at)
  have O_Curve_at := ok_Curve_at (P := P) (w := w) (base := base) c D_Curve_at
  have B2_Curve_at := bs_bd_Curve_at_2 D_Curve_at
  exact fnG_of D sc_breach rfl rfl fun cdv A outer s H E hr hg =>
    gs_cons (gs_expr (ge_callF O_check_record (hr.mono (by decide)) hg (takes_of rfl rfl rfl rfl) (by rfl) (c.glo 63) D_check_record.kp (bd_check_record_1 D_check_record) ar_bd_check_record_1 (gv_dat (ge_var (pv 0)) (gv_nil))))
    (gs_cons (gs_set (i := 2) sc_breach.nd rfl (by first | exact .inl rfl | exact .inr rfl) (ge_callF O_sums_of (hr.mono (by decide)) hg (takes_of rfl rfl rfl rfl) (by rfl) (c.glo 72) D_sums_of.kp (bd_sums_of_1 D_sums_of) ar_bd_sums_of_1 (gv_dat (ge_var (pv 0)) (gv_nil))))
    (gs_cons (gs_for (passes_of rfl) rfl (gi_range2 (by rfl) (c.free 3) (ga_cons (ge_int) (ga_cons (ge_op o_add (ge_callB c_len (by rfl) (c.free 0) (by decide +kernel) (ga_cons (ge_var (pv 0)) (ga_nil))) (ge_int)) (ga_nil)))) (gg_name (pg_name (i := 3) sc_breach.nd rfl (by first | exact .inl rfl | exact .inr rfl))) (gs_cons (gs_set (i := 4) sc_breach.nd rfl (by first | exact .inl rfl | exact .inr rfl) (ge_meth (aa1 ⟨(c.cls 19).cl, c.meth 64⟩ aa0) O_Curve_at (hr.mono (by decide)) hg (takes_of rfl rfl rfl rfl) (bd_Curve_at_2 D_Curve_at) ar_bd_Curve_at_2 (ge_var (pv 1)) (gv_dat (ge_var (pv 3)) (gv_nil))))
    (gs_one (gs_for (passes_of rfl) rfl (gi_range1 (by rfl) (c.free 3) (ga_cons (ge_op o_add (ge_op o_sub (ge_callB c_len (by rfl) (c.free 0) (by decide +kernel) (ga_cons (ge_var (pv 0)) (ga_nil))) (ge_var (pv 3))) (ge_int)) (ga_nil))) (gg_name (pg_name (i := 5) sc_breach.nd rfl (by first | exact .inl rfl | exact .inr rfl))) (gs_cons (gs_set (i := 6) sc_breach.nd rfl (by first | exact .inl rfl | exact .inr rfl) (ge_op o_sub (ge_ix i_ix (ge_var (pv 2)) (ge_op o_add (ge_var (pv 5)) (ge_var (pv 3))) (fun _ _ => rfl)) (ge_ix i_ix (ge_var (pv 2)) (ge_var (pv 5)) (fun _ _ => rfl))))
    (gs_one (gs_if (gt_cmp o_gt (ge_var (pv 6)) (ge_var (pv 4)) (nomark _)) (gs_one (gs_ret (ge_tup (ga_cons (ge_var (pv 3)) (ga_cons (ge_var (pv 5)) (ga_cons (ge_op o_sub (ge_var (pv 6)) (ge_var (pv 4))) (ga_nil))))))) (gs_nil))))))))
    (gs_one (gs_ret (ge_non)))))
theorem sc_keeps : FnScope ["record", "curve"] ["record", "curve"] (defScope s_keeps) := ⟨rfl, rfl, rfl, by decide +kernel, rfl, by decide +kernel, by decide +kernel⟩
def m_keeps : MS :=
    mRet (m2 isND (mCallF F_breach 2 0 (fun as bs => [as.getD 0 (.dat .non), as.getD 1 (.dat .non)]) (vDat (mVar 0) (vDat (mVar 1) (vNil))) vNil) (mC .non))
def F_keeps : List FA → RF := runDef 2 2 m_keeps
theorem ok_keeps {P : Program} {w : World} {K : PySem.W.Frag} {mg : Str → Option Value} {base : Heap} (c : Kn fa fn K mg) {fd : FuncData} (D : FunM K d_keeps fd) : FnG P w K mg base (L2.CX P w) 5 (d_keeps.ad.a K) fd ["record", "curve"] (spF ⟨He.ga K, none⟩ K F_keeps) := by
  obtain ⟨fd_breach, D_breach⟩ := c.def_ 25 (d := d_breach)
  have O_breach := ok_breach (P := P) (w := w) (base := base) c D_breach
  have B2_breach := bs_bd_breach_2 D_breach
  exact fnG_of D sc_keeps rfl rfl fun cdv A outer s H E hr hg =>
    gs_one (gs_ret (ge_cmp o_isN (ge_callF O_breach (hr.mono (by decide)) hg (takes_of rfl rfl rfl rfl) (by rfl) (c.glo 73) D_breach.kp (bd_breach_2 D_breach) ar_bd_breach_2 (gv_dat (ge_var (pv 0)) (gv_dat (ge_var (pv 1)) (gv_nil)))) (ge_non) (nomark _)))
theorem sc_l_right : FnScope ["_law_rng_here", "_law_row_here", "_law_told", "_law_more", "_law_units", "_law_line", "_law_shown", "_law_due"] ["_law_rng_here"] (defScope s_l_right) := ⟨rfl, rfl, rfl, by decide +kernel, rfl, by decide +kernel, by decide +kernel⟩
def m_l_right : MS :=
    mSeq (mAsg (mCallF F_l_row 1 0 (fun as bs => [as.getD 0 (.dat .non)]) (vSlot 0 (vNil)) vNil) (gNm 1))
    (mSeq (mPar 4 5 (mCons (mCallF F_l_record 2 0 (fun as bs => [as.getD 0 (.dat .non), as.getD 1 (.dat .non)]) (vSlot 0 (vDat (mVar 1) (vNil))) vNil) (mCons (mMake "Curve" F_Curve_init0 1 2 (fun as bs => [as.getD 0 (.dat .non), bs.getD 0 (.dat .non), bs.getD 1 (.dat .non)]) (vDat (mCall listC (mCons (m2 ixD (mVar 1) (mC (.int 0))) (mNil))) (vNil)) (vDat (m2 ixD (mVar 1) (mC (.int 1))) (vDat (m2 ixD (mVar 1) (mC (.int 2))) (vNil)))) (mNil))))
    (mSeq (mPar 6 7 (mCons (mCall reprC (mCons (mVar 4) (mNil))) (mCons (mCallF F_l_walked 2 0 (fun as bs => [as.getD 0 (.dat .non), as.getD 1 (.dat .non)]) (vDat (mVar 1) (vDat (mVar 4) (vNil))) vNil) (mNil))))
    (mSeq (mSetF 2 (lCallN F_shaped 2 (fun as bs => [as.getD 0 (.dat .non), as.getD 1 (.dat .non)]) (vDat (mVar 4) (vDat (mVar 5) (vNil)))))
    (mSeq (mIfS (cOr (cTruth (m2 neD (mCallP reprC 2) (mCall reprC (mCons (mVar 7) (mNil))))) (cOr (cNot (cTruth (mCallF (see1 1 F_l_is_kept) 2 0 (fun as bs => [as.getD 0 (.dat .non), as.getD 1 (.dat .non)]) (vDat (mVar 1) (vVar 2 (vNil))) vNil))) (cTruth (m2 notND (mCallF (see1 0 F_breach) 2 0 (fun as bs => [as.getD 0 (.dat .non), as.getD 1 (.dat .non)]) (vVar 2 (vDat (mVar 5) (vNil))) vNil) (mC .non))))) (mRet (mC (.bl false))) (mNext))
    (mSeq (mIfS (cOr (cTruth (m2 neD (mCall reprC (mCons (mCallF (datN (seeN 0 F_shaped)) 2 0 (fun as bs => [as.getD 0 (.dat .non), as.getD 1 (.dat .non)]) (vVar 2 (vDat (mVar 5) (vNil))) vNil) (mNil))) (mCall reprC (mCons (mVar 7) (mNil))))) (cTruth (m2 neD (mCallF F_keeps 2 0 (fun as bs => [as.getD 0 (.dat .non), as.getD 1 (.dat .non)]) (vDat (mVar 4) (vDat (mVar 5) (vNil))) vNil) (m2 eqD (mVar 7) (mVar 4))))) (mRet (mC (.bl false))) (mNext))
    (mSeq (mAsg (m2 addD (mVar 4) (mLst (mCons (mCallF F_l_draw 2 0 (fun as bs => [as.getD 0 (.dat .non), as.getD 1 (.dat .non)]) (vSlot 0 (vDat (mC (.int 5)) (vNil))) vNil) (mCons (mCallF F_l_draw 2 0 (fun as bs => [as.getD 0 (.dat .non), as.getD 1 (.dat .non)]) (vSlot 0 (vDat (mC (.int 2)) (vNil))) vNil) (mNil))))) (gNm 3))
    (mSeq (mIfS (cOr (cTruth (m2 neD (mCall reprC (mCons (mSl (mCallF (datN F_shaped) 2 0 (fun as bs => [as.getD 0 (.dat .non), as.getD 1 (.dat .non)]) (vDat (mVar 3) (vDat (mVar 5) (vNil))) vNil) (oN) (oS (mCall lenC (mCons (mVar 4) (mNil))))) (mNil))) (mCall reprC (mCons (mVar 7) (mNil))))) (cTruth (m2 neD (mCall lenC (mCons (mCallF (datN F_shaped) 2 0 (fun as bs => [as.getD 0 (.dat .non), as.getD 1 (.dat .non)]) (vDat (mVar 3) (vDat (mVar 5) (vNil))) vNil) (mNil))) (mCall lenC (mCons (mVar 3) (mNil)))))) (mRet (mC (.bl false))) (mNext))
    (mSeq (mApp 2 (mC (.int 1)))
    (mRet (mAnd (m2 eqD (mCall reprC (mCons (mCallF (datN F_shaped) 0 2 (fun as bs => [bs.getD 1 (.dat .non), bs.getD 0 (.dat .non)]) vNil (vDat (mVar 5) (vDat (mVar 4) (vNil)))) (mNil))) (mCall reprC (mCons (mVar 7) (mNil)))) (m2 eqD (mCall reprC (mCons (mVar 4) (mNil))) (mVar 6))))))))))))
def F_l_right : List FA → RF := runDef 1 8 m_l_right
theorem ok_l_right {P : Program} {w : World} {K : PySem.W.Frag} {mg : Str → Option Value} {base : Heap} (c : Kn fa fn K mg) {fd : FuncData} (D : FunM K d_l_right fd) : FnG P w K mg base (L2.CX P w) 7 (d_l_right.ad.a K) fd ["_law_rng_here"] (spF ⟨He.ga K, none⟩ K F_l_right) := by
  obtain ⟨fd_l_row, D_l_row⟩ := c.def_ 5 (d := d_l_row)
  have O_l_row := ok_l_row (P := P) (w := w) (base := base) c D_l_row
  have B1_l_row := bs_bd_l_row_1 D_l_row
  obtain ⟨fd_Curve_init0, D_Curve_init0⟩ := c.def_ 13 (d := d_Curve_init0)
  have O_Curve_init0 := ok_Curve_init0 (P := P) (w := w) (base := base) c D_Curve_init0
  obtain ⟨fd_l_record, D_l_record⟩ := c.def_ 15 (d := d_l_record)
  have O_l_record := ok_l_record (P := P) (w := w) (base := base) c D_l_record
  have B2_l_record := bs_bd_l_record_2 D_l_record
  obtain ⟨fd_l_walked, D_l_walked⟩ := c.def_ 16 (d := d_l_walked)
  have O_l_walked := ok_l_walked (P := P) (w := w) (base := base) c D_l_walked
  have B2_l_walked := bs_bd_l_walked_2 D_l_walked
  obtain ⟨fd_shaped, D_shaped⟩ := c.def_ 22 (d := d_shaped)
  have O_shaped := ok_shaped (P := P) (w := w) (base := base) c D_shaped
  have B2_shaped := bs_bd_shaped_2 D_shaped
  obtain ⟨fd_l_is_kept, D_l_is_kept⟩ := c.def_ 23 (d := d_l_is_kept)
  have O_l_is_kept := ok_l_is_kept (P := P) (w := w) (base := base) c D_l_is_kept
  have B2_l_is_kept := bs_bd_l_is_kept_2 D_l_is_kept
  obtain ⟨fd_breach, D_breach⟩ := c.def_ 25 (d := d_breach)
  have O_breach := ok_breach (P := P) (w := w) (base := base) c D_breach
  have B2_breach := bs_bd_breach_2 D_breach
  obtain ⟨fd_keeps, D_keeps⟩ := c.def_ 26 (d := d_keeps)
  have O_keeps := ok_keeps (P := P) (w := w) (base := base) c D_keeps
  have B2_keeps := bs_bd_keeps_2 D_keeps
  obtain ⟨fd_l_draw, D_l_draw⟩ := c.def_ 0 (d := d_l_draw)
  have O_l_draw := ok_l_draw (P := P) (w := w) (base := base) c D_l_draw
  have B2_l_draw := bs_bd_l_draw_2 D_l_draw
  exact fnG_of D sc_l_right rfl rfl fun cdv A outer s H E hr hg =>
    gs_cons (gs_set (i := 1) sc_l_right.nd rfl (by first | exact .inl rfl | exact .inr rfl) (ge_callF O_l_row (hr.mono (by decide)) hg (takes_of rfl rfl rfl rfl) (by rfl) (c.glo 11) D_l_row.kp (bd_l_row_1 D_l_row) ar_bd_l_row_1 (gv_slot (pv 0) (gv_nil))))
    (gs_cons (gs_par (i := 4) (j := 5) rfl sc_l_right.nd rfl rfl (by decide) rfl rfl (ga_cons (ge_callF O_l_record (hr.mono (by decide)) hg (takes_of rfl rfl rfl rfl) (by rfl) (c.glo 60) D_l_record.kp (bd_l_record_2 D_l_record) ar_bd_l_record_2 (gv_slot (pv 0) (gv_dat (ge_var (pv 1)) (gv_nil)))) (ga_cons (ge_makeK (c.mkr 55) O_Curve_init0 (hr.mono (by decide)) hg (takes_of rfl rfl rfl rfl) (by rfl) (c.glo 56) (bd_Curve_init0_2_period_gain D_Curve_init0) (fun _ _ _ => rfl) as_bd_Curve_init0_2_period_gain (gv_dat (ge_callTy c_list (by rfl) (c.free 21) (by decide +kernel) (ga_cons (ge_ix i_ix (ge_var (pv 1)) (ge_int) (fun _ _ => rfl)) (ga_nil))) (gv_nil)) (gk_dat (ge_ix i_ix (ge_var (pv 1)) (ge_int) (fun _ _ => rfl)) (gk_dat (ge_ix i_ix (ge_var (pv 1)) (ge_int) (fun _ _ => rfl)) (gk_nil)))) (ga_nil))) rfl)
    (gs_cons (gs_par (i := 6) (j := 7) rfl sc_l_right.nd rfl rfl (by decide) rfl rfl (ga_cons (ge_callB (c_repr hg hr.units) (by rfl) (c.free 62) (by decide +kernel) (ga_cons (ge_var (pv 4)) (ga_nil))) (ga_cons (ge_callF O_l_walked (hr.mono (by decide)) hg (takes_of rfl rfl rfl rfl) (by rfl) (c.glo 61) D_l_walked.kp (bd_l_walked_2 D_l_walked) ar_bd_l_walked_2 (gv_dat (ge_var (pv 1)) (gv_dat (ge_var (pv 4)) (gv_nil)))) (ga_nil))) rfl)
    (gs_cons (gs_setF (i := 2) sc_l_right.nd rfl (by first | exact .inl rfl | exact .inr rfl) (gl_callN O_shaped (hr.mono (by decide)) hg (takes_of rfl rfl rfl rfl) (by rfl) (c.glo 69) D_shaped.kp (bd_shaped_2 D_shaped) ar_bd_shaped_2 (gv_dat (ge_var (pv 4)) (gv_dat (ge_var (pv 5)) (gv_nil)))))
    (gs_cons (gs_if ((gw_or (gt_cmp (o_ne hr.units) (ge_callBP (c_repr hg hr.units) (by rfl) (c.free 62) (by decide +kernel) (pv 2)) (ge_callB (c_repr hg hr.units) (by rfl) (c.free 62) (by decide +kernel) (ga_cons (ge_var (pv 7)) (ga_nil))) (nomark _)) (gw_or (gt_not (gt_val (ge_callF (O_l_is_kept.see 1) (hr.mono (by decide)) hg (takes_of rfl rfl rfl rfl) (by rfl) (c.glo 71) D_l_is_kept.kp (bd_l_is_kept_2 D_l_is_kept) ar_bd_l_is_kept_2 (gv_dat (ge_var (pv 1)) (gv_var (pv 2) (gv_nil)))))) (gw_or1 (gt_cmp o_notN (ge_callF (O_breach.see 0) (hr.mono (by decide)) hg (takes_of rfl rfl rfl rfl) (by rfl) (c.glo 73) D_breach.kp (bd_breach_2 D_breach) ar_bd_breach_2 (gv_var (pv 2) (gv_dat (ge_var (pv 5)) (gv_nil)))) (ge_non) (nomark _))))).pt) (gs_one (gs_ret (ge_bl))) (gs_nil))
    (gs_cons (gs_if ((gw_or (gt_cmp (o_ne hr.units) (ge_callB (c_repr hg hr.units) (by rfl) (c.free 62) (by decide +kernel) (ga_cons (ge_callF ((O_shaped.seeN 0).dat) (hr.mono (by decide)) hg (takes_of rfl rfl rfl rfl) (by rfl) (c.glo 69) D_shaped.kp (bd_shaped_2 D_shaped) ar_bd_shaped_2 (gv_var (pv 2) (gv_dat (ge_var (pv 5)) (gv_nil)))) (ga_nil))) (ge_callB (c_repr hg hr.units) (by rfl) (c.free 62) (by decide +kernel) (ga_cons (ge_var (pv 7)) (ga_nil))) (nomark _)) (gw_or1 (gt_cmp (o_ne hr.units) (ge_callF O_keeps (hr.mono (by decide)) hg (takes_of rfl rfl rfl rfl) (by rfl) (c.glo 74) D_keeps.kp (bd_keeps_2 D_keeps) ar_bd_keeps_2 (gv_dat (ge_var (pv 4)) (gv_dat (ge_var (pv 5)) (gv_nil)))) (ge_cmp (o_eq hr.units) (ge_var (pv 7)) (ge_var (pv 4)) (nomark _)) (nomark _)))).pt) (gs_one (gs_ret (ge_bl))) (gs_nil))
    (gs_cons (gs_set (i := 3) sc_l_right.nd rfl (by first | exact .inl rfl | exact .inr rfl) (ge_op o_add (ge_var (pv 4)) (ge_lst (ga_cons (ge_callF O_l_draw (hr.mono (by decide)) hg (takes_of rfl rfl rfl rfl) (by rfl) (c.glo 6) D_l_draw.kp (bd_l_draw_2 D_l_draw) ar_bd_l_draw_2 (gv_slot (pv 0) (gv_dat (ge_int) (gv_nil)))) (ga_cons (ge_callF O_l_draw (hr.mono (by decide)) hg (takes_of rfl rfl rfl rfl) (by rfl) (c.glo 6) D_l_draw.kp (bd_l_draw_2 D_l_draw) ar_bd_l_draw_2 (gv_slot (pv 0) (gv_dat (ge_int) (gv_nil)))) (ga_nil))))))
    (gs_cons (gs_if ((gw_or (gt_cmp (o_ne hr.units) (ge_callB (c_repr hg hr.units) (by rfl) (c.free 62) (by decide +kernel) (ga_cons (ge_slice (ge_callF (O_shaped.dat) (hr.mono (by decide)) hg (takes_of rfl rfl rfl rfl) (by rfl) (c.glo 69) D_shaped.kp (bd_shaped_2 D_shaped) ar_bd_shaped_2 (gv_dat (ge_var (pv 3)) (gv_dat (ge_var (pv 5)) (gv_nil)))) (go_none) (go_some (ge_callB c_len (by rfl) (c.free 0) (by decide +kernel) (ga_cons (ge_var (pv 4)) (ga_nil))))) (ga_nil))) (ge_callB (c_repr hg hr.units) (by rfl) (c.free 62) (by decide +kernel) (ga_cons (ge_var (pv 7)) (ga_nil))) (nomark _)) (gw_or1 (gt_cmp (o_ne hr.units) (ge_callB c_len (by rfl) (c.free 0) (by decide +kernel) (ga_cons (ge_callF (O_shaped.dat) (hr.mono (by decide)) hg (takes_of rfl rfl rfl rfl) (by rfl) (c.glo 69) D_shaped.kp (bd_shaped_2 D_shaped) ar_bd_shaped_2 (gv_dat (ge_var (pv 3)) (gv_dat (ge_var (pv 5)) (gv_nil)))) (ga_nil))) (ge_callB c_len (by rfl) (c.free 0) (by decide +kernel) (ga_cons (ge_var (pv 3)) (ga_nil))) (nomark _)))).pt) (gs_one (gs_ret (ge_bl))) (gs_nil))
    (gs_cons (gs_app (pv 2) (ge_int))
    (gs_one (gs_ret (ge_and (ge_cmp (o_eq hr.units) (ge_callB (c_repr hg hr.units) (by rfl) (c.free 62) (by decide +kernel) (ga_cons (ge_callFK0 (O_shaped.dat) (hr.mono (by decide)) hg (takes_of rfl rfl rfl rfl) (by rfl) (c.glo 69) D_shaped.kp (bd_shaped_0_curve_record D_shaped) ar_bd_shaped_0_curve_record (gk_dat (ge_var (pv 5)) (gk_dat (ge_var (pv 4)) (gk_nil)))) (ga_nil))) (ge_callB (c_repr hg hr.units) (by rfl) (c.free 62) (by decide +kernel) (ga_cons (ge_var (pv 7)) (ga_nil))) (nomark _)) (ge_one (ge_cmp (o_eq hr.units) (ge_callB (c_repr hg hr.units) (by rfl) (c.free 62) (by decide +kernel) (ga_cons (ge_var (pv 4)) (ga_nil))) (ge_var (pv 6)) (nomark _))))))))))))))
theorem sc_l_rng : FnScope ["_law_script", "_law_k", "_law_cell"] ["_law_script", "_law_k"] (defScope s_l_rng) := ⟨rfl, rfl, rfl, by decide +kernel, rfl, by decide +kernel, by decide +kernel⟩
def m_l_rng : Sg → Rs (List Dat) :=
    mSeqL (mAsg (m2 addD (m2 mulD (mC (.int 7)) (mVar 1)) (mC (.int 3))) (gNm 2))
    (mSeqL (mIfS (cTruth (m2 ltD (mVar 1) (mCall lenC (mCons (mVar 0) (mNil))))) (mAsg (m2 ixD (mVar 0) (mVar 1)) (gNm 2)) (mNext))
    (lLst (mCons (mCall maxC (mCons (mC (.int 0)) (mCons (m2 subD (mCall absC (mCons (mVar 2) (mNil))) (m2 powD (mC (.int 10)) (mC (.int 18)))) (mNil)))) (mCons (m2 addD (m2 modD (m2 mulD (mCall intC (mCons (m2 addD (m2 modD (mCall intC (mCons (mCall absC (mCons (mVar 2) (mNil))) (mNil))) (mC (.int 2147483549))) (mC (.int 1))) (mNil))) (m2 powD (m2 addD (m2 mulD (mC (.int 2)) (mVar 1)) (mC (.int 5))) (mC (.int 3)))) (mC (.int 2147483543))) (mC (.int 1))) (mNil)))))
def F_l_rng : List Dat → Option (List Dat) := runL 2 3 m_l_rng
theorem ok_l_rng {P : Program} {w : World} {K : PySem.W.Frag} {mg : Str → Option Value} {base : Heap} (c : Kn fa fn K mg) {fd : FuncData} (D : FunM K d_l_rng fd) : FnG P w K mg base (L2.CX P w) 1 (d_l_rng.ad.a K) fd ["_law_script", "_law_k"] (spL ⟨He.ga K, none⟩ K F_l_rng) := by
  exact fnL_of D sc_l_rng rfl rfl fun cdv A outer s H E hr hg =>
    gs_consL (gs_set (i := 2) sc_l_rng.nd rfl (by first | exact .inl rfl | exact .inr rfl) (ge_op o_add (ge_op o_mul (ge_int) (ge_var (pv 1))) (ge_int)))
    (gs_consL (gs_if (gt_cmp o_lt (ge_var (pv 1)) (ge_callB c_len (by rfl) (c.free 0) (by decide +kernel) (ga_cons (ge_var (pv 0)) (ga_nil))) (nomark _)) (gs_one (gs_set (i := 2) sc_l_rng.nd rfl (by first | exact .inl rfl | exact .inr rfl) (ge_ix i_ix (ge_var (pv 0)) (ge_var (pv 1)) (fun _ _ => rfl)))) (gs_nil))
    (gs_oneL (gs_retL (gl_lst (ga_cons (ge_callB (c_max rfl) (by rfl) (c.free 2) (by decide +kernel) (ga_cons (ge_int) (ga_cons (ge_op o_sub (ge_callB c_abs (by rfl) (c.free 75) (by decide +kernel) (ga_cons (ge_var (pv 2)) (ga_nil))) (ge_op o_pow (ge_int) (ge_int))) (ga_nil)))) (ga_cons (ge_op o_add (ge_op o_mod (ge_op o_mul (ge_callTy c_int (by rfl) (c.free 5) (by decide +kernel) (ga_cons (ge_op o_add (ge_op o_mod (ge_callTy c_int (by rfl) (c.free 5) (by decide +kernel) (ga_cons (ge_callB c_abs (by rfl) (c.free 75) (by decide +kernel) (ga_cons (ge_var (pv 2)) (ga_nil))) (ga_nil))) (ge_int)) (ge_int)) (ga_nil))) (ge_op o_pow (ge_op o_add (ge_op o_mul (ge_int) (ge_var (pv 1))) (ge_int)) (ge_int))) (ge_int)) (ge_int)) (ga_nil)))))))
theorem sc_law : FnScope ["_law_script", "_law_k"] ["_law_script"] (defScope s_law) := ⟨rfl, rfl, rfl, by decide +kernel, rfl, by decide +kernel, by decide +kernel⟩
def m_law : MS :=
    mRet (mCall allC (mCons (mLc (mIts range1 (mCons (mCall maxC (mCons (mC (.int 2)) (mCons (mCall minC (mCons (mCall lenC (mCons (mVar 0) (mNil))) (mCons (mC (.int 5)) (mNil)))) (mNil)))) (mNil))) (cgN 1) (cYes) (mLend F_l_right (lCall F_l_rng 2 (vDat (mVar 0) (vDat (mVar 1) (vNil))))) [1]) (mNil)))
def F_law : List FA → RF := runDef 1 2 m_law
theorem ok_law {P : Program} {w : World} {K : PySem.W.Frag} {mg : Str → Option Value} {base : Heap} (c : Kn fa fn K mg) {fd : FuncData} (D : FunM K d_law fd) : FnG P w K mg base (L2.CX P w) 8 (d_law.ad.a K) fd ["_law_script"] (spF ⟨He.ga K, none⟩ K F_law) := by
  obtain ⟨fd_l_right, D_l_right⟩ := c.def_ 27 (d := d_l_right)
  have O_l_right := ok_l_right (P := P) (w := w) (base := base) c D_l_right
  have B1_l_right := bs_bd_l_right_1 D_l_right
  obtain ⟨fd_l_rng, D_l_rng⟩ := c.def_ 28 (d := d_l_rng)
  have O_l_rng := ok_l_rng (P := P) (w := w) (base := base) c D_l_rng
  have B2_l_rng := bs_bd_l_rng_2 D_l_rng
  exact fnG_of D sc_law rfl rfl fun cdv A outer s H E hr hg =>
    gs_one (gs_ret (ge_callB (c_all rfl) (by rfl) (c.free 58) (by decide +kernel) (ga_cons (ge_lc (own := [("_law_k", 1)]) rfl sc_law.nd (gi_range1 (by rfl) (c.free 3) (ga_cons (ge_callB (c_max rfl) (by rfl) (c.free 2) (by decide +kernel) (ga_cons (ge_int) (ga_cons (ge_callB (c_min rfl) (by rfl) (c.free 1) (by decide +kernel) (ga_cons (ge_callB c_len (by rfl) (c.free 0) (by decide +kernel) (ga_cons (ge_var (pv 0)) (ga_nil))) (ga_cons (ge_int) (ga_nil)))) (ga_nil)))) (ga_nil))) (blkOk_by (by rfl)) (tg_name 1) (fun _ _ _ _ _ => pg_name (i := 1) sc_law.nd rfl (by first | exact .inl rfl | exact .inr rfl)) (fun _ _ _ _ _ => pts_of rfl) (fun _ _ _ _ _ => ge_lend O_l_right (hr.mono (by decide)) hg Mir.takes0 (by rfl) (c.glo 77) D_l_right.kp B1_l_right (gl_call O_l_rng (hr.mono (by decide)) hg Mir.takes0 (by rfl) (c.glo 76) D_l_rng.kp B2_l_rng (gv_dat (ge_var (pv 0)) (gv_dat (ge_var (pv 1)) (gv_nil)))))) (ga_nil))))
end
end K24
-- level 8, facts 79

namespace K24
open PySem Mir
noncomputable section
def cCurveF (a : ((List Int) × Int × Int)) : List (Str × Dat) := [("value_list", (eL eI) a.1), ("own_period", eI a.2.1), ("own_gain", eI a.2.2)]
abbrev cCurve (a : ((List Int) × Int × Int)) : Dat := .ins "Curve" (cCurveF a)
theorem fl_Curve_value_list (a : ((List Int) × Int × Int)) {cs : List Str} (h : cs.contains ("Curve" : Str) = true) : fldD cs "value_list" (cCurve a) = some ((eL eI) a.1) := by
  show (if cs.contains ("Curve" : Str) then List.lookup ("value_list" : Str) (cCurveF a) else none) = _
  rw [h]; simp [cCurveF, List.lookup, show (("value_list" : Str) == "own_period") = false by decide, show ¬ (("value_list" : Str) = "own_period") by decide, show (("value_list" : Str) == "own_gain") = false by decide, show ¬ (("value_list" : Str) = "own_gain") by decide, show (("own_period" : Str) == "value_list") = false by decide, show ¬ (("own_period" : Str) = "value_list") by decide, show (("own_period" : Str) == "own_gain") = false by decide, show ¬ (("own_period" : Str) = "own_gain") by decide, show (("own_gain" : Str) == "value_list") = false by decide, show ¬ (("own_gain" : Str) = "value_list") by decide, show (("own_gain" : Str) == "own_period") = false by decide, show ¬ (("own_gain" : Str) = "own_period") by decide]
theorem fl_Curve_own_period (a : ((List Int) × Int × Int)) {cs : List Str} (h : cs.contains ("Curve" : Str) = true) : fldD cs "own_period" (cCurve a) = some (eI a.2.1) := by
  show (if cs.contains ("Curve" : Str) then List.lookup ("own_period" : Str) (cCurveF a) else none) = _
  rw [h]; simp [cCurveF, List.lookup, show (("value_list" : Str) == "own_period") = false by decide, show ¬ (("value_list" : Str) = "own_period") by decide, show (("value_list" : Str) == "own_gain") = false by decide, show ¬ (("value_list" : Str) = "own_gain") by decide, show (("own_period" : Str) == "value_list") = false by decide, show ¬ (("own_period" : Str) = "value_list") by decide, show (("own_period" : Str) == "own_gain") = false by decide, show ¬ (("own_period" : Str) = "own_gain") by decide, show (("own_gain" : Str) == "value_list") = false by decide, show ¬ (("own_gain" : Str) = "value_list") by decide, show (("own_gain" : Str) == "own_period") = false by decide, show ¬ (("own_gain" : Str) = "own_period") by decide]
theorem fl_Curve_own_gain (a : ((List Int) × Int × Int)) {cs : List Str} (h : cs.contains ("Curve" : Str) = true) : fldD cs "own_gain" (cCurve a) = some (eI a.2.2) := by
  show (if cs.contains ("Curve" : Str) then List.lookup ("own_gain" : Str) (cCurveF a) else none) = _
  rw [h]; simp [cCurveF, List.lookup, show (("value_list" : Str) == "own_period") = false by decide, show ¬ (("value_list" : Str) = "own_period") by decide, show (("value_list" : Str) == "own_gain") = false by decide, show ¬ (("value_list" : Str) = "own_gain") by decide, show (("own_period" : Str) == "value_list") = false by decide, show ¬ (("own_period" : Str) = "value_list") by decide, show (("own_period" : Str) == "own_gain") = false by decide, show ¬ (("own_period" : Str) = "own_gain") by decide, show (("own_gain" : Str) == "value_list") = false by decide, show ¬ (("own_gain" : Str) = "value_list") by decide, show (("own_gain" : Str) == "own_period") = false by decide, show ¬ (("own_gain" : Str) = "own_period") by decide]
theorem pt_Curve_0 {d : Dat} : putD ("value_list" : Str) d [] = ([("value_list", d)] : List (Str × Dat)) := by simp [putD]
theorem pt_Curve_1 {d x0 : Dat} : putD ("own_period" : Str) d [("value_list", x0)] = ([("value_list", x0), ("own_period", d)] : List (Str × Dat)) := by simp [putD, show (("value_list" : Str) == "own_period") = false by decide, show ¬ (("value_list" : Str) = "own_period") by decide, show (("own_period" : Str) == "value_list") = false by decide, show ¬ (("own_period" : Str) = "value_list") by decide]
theorem pt_Curve_2 {d x0 x1 : Dat} : putD ("own_gain" : Str) d [("value_list", x0), ("own_period", x1)] = ([("value_list", x0), ("own_period", x1), ("own_gain", d)] : List (Str × Dat)) := by simp [putD, show (("value_list" : Str) == "own_period") = false by decide, show ¬ (("value_list" : Str) = "own_period") by decide, show (("value_list" : Str) == "own_gain") = false by decide, show ¬ (("value_list" : Str) = "own_gain") by decide, show (("own_period" : Str) == "value_list") = false by decide, show ¬ (("own_period" : Str) = "value_list") by decide, show (("own_period" : Str) == "own_gain") = false by decide, show ¬ (("own_period" : Str) = "own_gain") by decide, show (("own_gain" : Str) == "value_list") = false by decide, show ¬ (("own_gain" : Str) = "value_list") by decide, show (("own_gain" : Str) == "own_period") = false by decide, show ¬ (("own_gain" : Str) = "own_period") by decide]
theorem ml_Curve_at (a : ((List Int) × Int × Int)) {cs : List Str} (h : cs.contains ("Curve" : Str) = true) : (cs.contains ("Curve" : Str) && (List.lookup ("at" : Str) (cCurveF a)).isNone) = true := by rw [h]; simp [cCurveF, List.lookup, show (("at" : Str) == "value_list") = false by decide, show (("at" : Str) == "own_period") = false by decide, show (("at" : Str) == "own_gain") = false by decide]
theorem ml_Curve_find_break (a : ((List Int) × Int × Int)) {cs : List Str} (h : cs.contains ("Curve" : Str) = true) : (cs.contains ("Curve" : Str) && (List.lookup ("find_break" : Str) (cCurveF a)).isNone) = true := by rw [h]; simp [cCurveF, List.lookup, show (("find_break" : Str) == "value_list") = false by decide, show (("find_break" : Str) == "own_period") = false by decide, show (("find_break" : Str) == "own_gain") = false by decide]
theorem draw_run (s : Rg) {n : Int} (h : 0 < n) (h2 : n < 1073741824) : F_l_draw [.own s.own, .dat (.int n)] = .ok (.int (s.val n)) [(s.next n).own] := by
  have nb := nb_small s
  have sm := small_of s.b0 s.b1
  by_cases hz : 0 < s.a
  · simp [F_l_draw, m_l_draw, Rg.own, Rg.ds, r_seq, r_next, r_retN, r_break, r_cont, r_never, r_ret, r_drop, r_ifS, r_asg, r_nm, r_setF', r_lLst, r_lList, r_par, r_app, r_for, r_its, r_items, r_gIx, r_tpN, r_gcs, r_gnl, r_stF, r_C, r_2, r_1, r_nil, r_cons, r_call, r_lst, r_tup, r_if, r_and, r_or, r_not, r_truth, r_cand, r_cor, r_cnot, r_chain, r_ixS, r_opP, r_jn, r_callF, r_apply, r_vnil, r_vdat, r_vslot, r_make, r_prop, seqK_nx, seqK_rt, seqK_bk, seqK_ct, seqK_exc, seqK_bad, seqK_ite, retK_ok, retK_ite, dropK_ok, ifSK_ok, ifSK_ite, asgK_ok, asgK_ite, stK_ok, setFK_ok, lLstK_ok, lListK_lst, lListK_tup, lListK_ro, parK_ok, appK_ok, forK_ok, ofK_ok, itemsK_ok, gIxK_ok, gCsK_ok, stFK_ok, k2_ok, k2b_ok, k2_ite, k2b_ite, k1_ok, kc_ok, kc2_ok, kc_ite, kc2_ite, kf_ok, kf_ite, kIf_ok, kIf_ite, kAnd_bl, kOr_bl, kAnd_ite, kOr_ite, kNot_bl, kNot_ite, kTr_bl, kTr_ite, cAndK_ok, cOrK_ok, cNotK_ok, cAndK_ite, cOrK_ite, cNotK_ite, kCh_ok, kCh2_ok, kCh3_bl, ixSK_ok, opPK_ok, jnK_ok, fFK_ok, apK_some, cfK_ok, cfK2_ok, vd_ok, vd2_ok, vd_ite, vs2_ok, mkK_ok, mkK2_ok, propK_ok, Rs.of_some, Rs.of_none, Rs.bind_ok, Rs.bind_bad, Rs.bind_exc, Rs.calm_ok, mVar, isMut, listAt, isLent, fetch, wb, putS, nodupB, setAt, appAt, mkSlots, nOwn, runDef, endF, outsFrom, findOwn, L2.ixN, L2.atI, intD, ixD, List.getElem?_cons_zero, List.getElem?_cons_succ, List.set_cons_zero, List.set_cons_succ, List.length_cons, List.length_nil, List.replicate, List.cons_append, List.nil_append, List.append_nil, List.getD_cons_zero, List.getD_cons_succ, List.contains_cons, List.contains_nil, hz, h, h2, divmodC, Rg.val, Rg.next]
  · have nb2 : small64 ((s.b * 48311 + 20011) % 2147483563) = true := nb
    simp [F_l_draw, m_l_draw, Rg.own, Rg.ds, r_seq, r_next, r_retN, r_break, r_cont, r_never, r_ret, r_drop, r_ifS, r_asg, r_nm, r_setF', r_lLst, r_lList, r_par, r_app, r_for, r_its, r_items, r_gIx, r_tpN, r_gcs, r_gnl, r_stF, r_C, r_2, r_1, r_nil, r_cons, r_call, r_lst, r_tup, r_if, r_and, r_or, r_not, r_truth, r_cand, r_cor, r_cnot, r_chain, r_ixS, r_opP, r_jn, r_callF, r_apply, r_vnil, r_vdat, r_vslot, r_make, r_prop, seqK_nx, seqK_rt, seqK_bk, seqK_ct, seqK_exc, seqK_bad, seqK_ite, retK_ok, retK_ite, dropK_ok, ifSK_ok, ifSK_ite, asgK_ok, asgK_ite, stK_ok, setFK_ok, lLstK_ok, lListK_lst, lListK_tup, lListK_ro, parK_ok, appK_ok, forK_ok, ofK_ok, itemsK_ok, gIxK_ok, gCsK_ok, stFK_ok, k2_ok, k2b_ok, k2_ite, k2b_ite, k1_ok, kc_ok, kc2_ok, kc_ite, kc2_ite, kf_ok, kf_ite, kIf_ok, kIf_ite, kAnd_bl, kOr_bl, kAnd_ite, kOr_ite, kNot_bl, kNot_ite, kTr_bl, kTr_ite, cAndK_ok, cOrK_ok, cNotK_ok, cAndK_ite, cOrK_ite, cNotK_ite, kCh_ok, kCh2_ok, kCh3_bl, ixSK_ok, opPK_ok, jnK_ok, fFK_ok, apK_some, cfK_ok, cfK2_ok, vd_ok, vd2_ok, vd_ite, vs2_ok, mkK_ok, mkK2_ok, propK_ok, Rs.of_some, Rs.of_none, Rs.bind_ok, Rs.bind_bad, Rs.bind_exc, Rs.calm_ok, mVar, isMut, listAt, isLent, fetch, wb, putS, nodupB, setAt, appAt, mkSlots, nOwn, runDef, endF, outsFrom, findOwn, L2.ixN, L2.atI, intD, ixD, List.getElem?_cons_zero, List.getElem?_cons_succ, List.set_cons_zero, List.set_cons_succ, List.length_cons, List.length_nil, List.replicate, List.cons_append, List.nil_append, List.append_nil, List.getD_cons_zero, List.getD_cons_succ, List.contains_cons, List.contains_nil, hz, h, h2, Rg.val, Rg.next, Rg.nb, addD, mulD, mulI, intC, sm, nb2]
theorem n_draw {s : Rg} {n : Int} {r : Int × Rg} (h : drawN s n = some r) : F_l_draw [.own s.own, .dat (.int n)] = .ok (.int r.1) [r.2.own] := by
  unfold drawN at h
  split at h
  · rename_i z; cases h; exact draw_run s z.1 z.2
  · cases h
theorem absI_run (c : Int) : absC [.int c] = some (.int (c.natAbs : Int)) := by
  show some (Dat.int (if c < 0 then -c else c)) = _
  congr 2
  split <;> omega
theorem rng_run (ns : List Int) (k : Nat) (hk : k ≤ 60) : F_l_rng [.ro (ns.map .int), .int (k : Int)] = some (rngN ns k).ds := by
  have s7 : small64 7 = true := by decide
  have s2 : small64 2 = true := by decide
  have na : (2 * (k : Int) + 5).natAbs < 18446744073709551616 := by omega
  have st : (mIfS (cTruth (m2 ltD (mVar 1) (mCall lenC (mCons (mVar 0) (mNil))))) (mAsg (m2 ixD (mVar 0) (mVar 1)) (gNm 2)) (mNext)) [.dat (.ro (ns.map .int)), .dat (.int k), .dat (.int (7 * k + 3))] = .ok .nx [.dat (.ro (ns.map .int)), .dat (.int k), .dat (.int (ns.getD k (7 * (k : Int) + 3)))] := by
    by_cases hz : k < ns.length
    · have ix : ixD (.ro (ns.map .int)) (.int k) = some (.int (ns.getD k (7 * (k : Int) + 3))) := L2.atI_nat (j := k) (by rw [List.getElem?_map, List.getElem?_eq_getElem hz, List.getD_eq_getElem?_getD, List.getElem?_eq_getElem hz]; rfl)
      have hz2 : (k : Int) < (ns.length : Int) := by omega
      simp [r_seq, r_next, r_retN, r_break, r_cont, r_never, r_ret, r_drop, r_ifS, r_asg, r_nm, r_setF', r_lLst, r_lList, r_par, r_app, r_for, r_its, r_items, r_gIx, r_tpN, r_gcs, r_gnl, r_stF, r_C, r_2, r_1, r_nil, r_cons, r_call, r_lst, r_tup, r_if, r_and, r_or, r_not, r_truth, r_cand, r_cor, r_cnot, r_chain, r_ixS, r_opP, r_jn, r_callF, r_apply, r_vnil, r_vdat, r_vslot, r_make, r_prop, seqK_nx, seqK_rt, seqK_bk, seqK_ct, seqK_exc, seqK_bad, seqK_ite, retK_ok, retK_ite, dropK_ok, ifSK_ok, ifSK_ite, asgK_ok, asgK_ite, stK_ok, setFK_ok, lLstK_ok, lListK_lst, lListK_tup, lListK_ro, parK_ok, appK_ok, forK_ok, ofK_ok, itemsK_ok, gIxK_ok, gCsK_ok, stFK_ok, k2_ok, k2b_ok, k2_ite, k2b_ite, k1_ok, kc_ok, kc2_ok, kc_ite, kc2_ite, kf_ok, kf_ite, kIf_ok, kIf_ite, kAnd_bl, kOr_bl, kAnd_ite, kOr_ite, kNot_bl, kNot_ite, kTr_bl, kTr_ite, cAndK_ok, cOrK_ok, cNotK_ok, cAndK_ite, cOrK_ite, cNotK_ite, kCh_ok, kCh2_ok, kCh3_bl, ixSK_ok, opPK_ok, jnK_ok, fFK_ok, apK_some, cfK_ok, cfK2_ok, vd_ok, vd2_ok, vd_ite, vs2_ok, mkK_ok, mkK2_ok, propK_ok, Rs.of_some, Rs.of_none, Rs.bind_ok, Rs.bind_bad, Rs.bind_exc, Rs.calm_ok, mVar, isMut, listAt, isLent, fetch, wb, putS, nodupB, setAt, appAt, mkSlots, nOwn, runDef, endF, outsFrom, findOwn, intD, List.getElem?_cons_zero, List.getElem?_cons_succ, List.set_cons_zero, List.set_cons_succ, List.length_cons, List.length_nil, List.replicate, List.cons_append, List.nil_append, List.append_nil, List.getD_cons_zero, List.getD_cons_succ, List.contains_cons, List.contains_nil, lenC, ix, hz, hz2]
    · have hz2 : ¬ (k : Int) < (ns.length : Int) := by omega
      have e : ns.getD k (7 * (k : Int) + 3) = 7 * (k : Int) + 3 := by rw [List.getD_eq_getElem?_getD, List.getElem?_eq_none (by omega)]; rfl
      rw [e]
      simp [r_seq, r_next, r_retN, r_break, r_cont, r_never, r_ret, r_drop, r_ifS, r_asg, r_nm, r_setF', r_lLst, r_lList, r_par, r_app, r_for, r_its, r_items, r_gIx, r_tpN, r_gcs, r_gnl, r_stF, r_C, r_2, r_1, r_nil, r_cons, r_call, r_lst, r_tup, r_if, r_and, r_or, r_not, r_truth, r_cand, r_cor, r_cnot, r_chain, r_ixS, r_opP, r_jn, r_callF, r_apply, r_vnil, r_vdat, r_vslot, r_make, r_prop, seqK_nx, seqK_rt, seqK_bk, seqK_ct, seqK_exc, seqK_bad, seqK_ite, retK_ok, retK_ite, dropK_ok, ifSK_ok, ifSK_ite, asgK_ok, asgK_ite, stK_ok, setFK_ok, lLstK_ok, lListK_lst, lListK_tup, lListK_ro, parK_ok, appK_ok, forK_ok, ofK_ok, itemsK_ok, gIxK_ok, gCsK_ok, stFK_ok, k2_ok, k2b_ok, k2_ite, k2b_ite, k1_ok, kc_ok, kc2_ok, kc_ite, kc2_ite, kf_ok, kf_ite, kIf_ok, kIf_ite, kAnd_bl, kOr_bl, kAnd_ite, kOr_ite, kNot_bl, kNot_ite, kTr_bl, kTr_ite, cAndK_ok, cOrK_ok, cNotK_ok, cAndK_ite, cOrK_ite, cNotK_ite, kCh_ok, kCh2_ok, kCh3_bl, ixSK_ok, opPK_ok, jnK_ok, fFK_ok, apK_some, cfK_ok, cfK2_ok, vd_ok, vd2_ok, vd_ite, vs2_ok, mkK_ok, mkK2_ok, propK_ok, Rs.of_some, Rs.of_none, Rs.bind_ok, Rs.bind_bad, Rs.bind_exc, Rs.calm_ok, mVar, isMut, listAt, isLent, fetch, wb, putS, nodupB, setAt, appAt, mkSlots, nOwn, runDef, endF, outsFrom, findOwn, intD, List.getElem?_cons_zero, List.getElem?_cons_succ, List.set_cons_zero, List.set_cons_succ, List.length_cons, List.length_nil, List.replicate, List.cons_append, List.nil_append, List.append_nil, List.getD_cons_zero, List.getD_cons_succ, List.contains_cons, List.contains_nil, lenC, hz, hz2]
  have f1 : (mAsg (m2 addD (m2 mulD (mC (.int 7)) (mVar 1)) (mC (.int 3))) (gNm 2)) [.dat (.ro (ns.map .int)), .dat (.int k), .no] = .ok .nx [.dat (.ro (ns.map .int)), .dat (.int k), .dat (.int (7 * k + 3))] := by
    simp [r_seq, r_next, r_retN, r_break, r_cont, r_never, r_ret, r_drop, r_ifS, r_asg, r_nm, r_setF', r_lLst, r_lList, r_par, r_app, r_for, r_its, r_items, r_gIx, r_tpN, r_gcs, r_gnl, r_stF, r_C, r_2, r_1, r_nil, r_cons, r_call, r_lst, r_tup, r_if, r_and, r_or, r_not, r_truth, r_cand, r_cor, r_cnot, r_chain, r_ixS, r_opP, r_jn, r_callF, r_apply, r_vnil, r_vdat, r_vslot, r_make, r_prop, seqK_nx, seqK_rt, seqK_bk, seqK_ct, seqK_exc, seqK_bad, seqK_ite, retK_ok, retK_ite, dropK_ok, ifSK_ok, ifSK_ite, asgK_ok, asgK_ite, stK_ok, setFK_ok, lLstK_ok, lListK_lst, lListK_tup, lListK_ro, parK_ok, appK_ok, forK_ok, ofK_ok, itemsK_ok, gIxK_ok, gCsK_ok, stFK_ok, k2_ok, k2b_ok, k2_ite, k2b_ite, k1_ok, kc_ok, kc2_ok, kc_ite, kc2_ite, kf_ok, kf_ite, kIf_ok, kIf_ite, kAnd_bl, kOr_bl, kAnd_ite, kOr_ite, kNot_bl, kNot_ite, kTr_bl, kTr_ite, cAndK_ok, cOrK_ok, cNotK_ok, cAndK_ite, cOrK_ite, cNotK_ite, kCh_ok, kCh2_ok, kCh3_bl, ixSK_ok, opPK_ok, jnK_ok, fFK_ok, apK_some, cfK_ok, cfK2_ok, vd_ok, vd2_ok, vd_ite, vs2_ok, mkK_ok, mkK2_ok, propK_ok, Rs.of_some, Rs.of_none, Rs.bind_ok, Rs.bind_bad, Rs.bind_exc, Rs.calm_ok, mVar, isMut, listAt, isLent, fetch, wb, putS, nodupB, setAt, appAt, mkSlots, nOwn, runDef, endF, outsFrom, findOwn, intD, List.getElem?_cons_zero, List.getElem?_cons_succ, List.set_cons_zero, List.set_cons_succ, List.length_cons, List.length_nil, List.replicate, List.cons_append, List.nil_append, List.append_nil, List.getD_cons_zero, List.getD_cons_succ, List.contains_cons, List.contains_nil, mulD, mulI, s7, addD]
  have seqL : ∀ (m : MS) (r : Sg → Rs (List Dat)) (S S1 : Sg), m S = .ok .nx S1 → mSeqL m r S = r S1 := fun m r S S1 h => by unfold mSeqL; rw [h]
  unfold F_l_rng runL m_l_rng
  rw [if_pos (show [Dat.ro (ns.map .int), Dat.int (k : Int)].length = 2 from rfl)]
  rw [show ([Dat.ro (ns.map .int), Dat.int (k : Int)].map Slot.dat ++ List.replicate (3 - 2) Slot.no) = [.dat (.ro (ns.map .int)), .dat (.int k), .no] from rfl]
  rw [seqL _ _ _ _ f1, seqL _ _ _ _ st]
  show _ = some [Dat.int (max 0 (((ns.getD k (7 * (k : Int) + 3)).natAbs : Int) - 1000000000000000000)), Dat.int ((((ns.getD k (7 * (k : Int) + 3)).natAbs : Int) % 2147483549 + 1) * (2 * (k : Int) + 5) ^ 3 % 2147483543 + 1)]
  obtain ⟨w, hw⟩ : ∃ w : Int, ((ns.getD k (7 * (k : Int) + 3)).natAbs : Int) = w := ⟨_, rfl⟩
  have ab : absC [.int (ns.getD k (7 * (k : Int) + 3))] = some (.int w) := by rw [absI_run, hw]
  rw [hw]
  generalize ns.getD k (7 * (k : Int) + 3) = c at ab ⊢
  have m0 : 0 ≤ w % 2147483549 := Int.emod_nonneg _ (by decide)
  have m1 : w % 2147483549 < 2147483549 := Int.emod_lt_of_pos _ (by decide)
  have sm := small_of (i := w % 2147483549 + 1) (by omega) (by omega)
  have mx : ∀ x : Int, maxC [.int 0, .int x] = some (.int (max 0 x)) := fun x => q_max2
  simp [r_seq, r_next, r_retN, r_break, r_cont, r_never, r_ret, r_drop, r_ifS, r_asg, r_nm, r_setF', r_lLst, r_lList, r_par, r_app, r_for, r_its, r_items, r_gIx, r_tpN, r_gcs, r_gnl, r_stF, r_C, r_2, r_1, r_nil, r_cons, r_call, r_lst, r_tup, r_if, r_and, r_or, r_not, r_truth, r_cand, r_cor, r_cnot, r_chain, r_ixS, r_opP, r_jn, r_callF, r_apply, r_vnil, r_vdat, r_vslot, r_make, r_prop, seqK_nx, seqK_rt, seqK_bk, seqK_ct, seqK_exc, seqK_bad, seqK_ite, retK_ok, retK_ite, dropK_ok, ifSK_ok, ifSK_ite, asgK_ok, asgK_ite, stK_ok, setFK_ok, lLstK_ok, lListK_lst, lListK_tup, lListK_ro, parK_ok, appK_ok, forK_ok, ofK_ok, itemsK_ok, gIxK_ok, gCsK_ok, stFK_ok, k2_ok, k2b_ok, k2_ite, k2b_ite, k1_ok, kc_ok, kc2_ok, kc_ite, kc2_ite, kf_ok, kf_ite, kIf_ok, kIf_ite, kAnd_bl, kOr_bl, kAnd_ite, kOr_ite, kNot_bl, kNot_ite, kTr_bl, kTr_ite, cAndK_ok, cOrK_ok, cNotK_ok, cAndK_ite, cOrK_ite, cNotK_ite, kCh_ok, kCh2_ok, kCh3_bl, ixSK_ok, opPK_ok, jnK_ok, fFK_ok, apK_some, cfK_ok, cfK2_ok, vd_ok, vd2_ok, vd_ite, vs2_ok, mkK_ok, mkK2_ok, propK_ok, Rs.of_some, Rs.of_none, Rs.bind_ok, Rs.bind_bad, Rs.bind_exc, Rs.calm_ok, mVar, isMut, listAt, isLent, fetch, wb, putS, nodupB, setAt, appAt, mkSlots, nOwn, runDef, endF, outsFrom, findOwn, intD, List.getElem?_cons_zero, List.getElem?_cons_succ, List.set_cons_zero, List.set_cons_succ, List.length_cons, List.length_nil, List.replicate, List.cons_append, List.nil_append, List.append_nil, List.getD_cons_zero, List.getD_cons_succ, List.contains_cons, List.contains_nil, ab, mx, intC, mulD, mulI, addD, sm, s2, na, lim]
def rngO (ns : List Int) (k : Int) : Option Rg := if 0 ≤ k ∧ k ≤ 60 then some (rngN ns k.toNat) else none
theorem n_rng {ns : List Int} {k : Int} {s : Rg} (h : rngO ns k = some s) : F_l_rng [.ro (ns.map .int), .int k] = some s.ds := by
  unfold rngO at h
  split at h
  · rename_i z
    cases h
    have := rng_run ns k.toNat (by omega)
    rw [Int.toNat_of_nonneg z.1] at this
    exact this
  · cases h

def res_l_rows (a : (List ((List Int) × Int × Int))) : RF := .ok ((eL (e3 (eL eI) eI eI)) a) []
def N_l_rows  : Option ((List ((List Int) × Int × Int))) :=
  (some ([([1], 1, 0), ([1, 1], 2, 1), ([1, 1, 1], 3, 1), ([2, 2], 2, 1), ([1], 1, 1), ([2, 2, 2], 3, 1)])).bind fun v1 => (catN v1 ([([2], 1, 0), ([2, 2, 3], 3, 2), ([1, 2], 1, 0), ([2, 2, 2, 2], 4, 1), ([2], 1, 1), ([0], 1, 0)])).bind fun x2 => (catN x2 ([([1, 2, 2, 2], 4, 1), ([3, 3, 3], 3, 1), ([1, 1, 2], 2, 1), ([3, 3, 3, 3, 3, 3], 6, 1)])).bind fun x3 => some x3
theorem n_l_rows {a : (List ((List Int) × Int × Int))} (hN : N_l_rows = some a) : F_l_rows [] = res_l_rows a := by
  unfold N_l_rows at hN
  refine f_run (k := 0) (S := [.no]) rfl rfl rfl ?_
  unfold m_l_rows
  refine s_last ?_
  refine s_assoc ?_
  obtain ⟨v1, hv1, hN⟩ := bind_some hN
  refine s_asg (S2 := [.dat ((eL (e3 (eL eI) eI eI)) v1)]) (x_eq (x_eq (x_lst (x_cons (x_tup (x_cons (x_eq (x_lst (x_cons x_C x_nil) (Nat.le_of_ble_eq_true rfl)) (by rfl)) (x_cons x_C (x_cons x_C x_nil))) (Nat.le_of_ble_eq_true rfl)) (x_cons (x_tup (x_cons (x_eq (x_lst (x_cons x_C (x_cons x_C x_nil)) (Nat.le_of_ble_eq_true rfl)) (by rfl)) (x_cons x_C (x_cons x_C x_nil))) (Nat.le_of_ble_eq_true rfl)) (x_cons (x_tup (x_cons (x_eq (x_lst (x_cons x_C (x_cons x_C (x_cons x_C x_nil))) (Nat.le_of_ble_eq_true rfl)) (by rfl)) (x_cons x_C (x_cons x_C x_nil))) (Nat.le_of_ble_eq_true rfl)) (x_cons (x_tup (x_cons (x_eq (x_lst (x_cons x_C (x_cons x_C x_nil)) (Nat.le_of_ble_eq_true rfl)) (by rfl)) (x_cons x_C (x_cons x_C x_nil))) (Nat.le_of_ble_eq_true rfl)) (x_cons (x_tup (x_cons (x_eq (x_lst (x_cons x_C x_nil) (Nat.le_of_ble_eq_true rfl)) (by rfl)) (x_cons x_C (x_cons x_C x_nil))) (Nat.le_of_ble_eq_true rfl)) (x_cons (x_tup (x_cons (x_eq (x_lst (x_cons x_C (x_cons x_C (x_cons x_C x_nil))) (Nat.le_of_ble_eq_true rfl)) (by rfl)) (x_cons x_C (x_cons x_C x_nil))) (Nat.le_of_ble_eq_true rfl)) x_nil)))))) (Nat.le_of_ble_eq_true rfl)) (by rfl)) (congrArg (eL (e3 (eL eI) eI eI)) (Option.some.inj hv1))) rfl ?_
  refine s_assoc ?_
  obtain ⟨x2, hx2, hN⟩ := bind_some hN
  refine s_asg (S2 := [.dat ((eL (e3 (eL eI) eI eI)) x2)]) (x_2 (x_var rfl) (x_eq (x_lst (x_cons (x_tup (x_cons (x_eq (x_lst (x_cons x_C x_nil) (Nat.le_of_ble_eq_true rfl)) (by rfl)) (x_cons x_C (x_cons x_C x_nil))) (Nat.le_of_ble_eq_true rfl)) (x_cons (x_tup (x_cons (x_eq (x_lst (x_cons x_C (x_cons x_C (x_cons x_C x_nil))) (Nat.le_of_ble_eq_true rfl)) (by rfl)) (x_cons x_C (x_cons x_C x_nil))) (Nat.le_of_ble_eq_true rfl)) (x_cons (x_tup (x_cons (x_eq (x_lst (x_cons x_C (x_cons x_C x_nil)) (Nat.le_of_ble_eq_true rfl)) (by rfl)) (x_cons x_C (x_cons x_C x_nil))) (Nat.le_of_ble_eq_true rfl)) (x_cons (x_tup (x_cons (x_eq (x_lst (x_cons x_C (x_cons x_C (x_cons x_C (x_cons x_C x_nil)))) (Nat.le_of_ble_eq_true rfl)) (by rfl)) (x_cons x_C (x_cons x_C x_nil))) (Nat.le_of_ble_eq_true rfl)) (x_cons (x_tup (x_cons (x_eq (x_lst (x_cons x_C x_nil) (Nat.le_of_ble_eq_true rfl)) (by rfl)) (x_cons x_C (x_cons x_C x_nil))) (Nat.le_of_ble_eq_true rfl)) (x_cons (x_tup (x_cons (x_eq (x_lst (x_cons x_C x_nil) (Nat.le_of_ble_eq_true rfl)) (by rfl)) (x_cons x_C (x_cons x_C x_nil))) (Nat.le_of_ble_eq_true rfl)) x_nil)))))) (Nat.le_of_ble_eq_true rfl)) (by rfl)) (q_cat (f := (e3 (eL eI) eI eI)) hx2)) rfl ?_
  obtain ⟨x3, hx3, hN⟩ := bind_some hN
  refine s_ret (x_2 (x_var rfl) (x_eq (x_lst (x_cons (x_tup (x_cons (x_eq (x_lst (x_cons x_C (x_cons x_C (x_cons x_C (x_cons x_C x_nil)))) (Nat.le_of_ble_eq_true rfl)) (by rfl)) (x_cons x_C (x_cons x_C x_nil))) (Nat.le_of_ble_eq_true rfl)) (x_cons (x_tup (x_cons (x_eq (x_lst (x_cons x_C (x_cons x_C (x_cons x_C x_nil))) (Nat.le_of_ble_eq_true rfl)) (by rfl)) (x_cons x_C (x_cons x_C x_nil))) (Nat.le_of_ble_eq_true rfl)) (x_cons (x_tup (x_cons (x_eq (x_lst (x_cons x_C (x_cons x_C (x_cons x_C x_nil))) (Nat.le_of_ble_eq_true rfl)) (by rfl)) (x_cons x_C (x_cons x_C x_nil))) (Nat.le_of_ble_eq_true rfl)) (x_cons (x_tup (x_cons (x_eq (x_lst (x_cons x_C (x_cons x_C (x_cons x_C (x_cons x_C (x_cons x_C (x_cons x_C x_nil)))))) (Nat.le_of_ble_eq_true rfl)) (by rfl)) (x_cons x_C (x_cons x_C x_nil))) (Nat.le_of_ble_eq_true rfl)) x_nil)))) (Nat.le_of_ble_eq_true rfl)) (by rfl)) (q_cat (f := (e3 (eL eI) eI eI)) hx3)) ?_
  obtain rfl := Option.some.inj hN
  exact rfl
def res_l_choice (a : ((List Int) × Int × Int) × Rg) : RF := .ok ((e3 (eL eI) eI eI) a.1) [a.2.own]
def N_l_choice (p_rng : Rg) (p_some : (List ((List Int) × Int × Int))) : Option (((List Int) × Int × Int) × Rg) :=
  (drawN p_rng ((p_some.length : Int))).bind fun d1 => (ixN? p_some d1.1).bind fun x2 => some ((x2, d1.2))
theorem n_l_choice {p_rng : Rg} {p_some : (List ((List Int) × Int × Int))} {a : ((List Int) × Int × Int) × Rg} (hN : N_l_choice p_rng p_some = some a) : F_l_choice [.own p_rng.own, .dat ((eL (e3 (eL eI) eI eI)) p_some)] = res_l_choice a := by
  unfold N_l_choice at hN
  refine f_run (k := 1) (S := [.own 0 p_rng.own, .dat ((eL (e3 (eL eI) eI eI)) p_some)]) rfl rfl rfl ?_
  unfold m_l_choice
  refine s_last ?_
  obtain ⟨d1, hd1, hN⟩ := bind_some hN
  obtain ⟨x2, hx2, hN⟩ := bind_some hN
  refine s_ret (x_2 (x_var rfl) (x_callF (fs := [.own p_rng.own, .dat (.int ((p_some.length : Int)))]) (is := [0]) (outs := [d1.2.own]) (S3 := [.own 0 d1.2.own, .dat ((eL (e3 (eL eI) eI eI)) p_some)]) (v_slot rfl (v_dat (x_call (x_cons (x_var rfl) x_nil) (q_len (f := (e3 (eL eI) eI eI)))) v_nil)) v_nil ⟨rfl, rfl⟩ rfl rfl (n_draw hd1) rfl) (q_ix (f := (e3 (eL eI) eI eI)) hx2)) ?_
  obtain rfl := Option.some.inj hN
  exact rfl
def res_l_choice_2 (a : Int × Rg) : RF := .ok (eI a.1) [a.2.own]
def N_l_choice_2 (p_rng : Rg) (p_some : (List Int)) : Option (Int × Rg) :=
  (drawN p_rng ((p_some.length : Int))).bind fun d1 => (ixN? p_some d1.1).bind fun x2 => some ((x2, d1.2))
theorem n_l_choice_2 {p_rng : Rg} {p_some : (List Int)} {a : Int × Rg} (hN : N_l_choice_2 p_rng p_some = some a) : F_l_choice [.own p_rng.own, .dat ((eL eI) p_some)] = res_l_choice_2 a := by
  unfold N_l_choice_2 at hN
  refine f_run (k := 1) (S := [.own 0 p_rng.own, .dat ((eL eI) p_some)]) rfl rfl rfl ?_
  unfold m_l_choice
  refine s_last ?_
  obtain ⟨d1, hd1, hN⟩ := bind_some hN
  obtain ⟨x2, hx2, hN⟩ := bind_some hN
  refine s_ret (x_2 (x_var rfl) (x_callF (fs := [.own p_rng.own, .dat (.int ((p_some.length : Int)))]) (is := [0]) (outs := [d1.2.own]) (S3 := [.own 0 d1.2.own, .dat ((eL eI) p_some)]) (v_slot rfl (v_dat (x_call (x_cons (x_var rfl) x_nil) (q_len (f := eI))) v_nil)) v_nil ⟨rfl, rfl⟩ rfl rfl (n_draw hd1) rfl) (q_ix (f := eI) hx2)) ?_
  obtain rfl := Option.some.inj hN
  exact rfl
def res_l_at (a : Int) : RF := .ok (eI a) []
def N_l_at (p_row : ((List Int) × Int × Int)) (p_size : Int) : Option (Int) :=
  if (decide (p_size = 0)) = true then some 0 else if (decide (p_size ≤ ((p_row.1.length : Int)))) = true then (ixN? p_row.1 (p_size - 1)).bind fun x1 => some x1 else (divN (((p_size - ((p_row.1.length : Int))) + p_row.2.1) - 1) p_row.2.1).bind fun x2 => (mulN x2 p_row.2.1).bind fun x3 => (ixN? p_row.1 ((p_size - x3) - 1)).bind fun x4 => (mulN x2 p_row.2.2).bind fun x5 => some (x4 + x5)
theorem n_l_at {p_row : ((List Int) × Int × Int)} {p_size : Int} {a : Int} (hN : N_l_at p_row p_size = some a) : F_l_at [.dat ((e3 (eL eI) eI eI) p_row), .dat (eI p_size)] = res_l_at a := by
  unfold N_l_at at hN
  refine f_run (k := 0) (S := [.dat ((e3 (eL eI) eI eI) p_row), .dat (eI p_size), .no, .no, .no, .no]) rfl rfl rfl ?_
  unfold m_l_at
  refine s_last ?_
  refine s_assoc ?_
  refine s_asgG (S2 := [.dat ((e3 (eL eI) eI eI) p_row), .dat (eI p_size), .no, .dat ((eL eI) p_row.1), .dat (eI p_row.2.1), .dat (eI p_row.2.2)]) (x_var rfl) rfl ?_
  refine s_assoc ?_
  rcases ite_some hN with ⟨c7, hN⟩ | ⟨c7, hN⟩
  · refine s_ifT (t_truth (x_2 (x_var rfl) x_C rfl)) c7 ?_
    refine s_ret x_C ?_
    obtain rfl := Option.some.inj hN
    exact rfl
  · refine s_ifF (t_truth (x_2 (x_var rfl) x_C rfl)) c7 ?_
    refine s_next ?_
    refine s_assoc ?_
    rcases ite_some hN with ⟨c6, hN⟩ | ⟨c6, hN⟩
    · refine s_ifT (t_truth (x_2 (x_var rfl) (x_call (x_cons (x_var rfl) x_nil) (q_len (f := eI))) rfl)) c6 ?_
      obtain ⟨x1, hx1, hN⟩ := bind_some hN
      refine s_ret (x_2 (x_var rfl) (x_2 (x_var rfl) x_C rfl) (q_ix (f := eI) hx1)) ?_
      obtain rfl := Option.some.inj hN
      exact rfl
    · refine s_ifF (t_truth (x_2 (x_var rfl) (x_call (x_cons (x_var rfl) x_nil) (q_len (f := eI))) rfl)) c6 ?_
      refine s_next ?_
      refine s_assoc ?_
      obtain ⟨x2, hx2, hN⟩ := bind_some hN
      refine s_asg (S2 := [.dat ((e3 (eL eI) eI eI) p_row), .dat (eI p_size), .dat (eI x2), .dat ((eL eI) p_row.1), .dat (eI p_row.2.1), .dat (eI p_row.2.2)]) (x_2 (x_2 (x_2 (x_2 (x_var rfl) (x_call (x_cons (x_var rfl) x_nil) (q_len (f := eI))) rfl) (x_var rfl) rfl) x_C rfl) (x_var rfl) (q_div hx2)) rfl ?_
      obtain ⟨x3, hx3, hN⟩ := bind_some hN
      obtain ⟨x4, hx4, hN⟩ := bind_some hN
      obtain ⟨x5, hx5, hN⟩ := bind_some hN
      refine s_ret (x_2 (x_2 (x_var rfl) (x_2 (x_2 (x_var rfl) (x_2 (x_var rfl) (x_var rfl) (q_mul hx3)) rfl) x_C rfl) (q_ix (f := eI) hx4)) (x_2 (x_var rfl) (x_var rfl) (q_mul hx5)) rfl) ?_
      obtain rfl := Option.some.inj hN
      exact rfl
def res_l_is_good (a : Bool) : RF := .ok (eB a) []
def N_l_is_good_b2 (p_row : ((List Int) × Int × Int)) (i3 : Int) (i5 : Int) : Option (Stp (Bool) (Unit)) :=
  (N_l_at p_row (i3 + i5)).bind fun x6 => (N_l_at p_row i3).bind fun x7 => (N_l_at p_row i5).bind fun x8 => if (decide ((x7 + x8) < x6)) = true then some (.rt false) else some (.nx ())
theorem n_l_is_good_b2 (p_row : ((List Int) × Int × Int)) (i3 : Int) (v1 : Int) (i5 : Int) {a : Stp (Bool) (Unit)} (hN : N_l_is_good_b2 p_row i3 i5 = some a) (j : Nat → Slot) : ∃ S1, (gNm 3) (eI i5) [.dat ((e3 (eL eI) eI eI) p_row), .dat (eI v1), .dat (eI i3), (j 3)] = .ok () S1 ∧ LB (fun (s : Unit) (j : Nat → Slot) => [.dat ((e3 (eL eI) eI eI) p_row), .dat (eI v1), .dat (eI i3), (j 3)]) (RTo 0 (res_l_is_good)) a ((mIfS (cTruth (m2 gtD (mCallF F_l_at 2 0 (fun as bs => [as.getD 0 (.dat .non), as.getD 1 (.dat .non)]) (vDat (mVar 0) (vDat (m2 addD (mVar 2) (mVar 3)) (vNil))) vNil) (m2 addD (mCallF F_l_at 2 0 (fun as bs => [as.getD 0 (.dat .non), as.getD 1 (.dat .non)]) (vDat (mVar 0) (vDat (mVar 2) (vNil))) vNil) (mCallF F_l_at 2 0 (fun as bs => [as.getD 0 (.dat .non), as.getD 1 (.dat .non)]) (vDat (mVar 0) (vDat (mVar 3) (vNil))) vNil)))) (mRet (mC (.bl false))) (mNext)) S1) := by
  unfold N_l_is_good_b2 at hN
  refine ⟨[.dat ((e3 (eL eI) eI eI) p_row), .dat (eI v1), .dat (eI i3), .dat (eI i5)], rfl, ?_⟩
  refine s_last ?_
  obtain ⟨x6, hx6, hN⟩ := bind_some hN
  obtain ⟨x7, hx7, hN⟩ := bind_some hN
  obtain ⟨x8, hx8, hN⟩ := bind_some hN
  rcases ite_some hN with ⟨c9, hN⟩ | ⟨c9, hN⟩
  · refine s_ifT (t_truth (x_2 (x_callF (fs := [.dat ((e3 (eL eI) eI eI) p_row), .dat (eI (i3 + i5))]) (is := []) (outs := []) (S3 := [.dat ((e3 (eL eI) eI eI) p_row), .dat (eI v1), .dat (eI i3), .dat (eI i5)]) (v_dat (x_var rfl) (v_dat (x_2 (x_var rfl) (x_var rfl) rfl) v_nil)) v_nil ⟨rfl, rfl⟩ rfl rfl (n_l_at hx6) rfl) (x_2 (x_callF (fs := [.dat ((e3 (eL eI) eI eI) p_row), .dat (eI i3)]) (is := []) (outs := []) (S3 := [.dat ((e3 (eL eI) eI eI) p_row), .dat (eI v1), .dat (eI i3), .dat (eI i5)]) (v_dat (x_var rfl) (v_dat (x_var rfl) v_nil)) v_nil ⟨rfl, rfl⟩ rfl rfl (n_l_at hx7) rfl) (x_callF (fs := [.dat ((e3 (eL eI) eI eI) p_row), .dat (eI i5)]) (is := []) (outs := []) (S3 := [.dat ((e3 (eL eI) eI eI) p_row), .dat (eI v1), .dat (eI i3), .dat (eI i5)]) (v_dat (x_var rfl) (v_dat (x_var rfl) v_nil)) v_nil ⟨rfl, rfl⟩ rfl rfl (n_l_at hx8) rfl) rfl) rfl)) c9 ?_
    refine s_ret x_C ?_
    obtain rfl := Option.some.inj hN
    exact rto_of rfl
  · refine s_ifF (t_truth (x_2 (x_callF (fs := [.dat ((e3 (eL eI) eI eI) p_row), .dat (eI (i3 + i5))]) (is := []) (outs := []) (S3 := [.dat ((e3 (eL eI) eI eI) p_row), .dat (eI v1), .dat (eI i3), .dat (eI i5)]) (v_dat (x_var rfl) (v_dat (x_2 (x_var rfl) (x_var rfl) rfl) v_nil)) v_nil ⟨rfl, rfl⟩ rfl rfl (n_l_at hx6) rfl) (x_2 (x_callF (fs := [.dat ((e3 (eL eI) eI eI) p_row), .dat (eI i3)]) (is := []) (outs := []) (S3 := [.dat ((e3 (eL eI) eI eI) p_row), .dat (eI v1), .dat (eI i3), .dat (eI i5)]) (v_dat (x_var rfl) (v_dat (x_var rfl) v_nil)) v_nil ⟨rfl, rfl⟩ rfl rfl (n_l_at hx7) rfl) (x_callF (fs := [.dat ((e3 (eL eI) eI eI) p_row), .dat (eI i5)]) (is := []) (outs := []) (S3 := [.dat ((e3 (eL eI) eI eI) p_row), .dat (eI v1), .dat (eI i3), .dat (eI i5)]) (v_dat (x_var rfl) (v_dat (x_var rfl) v_nil)) v_nil ⟨rfl, rfl⟩ rfl rfl (n_l_at hx8) rfl) rfl) rfl)) c9 ?_
    refine s_next ?_
    obtain rfl := Option.some.inj hN
    exact lb_nx rfl
def N_l_is_good_b1 (p_row : ((List Int) × Int × Int)) (i3 : Int) : Option (Stp (Bool) (Unit)) :=
  (range2N 1 (i3 + 1)).bind fun x4 => thenL (ρ := Bool) Stp.rt (forL (fun (x10 : Int) (s11 : Unit) => N_l_is_good_b2 p_row i3 x10) x4 ()) fun s12 => some (.nx ())
theorem n_l_is_good_b1 (p_row : ((List Int) × Int × Int)) (v1 : Int) (i3 : Int) {a : Stp (Bool) (Unit)} (hN : N_l_is_good_b1 p_row i3 = some a) (j : Nat → Slot) : ∃ S1, (gNm 2) (eI i3) [.dat ((e3 (eL eI) eI eI) p_row), .dat (eI v1), (j 2), (j 3)] = .ok () S1 ∧ LB (fun (s : Unit) (j : Nat → Slot) => [.dat ((e3 (eL eI) eI eI) p_row), .dat (eI v1), (j 2), (j 3)]) (RTo 0 (res_l_is_good)) a ((mFor (mIts range2 (mCons (mC (.int 1)) (mCons (m2 addD (mVar 2) (mC (.int 1))) (mNil)))) (gNm 3) (mIfS (cTruth (m2 gtD (mCallF F_l_at 2 0 (fun as bs => [as.getD 0 (.dat .non), as.getD 1 (.dat .non)]) (vDat (mVar 0) (vDat (m2 addD (mVar 2) (mVar 3)) (vNil))) vNil) (m2 addD (mCallF F_l_at 2 0 (fun as bs => [as.getD 0 (.dat .non), as.getD 1 (.dat .non)]) (vDat (mVar 0) (vDat (mVar 2) (vNil))) vNil) (mCallF F_l_at 2 0 (fun as bs => [as.getD 0 (.dat .non), as.getD 1 (.dat .non)]) (vDat (mVar 0) (vDat (mVar 3) (vNil))) vNil)))) (mRet (mC (.bl false))) (mNext))) S1) := by
  unfold N_l_is_good_b1 at hN
  refine ⟨[.dat ((e3 (eL eI) eI eI) p_row), .dat (eI v1), .dat (eI i3), (j 3)], rfl, ?_⟩
  refine s_last ?_
  obtain ⟨x4, hx4, hN⟩ := bind_some hN
  rcases thenL_some hN with ⟨s12, hs12, hN⟩ | ⟨v14, hs12, hN⟩
  · obtain ⟨j13, es12⟩ : ∃ jx, loopS (gNm 3) (mIfS (cTruth (m2 gtD (mCallF F_l_at 2 0 (fun as bs => [as.getD 0 (.dat .non), as.getD 1 (.dat .non)]) (vDat (mVar 0) (vDat (m2 addD (mVar 2) (mVar 3)) (vNil))) vNil) (m2 addD (mCallF F_l_at 2 0 (fun as bs => [as.getD 0 (.dat .non), as.getD 1 (.dat .non)]) (vDat (mVar 0) (vDat (mVar 2) (vNil))) vNil) (mCallF F_l_at 2 0 (fun as bs => [as.getD 0 (.dat .non), as.getD 1 (.dat .non)]) (vDat (mVar 0) (vDat (mVar 3) (vNil))) vNil)))) (mRet (mC (.bl false))) (mNext)) (x4.map eI) [.dat ((e3 (eL eI) eI eI) p_row), .dat (eI v1), .dat (eI i3), (j 3)] = .ok .nx (((fun (s : Unit) (j : Nat → Slot) => [.dat ((e3 (eL eI) eI eI) p_row), .dat (eI v1), .dat (eI i3), (j 3)])) s12 jx) := le_nx (forL_ok (T := (fun (s : Unit) (j : Nat → Slot) => [.dat ((e3 (eL eI) eI eI) p_row), .dat (eI v1), .dat (eI i3), (j 3)])) (RT := (RTo 0 (res_l_is_good))) (f := eI) rto (fun x10 s11 j z h => n_l_is_good_b2 p_row i3 v1 x10 h j) x4 () (fun i => List.getD [.dat ((e3 (eL eI) eI eI) p_row), .dat (eI v1), .dat (eI i3), (j 3)] i .no) _ hs12)
    refine s_for (ds := x4.map eI) (i_its (x_cons x_C (x_cons (x_2 (x_var rfl) x_C rfl) x_nil)) (q_range2 hx4)) (s_run (S1 := [.dat ((e3 (eL eI) eI eI) p_row), .dat (eI v1), .dat (eI i3), (j13 3)]) es12 ?_)
    obtain rfl := Option.some.inj hN
    exact lb_nx rfl
  · have es12 : RTo 0 (res_l_is_good) v14 (loopS (gNm 3) (mIfS (cTruth (m2 gtD (mCallF F_l_at 2 0 (fun as bs => [as.getD 0 (.dat .non), as.getD 1 (.dat .non)]) (vDat (mVar 0) (vDat (m2 addD (mVar 2) (mVar 3)) (vNil))) vNil) (m2 addD (mCallF F_l_at 2 0 (fun as bs => [as.getD 0 (.dat .non), as.getD 1 (.dat .non)]) (vDat (mVar 0) (vDat (mVar 2) (vNil))) vNil) (mCallF F_l_at 2 0 (fun as bs => [as.getD 0 (.dat .non), as.getD 1 (.dat .non)]) (vDat (mVar 0) (vDat (mVar 3) (vNil))) vNil)))) (mRet (mC (.bl false))) (mNext)) (x4.map eI) [.dat ((e3 (eL eI) eI eI) p_row), .dat (eI v1), .dat (eI i3), (j 3)]) := le_rt (forL_ok (T := (fun (s : Unit) (j : Nat → Slot) => [.dat ((e3 (eL eI) eI eI) p_row), .dat (eI v1), .dat (eI i3), (j 3)])) (RT := (RTo 0 (res_l_is_good))) (f := eI) rto (fun x10 s11 j z h => n_l_is_good_b2 p_row i3 v1 x10 h j) x4 () (fun i => List.getD [.dat ((e3 (eL eI) eI eI) p_row), .dat (eI v1), .dat (eI i3), (j 3)] i .no) _ hs12)
    subst hN
    exact s_for (ds := x4.map eI) (i_its (x_cons x_C (x_cons (x_2 (x_var rfl) x_C rfl) x_nil)) (q_range2 hx4)) (s_rto es12 es12)
def N_l_is_good (p_row : ((List Int) × Int × Int)) : Option (Bool) :=
  (some (((p_row.1.length : Int)) + p_row.2.1)).bind fun v1 => (range2N 1 (v1 + 1)).bind fun x2 => thenL (ρ := Bool) id (forL (fun (x15 : Int) (s16 : Unit) => N_l_is_good_b1 p_row x15) x2 ()) fun s17 => some true
theorem n_l_is_good {p_row : ((List Int) × Int × Int)} {a : Bool} (hN : N_l_is_good p_row = some a) : F_l_is_good [.dat ((e3 (eL eI) eI eI) p_row)] = res_l_is_good a := by
  unfold N_l_is_good at hN
  refine f_run (k := 0) (S := [.dat ((e3 (eL eI) eI eI) p_row), .no, .no, .no]) rfl rfl rfl ?_
  unfold m_l_is_good
  refine s_last ?_
  refine s_assoc ?_
  obtain ⟨v1, hv1, hN⟩ := bind_some hN
  refine s_asg (S2 := [.dat ((e3 (eL eI) eI eI) p_row), .dat (eI v1), .no, .no]) (x_eq (x_2 (x_call (x_cons (x_2 (x_var rfl) x_C rfl) x_nil) (q_len (f := eI))) (x_2 (x_var rfl) x_C rfl) rfl) (congrArg eI (Option.some.inj hv1))) rfl ?_
  refine s_assoc ?_
  obtain ⟨x2, hx2, hN⟩ := bind_some hN
  rcases thenL_some hN with ⟨s17, hs17, hN⟩ | ⟨v19, hs17, hN⟩
  · obtain ⟨j18, es17⟩ : ∃ jx, loopS (gNm 2) (mFor (mIts range2 (mCons (mC (.int 1)) (mCons (m2 addD (mVar 2) (mC (.int 1))) (mNil)))) (gNm 3) (mIfS (cTruth (m2 gtD (mCallF F_l_at 2 0 (fun as bs => [as.getD 0 (.dat .non), as.getD 1 (.dat .non)]) (vDat (mVar 0) (vDat (m2 addD (mVar 2) (mVar 3)) (vNil))) vNil) (m2 addD (mCallF F_l_at 2 0 (fun as bs => [as.getD 0 (.dat .non), as.getD 1 (.dat .non)]) (vDat (mVar 0) (vDat (mVar 2) (vNil))) vNil) (mCallF F_l_at 2 0 (fun as bs => [as.getD 0 (.dat .non), as.getD 1 (.dat .non)]) (vDat (mVar 0) (vDat (mVar 3) (vNil))) vNil)))) (mRet (mC (.bl false))) (mNext))) (x2.map eI) [.dat ((e3 (eL eI) eI eI) p_row), .dat (eI v1), .no, .no] = .ok .nx (((fun (s : Unit) (j : Nat → Slot) => [.dat ((e3 (eL eI) eI eI) p_row), .dat (eI v1), (j 2), (j 3)])) s17 jx) := le_nx (forL_ok (T := (fun (s : Unit) (j : Nat → Slot) => [.dat ((e3 (eL eI) eI eI) p_row), .dat (eI v1), (j 2), (j 3)])) (RT := (RTo 0 (res_l_is_good))) (f := eI) rto (fun x15 s16 j z h => n_l_is_good_b1 p_row v1 x15 h j) x2 () (fun i => List.getD [.dat ((e3 (eL eI) eI eI) p_row), .dat (eI v1), .no, .no] i .no) _ hs17)
    refine s_for (ds := x2.map eI) (i_its (x_cons x_C (x_cons (x_2 (x_var rfl) x_C rfl) x_nil)) (q_range2 hx2)) (s_run (S1 := [.dat ((e3 (eL eI) eI eI) p_row), .dat (eI v1), (j18 2), (j18 3)]) es17 ?_)
    refine s_ret x_C ?_
    obtain rfl := Option.some.inj hN
    exact rfl
  · have es17 : RTo 0 (res_l_is_good) v19 (loopS (gNm 2) (mFor (mIts range2 (mCons (mC (.int 1)) (mCons (m2 addD (mVar 2) (mC (.int 1))) (mNil)))) (gNm 3) (mIfS (cTruth (m2 gtD (mCallF F_l_at 2 0 (fun as bs => [as.getD 0 (.dat .non), as.getD 1 (.dat .non)]) (vDat (mVar 0) (vDat (m2 addD (mVar 2) (mVar 3)) (vNil))) vNil) (m2 addD (mCallF F_l_at 2 0 (fun as bs => [as.getD 0 (.dat .non), as.getD 1 (.dat .non)]) (vDat (mVar 0) (vDat (mVar 2) (vNil))) vNil) (mCallF F_l_at 2 0 (fun as bs => [as.getD 0 (.dat .non), as.getD 1 (.dat .non)]) (vDat (mVar 0) (vDat (mVar 3) (vNil))) vNil)))) (mRet (mC (.bl false))) (mNext))) (x2.map eI) [.dat ((e3 (eL eI) eI eI) p_row), .dat (eI v1), .no, .no]) := le_rt (forL_ok (T := (fun (s : Unit) (j : Nat → Slot) => [.dat ((e3 (eL eI) eI eI) p_row), .dat (eI v1), (j 2), (j 3)])) (RT := (RTo 0 (res_l_is_good))) (f := eI) rto (fun x15 s16 j z h => n_l_is_good_b1 p_row v1 x15 h j) x2 () (fun i => List.getD [.dat ((e3 (eL eI) eI eI) p_row), .dat (eI v1), .no, .no] i .no) _ hs17)
    subst hN
    exact s_for (ds := x2.map eI) (i_its (x_cons x_C (x_cons (x_2 (x_var rfl) x_C rfl) x_nil)) (q_range2 hx2)) (s_rto es17 es17.2)
def res_l_row (a : ((List Int) × Int × Int) × Rg) : RF := .ok ((e3 (eL eI) eI eI) a.1) [a.2.own]
def N_l_row_b1 (i7 : Int) (c8 : Rg) (c9 : (List Int)) : Option (Rg × (List Int)) :=
  (ixN? c9 (-1)).bind fun x10 => (drawN c8 2).bind fun d11 => (appN c9 (x10 + d11.1)).bind fun v12 => some ((d11.2, v12))
theorem n_l_row_b1 (i7 : Int) (c8 : Rg) (c9 : (List Int)) {a : Rg × (List Int)} (hN : N_l_row_b1 i7 c8 c9 = some a) (j : Nat → Slot) : ∃ S1, (gNm 2) (eI i7) [.own 0 c8.own, .loc (c9.map eI), (j 2), .no, .no, .no, .no] = .ok () S1 ∧ LN (fun (s : Rg × (List Int)) (j : Nat → Slot) => [.own 0 s.1.own, .loc (s.2.map eI), (j 2), .no, .no, .no, .no]) a ((mApp 1 (m2 addD (mIxS 1 (m1 negD (mC (.int 1)))) (mCallF F_l_draw 2 0 (fun as bs => [as.getD 0 (.dat .non), as.getD 1 (.dat .non)]) (vSlot 0 (vDat (mC (.int 2)) (vNil))) vNil))) S1) := by
  unfold N_l_row_b1 at hN
  refine ⟨[.own 0 c8.own, .loc (c9.map eI), .dat (eI i7), .no, .no, .no, .no], rfl, ?_⟩
  refine s_last ?_
  obtain ⟨x10, hx10, hN⟩ := bind_some hN
  obtain ⟨d11, hd11, hN⟩ := bind_some hN
  obtain ⟨v12, hv12, hN⟩ := bind_some hN
  refine s_appL' (S2 := [.own 0 d11.2.own, .loc (v12.map eI), .dat (eI i7), .no, .no, .no, .no]) rfl (x_2 (x_ixS rfl (x_1 x_C rfl) rfl (q_ix (f := eI) hx10)) (x_callF (fs := [.own c8.own, .dat (.int 2)]) (is := [0]) (outs := [d11.2.own]) (S3 := [.own 0 d11.2.own, .loc (c9.map eI), .dat (eI i7), .no, .no, .no, .no]) (v_slot rfl (v_dat x_C v_nil)) v_nil ⟨rfl, rfl⟩ rfl rfl (n_draw hd11) rfl) rfl) rfl (q_app (f := eI) hv12) rfl ?_
  obtain rfl := Option.some.inj hN
  exact ln_nx rfl
def N_l_row (p_rng : Rg) : Option (((List Int) × Int × Int) × Rg) :=
  (drawN p_rng 3).bind fun d1 => if (decide (0 < d1.1)) = true then (N_l_rows ).bind fun x2 => (N_l_choice d1.2 x2).bind fun x3 => some ((x3.1, x3.2)) else (drawN d1.2 3).bind fun d4 => (drawN d4.2 4).bind fun d5 => (range1N d5.1).bind fun x6 => (foldO (fun (x13 : Int) (s14 : Rg × (List Int)) => N_l_row_b1 x13 s14.1 s14.2) x6 (d5.2, ([d4.1]))).bind fun s15 => (capL ((([1, 2, 3, 4]).filter fun y17 => decide (y17 ≤ ((s15.2.length : Int)))).map fun y17 => y17)).bind fun x18 => (N_l_choice_2 s15.1 x18).bind fun x19 => (ixN? s15.2 (-1)).bind fun x20 => (catN ([0]) s15.2).bind fun x21 => (ixN? x21 ((((s15.2.length : Int)) + 1) - x19.1)).bind fun x22 => (some (x20 - x22)).bind fun v23 => (drawN x19.2 2).bind fun d24 => (some ((s15.2, x19.1, (max 0 v23) + d24.1))).bind fun v25 => (N_l_is_good v25).bind fun x26 => (if x26 = true then some (v25, d24.2) else (N_l_rows ).bind fun x27 => (N_l_choice d24.2 x27).bind fun x28 => some x28).bind fun x29 => some ((x29.1, x29.2))
theorem n_l_row {p_rng : Rg} {a : ((List Int) × Int × Int) × Rg} (hN : N_l_row p_rng = some a) : F_l_row [.own p_rng.own] = res_l_row a := by
  unfold N_l_row at hN
  refine f_run (k := 1) (S := [.own 0 p_rng.own, .no, .no, .no, .no, .no, .no]) rfl rfl rfl ?_
  unfold m_l_row
  refine s_last ?_
  refine s_assoc ?_
  obtain ⟨d1, hd1, hN⟩ := bind_some hN
  rcases ite_some hN with ⟨c30, hN⟩ | ⟨c30, hN⟩
  · refine s_ifT (t_truth (x_2 (x_callF (fs := [.own p_rng.own, .dat (.int 3)]) (is := [0]) (outs := [d1.2.own]) (S3 := [.own 0 d1.2.own, .no, .no, .no, .no, .no, .no]) (v_slot rfl (v_dat x_C v_nil)) v_nil ⟨rfl, rfl⟩ rfl rfl (n_draw hd1) rfl) x_C rfl)) c30 ?_
    obtain ⟨x2, hx2, hN⟩ := bind_some hN
    obtain ⟨x3, hx3, hN⟩ := bind_some hN
    refine s_ret (x_callF (fs := [.own d1.2.own, .dat ((eL (e3 (eL eI) eI eI)) x2)]) (is := [0]) (outs := [x3.2.own]) (S3 := [.own 0 x3.2.own, .no, .no, .no, .no, .no, .no]) (v_slot rfl (v_dat (x_callF (fs := []) (is := []) (outs := []) (S3 := [.own 0 d1.2.own, .no, .no, .no, .no, .no, .no]) v_nil v_nil ⟨rfl, rfl⟩ rfl rfl (n_l_rows hx2) rfl) v_nil)) v_nil ⟨rfl, rfl⟩ rfl rfl (n_l_choice hx3) rfl) ?_
    obtain rfl := Option.some.inj hN
    exact rfl
  · refine s_ifF (t_truth (x_2 (x_callF (fs := [.own p_rng.own, .dat (.int 3)]) (is := [0]) (outs := [d1.2.own]) (S3 := [.own 0 d1.2.own, .no, .no, .no, .no, .no, .no]) (v_slot rfl (v_dat x_C v_nil)) v_nil ⟨rfl, rfl⟩ rfl rfl (n_draw hd1) rfl) x_C rfl)) c30 ?_
    refine s_next ?_
    refine s_assoc ?_
    obtain ⟨d4, hd4, hN⟩ := bind_some hN
    refine s_setF (S2 := [.own 0 d4.2.own, .loc (([d4.1]).map eI), .no, .no, .no, .no, .no]) (l_lst (x_cons (x_callF (fs := [.own d1.2.own, .dat (.int 3)]) (is := [0]) (outs := [d4.2.own]) (S3 := [.own 0 d4.2.own, .no, .no, .no, .no, .no, .no]) (v_slot rfl (v_dat x_C v_nil)) v_nil ⟨rfl, rfl⟩ rfl rfl (n_draw hd4) rfl) x_nil) (Nat.le_of_ble_eq_true rfl)) rfl ?_
    refine s_assoc ?_
    obtain ⟨d5, hd5, hN⟩ := bind_some hN
    obtain ⟨x6, hx6, hN⟩ := bind_some hN
    obtain ⟨s15, hs15, hN⟩ := bind_some hN
    obtain ⟨j16, es15⟩ : ∃ jx, loopS (gNm 2) (mApp 1 (m2 addD (mIxS 1 (m1 negD (mC (.int 1)))) (mCallF F_l_draw 2 0 (fun as bs => [as.getD 0 (.dat .non), as.getD 1 (.dat .non)]) (vSlot 0 (vDat (mC (.int 2)) (vNil))) vNil))) (x6.map eI) [.own 0 d5.2.own, .loc (([d4.1]).map eI), .no, .no, .no, .no, .no] = .ok .nx (((fun (s : Rg × (List Int)) (j : Nat → Slot) => [.own 0 s.1.own, .loc (s.2.map eI), (j 2), .no, .no, .no, .no])) s15 jx) := foldO_ok (T := (fun (s : Rg × (List Int)) (j : Nat → Slot) => [.own 0 s.1.own, .loc (s.2.map eI), (j 2), .no, .no, .no, .no])) (f := eI) (fun x13 s14 j z h => n_l_row_b1 x13 s14.1 s14.2 h j) x6 (d5.2, ([d4.1])) (fun i => List.getD [.own 0 d5.2.own, .loc (([d4.1]).map eI), .no, .no, .no, .no, .no] i .no) _ hs15
    refine s_for (ds := x6.map eI) (i_its (x_cons (x_callF (fs := [.own d4.2.own, .dat (.int 4)]) (is := [0]) (outs := [d5.2.own]) (S3 := [.own 0 d5.2.own, .loc (([d4.1]).map eI), .no, .no, .no, .no, .no]) (v_slot rfl (v_dat x_C v_nil)) v_nil ⟨rfl, rfl⟩ rfl rfl (n_draw hd5) rfl) x_nil) (q_range1 hx6)) (s_run (S1 := [.own 0 s15.1.own, .loc (s15.2.map eI), (j16 2), .no, .no, .no, .no]) es15 ?_)
    refine s_assoc ?_
    obtain ⟨x18, hx18, hN⟩ := bind_some hN
    obtain ⟨x19, hx19, hN⟩ := bind_some hN
    refine s_asg (S2 := [.own 0 x19.2.own, .loc (s15.2.map eI), (j16 2), .dat (eI x19.1), .no, .no, .no]) (x_callF (fs := [.own s15.1.own, .dat ((eL eI) x18)]) (is := [0]) (outs := [x19.2.own]) (S3 := [.own 0 x19.2.own, .loc (s15.2.map eI), (j16 2), .no, .no, .no, .no]) (v_slot rfl (v_dat (x_lc (lc_filter (f := eI) (fo := eI) (C := fun y17 => decide (y17 ≤ ((s15.2.length : Int)))) (F := fun y17 => y17) (S0 := [.own 0 s15.1.own, .loc (s15.2.map eI), (j16 2), .no, .no, .no, .no]) (i_items (x_eq (x_lst (x_cons x_C (x_cons x_C (x_cons x_C (x_cons x_C x_nil)))) (Nat.le_of_ble_eq_true rfl)) (by rfl)) rfl) rfl (fun y17 => ⟨[.own 0 s15.1.own, .loc (s15.2.map eI), (j16 2), .no, .no, .no, .dat (eI y17)], _, rfl, (t_truth (x_2 (x_var rfl) (x_callP rfl rfl (q_len (f := eI)) rfl) rfl)), (x_var rfl), rfl, rfl⟩) hx18)) v_nil)) v_nil ⟨rfl, rfl⟩ rfl rfl (n_l_choice_2 hx19) rfl) rfl ?_
    refine s_assoc ?_
    obtain ⟨x20, hx20, hN⟩ := bind_some hN
    obtain ⟨x21, hx21, hN⟩ := bind_some hN
    obtain ⟨x22, hx22, hN⟩ := bind_some hN
    obtain ⟨v23, hv23, hN⟩ := bind_some hN
    refine s_asg (S2 := [.own 0 x19.2.own, .loc (s15.2.map eI), (j16 2), .dat (eI x19.1), .dat (eI v23), .no, .no]) (x_eq (x_2 (x_ixS rfl (x_1 x_C rfl) rfl (q_ix (f := eI) hx20)) (x_2 (x_catR (f := eI) (x_eq (x_lst (x_cons x_C x_nil) (Nat.le_of_ble_eq_true rfl)) (by rfl)) rfl rfl hx21) (x_2 (x_2 (x_callP rfl rfl (q_len (f := eI)) rfl) x_C rfl) (x_var rfl) rfl) (q_ix (f := eI) hx22)) rfl) (congrArg eI (Option.some.inj hv23))) rfl ?_
    refine s_assoc ?_
    obtain ⟨d24, hd24, hN⟩ := bind_some hN
    obtain ⟨v25, hv25, hN⟩ := bind_some hN
    refine s_asg (S2 := [.own 0 d24.2.own, .dat ((eL eI) s15.2), (j16 2), .dat (eI x19.1), .dat (eI v23), .dat ((e3 (eL eI) eI eI) v25), .no]) (x_eq (x_tup (x_cons (x_varL (S1 := [.own 0 x19.2.own, .dat ((eL eI) s15.2), (j16 2), .dat (eI x19.1), .dat (eI v23), .no, .no]) rfl rfl) (x_cons (x_var rfl) (x_cons (x_2 (x_call (x_cons x_C (x_cons (x_var rfl) x_nil)) q_max2) (x_callF (fs := [.own x19.2.own, .dat (.int 2)]) (is := [0]) (outs := [d24.2.own]) (S3 := [.own 0 d24.2.own, .dat ((eL eI) s15.2), (j16 2), .dat (eI x19.1), .dat (eI v23), .no, .no]) (v_slot rfl (v_dat x_C v_nil)) v_nil ⟨rfl, rfl⟩ rfl rfl (n_draw hd24) rfl) rfl) x_nil))) (Nat.le_of_ble_eq_true rfl)) (congrArg (e3 (eL eI) eI eI) (Option.some.inj hv25))) rfl ?_
    obtain ⟨x26, hx26, hN⟩ := bind_some hN
    obtain ⟨x29, hx29, hN⟩ := bind_some hN
    refine s_ret (x_ifQ (f := fun v => (e3 (eL eI) eI eI) v.1) (st := fun v => [.own 0 v.2.own, .dat ((eL eI) s15.2), (j16 2), .dat (eI x19.1), .dat (eI v23), .dat ((e3 (eL eI) eI eI) v25), .no]) (t_truth (x_callF (fs := [.dat ((e3 (eL eI) eI eI) v25)]) (is := []) (outs := []) (S3 := [.own 0 d24.2.own, .dat ((eL eI) s15.2), (j16 2), .dat (eI x19.1), .dat (eI v23), .dat ((e3 (eL eI) eI eI) v25), .no]) (v_dat (x_var rfl) v_nil) v_nil ⟨rfl, rfl⟩ rfl rfl (n_l_is_good hx26) rfl)) (fun v hv => by (obtain rfl := Option.some.inj hv; exact (x_var rfl))) (fun v hv => by (obtain ⟨x27, hx27, hv⟩ := bind_some hv; obtain ⟨x28, hx28, hv⟩ := bind_some hv; obtain rfl := Option.some.inj hv; exact (x_callF (fs := [.own d24.2.own, .dat ((eL (e3 (eL eI) eI eI)) x27)]) (is := [0]) (outs := [x28.2.own]) (S3 := [.own 0 x28.2.own, .dat ((eL eI) s15.2), (j16 2), .dat (eI x19.1), .dat (eI v23), .dat ((e3 (eL eI) eI eI) v25), .no]) (v_slot rfl (v_dat (x_callF (fs := []) (is := []) (outs := []) (S3 := [.own 0 d24.2.own, .dat ((eL eI) s15.2), (j16 2), .dat (eI x19.1), .dat (eI v23), .dat ((e3 (eL eI) eI eI) v25), .no]) v_nil v_nil ⟨rfl, rfl⟩ rfl rfl (n_l_rows hx27) rfl) v_nil)) v_nil ⟨rfl, rfl⟩ rfl rfl (n_l_choice hx28) rfl))) hx29) ?_
    obtain rfl := Option.some.inj hN
    exact rfl
def res_l_ends_well (a : Bool) : RF := .ok (eB a) []
def N_l_ends_well (p_row : ((List Int) × Int × Int)) (p_units : (List Int)) : Option (Bool) :=
  (lrange2N 1 (((p_units.length : Int)) + 1)).bind fun x1 => (capO (mapO (fun y2 => (N_l_at p_row y2).bind fun x3 => some (decide (((cutL p_units (some (((p_units.length : Int)) - y2)) none).sum) ≤ x3))) x1)).bind fun x4 => some (x4.all id)
theorem n_l_ends_well {p_row : ((List Int) × Int × Int)} {p_units : (List Int)} {a : Bool} (hN : N_l_ends_well p_row p_units = some a) : F_l_ends_well [.dat ((e3 (eL eI) eI eI) p_row), .dat ((eL eI) p_units)] = res_l_ends_well a := by
  unfold N_l_ends_well at hN
  refine f_run (k := 0) (S := [.dat ((e3 (eL eI) eI eI) p_row), .dat ((eL eI) p_units), .no, .no]) rfl rfl rfl ?_
  unfold m_l_ends_well
  refine s_last ?_
  refine s_assoc ?_
  obtain ⟨x1, hx1, hN⟩ := bind_some hN
  refine s_asg (S2 := [.dat ((e3 (eL eI) eI eI) p_row), .dat ((eL eI) p_units), .dat ((eL eI) x1), .no]) (x_fresh (l_range2 x_C (x_2 (x_call (x_cons (x_var rfl) x_nil) (q_len (f := eI))) x_C rfl) hx1)) rfl ?_
  obtain ⟨x4, hx4, hN⟩ := bind_some hN
  refine s_ret (x_call (x_cons (x_lc (lc_mapO (f := eI) (fo := eB) (nb := fun y2 => (N_l_at p_row y2).bind fun x3 => some (decide (((cutL p_units (some (((p_units.length : Int)) - y2)) none).sum) ≤ x3))) (S0 := [.dat ((e3 (eL eI) eI eI) p_row), .dat ((eL eI) p_units), .dat ((eL eI) x1), .no]) (i_items (x_var rfl) rfl) rfl (fun y2 p hp => by (obtain ⟨x3, hx3, hp⟩ := bind_some hp; obtain rfl := Option.some.inj hp; exact ⟨[.dat ((e3 (eL eI) eI eI) p_row), .dat ((eL eI) p_units), .dat ((eL eI) x1), .dat (eI y2)], _, rfl, (x_2 (x_call (x_cons (x_sl (x_var rfl) (o_s (x_2 (x_call (x_cons (x_var rfl) x_nil) (q_len (f := eI))) (x_var rfl) rfl)) o_n (q_slice (f := eI))) x_nil) q_sum) (x_callF (fs := [.dat ((e3 (eL eI) eI eI) p_row), .dat (eI y2)]) (is := []) (outs := []) (S3 := [.dat ((e3 (eL eI) eI eI) p_row), .dat ((eL eI) p_units), .dat ((eL eI) x1), .dat (eI y2)]) (v_dat (x_var rfl) (v_dat (x_var rfl) v_nil)) v_nil ⟨rfl, rfl⟩ rfl rfl (n_l_at hx3) rfl) rfl), rfl⟩)) hx4)) x_nil) q_all) ?_
  obtain rfl := Option.some.inj hN
  exact rfl
def res_l_record (a : (List Int) × Rg) : RF := .ok ((eL eI) a.1) [a.2.own]
def N_l_record_b1t (v3 : (Int × Int)) (c20 : Rg) (c21 : (List Int)) : Option Bool :=
  some ((decide (v3.1 = 2)) && (decide (((c21.length : Int)) < v3.2)))
theorem n_l_record_b1t (v3 : (Int × Int)) (p_row : ((List Int) × Int × Int)) (c20 : Rg) (c21 : (List Int)) {a : Bool} (hN : N_l_record_b1t v3 c20 c21 = some a) (j : Nat → Slot) : (cAnd (cTruth (m2 eqD (mVar 3) (mC (.int 2)))) (cTruth (m2 ltD (mCallP lenC 2) (mVar 4)))) [.own 0 c20.own, .dat ((e3 (eL eI) eI eI) p_row), .loc (c21.map eI), .dat (eI v3.1), .dat (eI v3.2), (j 5), .no, (j 7)] = .ok a [.own 0 c20.own, .dat ((e3 (eL eI) eI eI) p_row), .loc (c21.map eI), .dat (eI v3.1), .dat (eI v3.2), (j 5), .no, (j 7)] := by
  unfold N_l_record_b1t at hN
  obtain rfl := Option.some.inj hN
  exact (t_andP (t_truth (x_2 (x_var rfl) x_C rfl)) (t_truth (x_2 (x_callP rfl rfl (q_len (f := eI)) rfl) (x_var rfl) rfl)))
def N_l_record_b1 (p_row : ((List Int) × Int × Int)) (c20 : Rg) (c21 : (List Int)) : Option (Rg × (List Int)) :=
  (drawN c20 3).bind fun d22 => (some ([d22.1, 0])).bind fun v23 => (capO (lcO (fun y24 => (catN c21 ([y24])).bind fun x25 => (N_l_ends_well p_row x25).bind fun x26 => if x26 = true then some (some y24) else some none) v23)).bind fun x27 => (ixN? x27 0).bind fun x28 => (appN c21 x28).bind fun v29 => some ((d22.2, v29))
theorem n_l_record_b1 (p_row : ((List Int) × Int × Int)) (v3 : (Int × Int)) (c20 : Rg) (c21 : (List Int)) {a : Rg × (List Int)} (hN : N_l_record_b1 p_row c20 c21 = some a) (j : Nat → Slot) : LN (fun (s : Rg × (List Int)) (j : Nat → Slot) => [.own 0 s.1.own, .dat ((e3 (eL eI) eI eI) p_row), .loc (s.2.map eI), .dat (eI v3.1), .dat (eI v3.2), (j 5), .no, (j 7)]) a ((mSeq (mAsg (mLst (mCons (mCallF F_l_draw 2 0 (fun as bs => [as.getD 0 (.dat .non), as.getD 1 (.dat .non)]) (vSlot 0 (vDat (mC (.int 3)) (vNil))) vNil) (mCons (mC (.int 0)) (mNil)))) (gNm 5))
    (mApp 2 (m2 ixD (mLc (mItems (mVar 5)) (cgN 7) (cTruth (mCallF F_l_ends_well 2 0 (fun as bs => [as.getD 0 (.dat .non), as.getD 1 (.dat .non)]) (vDat (mVar 1) (vDat (mCatL 2 (mLst (mCons (mVar 7) (mNil)))) (vNil))) vNil)) (mVar 7) [7]) (mC (.int 0))))) [.own 0 c20.own, .dat ((e3 (eL eI) eI eI) p_row), .loc (c21.map eI), .dat (eI v3.1), .dat (eI v3.2), (j 5), .no, (j 7)]) := by
  unfold N_l_record_b1 at hN
  refine s_last ?_
  refine s_assoc ?_
  obtain ⟨d22, hd22, hN⟩ := bind_some hN
  obtain ⟨v23, hv23, hN⟩ := bind_some hN
  refine s_asg (S2 := [.own 0 d22.2.own, .dat ((e3 (eL eI) eI eI) p_row), .loc (c21.map eI), .dat (eI v3.1), .dat (eI v3.2), .dat ((eL eI) v23), .no, (j 7)]) (x_eq (x_eq (x_lst (x_cons (x_callF (fs := [.own c20.own, .dat (.int 3)]) (is := [0]) (outs := [d22.2.own]) (S3 := [.own 0 d22.2.own, .dat ((e3 (eL eI) eI eI) p_row), .loc (c21.map eI), .dat (eI v3.1), .dat (eI v3.2), (j 5), .no, (j 7)]) (v_slot rfl (v_dat x_C v_nil)) v_nil ⟨rfl, rfl⟩ rfl rfl (n_draw hd22) rfl) (x_cons x_C x_nil)) (Nat.le_of_ble_eq_true rfl)) (by rfl)) (congrArg (eL eI) (Option.some.inj hv23))) rfl ?_
  obtain ⟨x27, hx27, hN⟩ := bind_some hN
  obtain ⟨x28, hx28, hN⟩ := bind_some hN
  obtain ⟨v29, hv29, hN⟩ := bind_some hN
  refine s_appL' (S2 := [.own 0 d22.2.own, .dat ((e3 (eL eI) eI eI) p_row), .loc (v29.map eI), .dat (eI v3.1), .dat (eI v3.2), .dat ((eL eI) v23), .no, .no]) rfl (x_2 (x_lc (lc_O (f := eI) (fo := eI) (nb := fun y24 => (catN c21 ([y24])).bind fun x25 => (N_l_ends_well p_row x25).bind fun x26 => if x26 = true then some (some y24) else some none) (S0 := [.own 0 d22.2.own, .dat ((e3 (eL eI) eI eI) p_row), .loc (c21.map eI), .dat (eI v3.1), .dat (eI v3.2), .dat ((eL eI) v23), .no, .no]) (i_items (x_var rfl) rfl) rfl (fun y24 p hp => by (obtain ⟨x25, hx25, hp⟩ := bind_some hp; obtain ⟨x26, hx26, hp⟩ := bind_some hp; rcases ite_some hp with ⟨hc, hp⟩ | ⟨hc, hp⟩; (obtain rfl := Option.some.inj hp; exact ⟨[.own 0 d22.2.own, .dat ((e3 (eL eI) eI eI) p_row), .loc (c21.map eI), .dat (eI v3.1), .dat (eI v3.2), .dat ((eL eI) v23), .no, .dat (eI y24)], rfl, _, _, ((t_truth (x_callF (fs := [.dat ((e3 (eL eI) eI eI) p_row), .dat ((eL eI) x25)]) (is := []) (outs := []) (S3 := [.own 0 d22.2.own, .dat ((e3 (eL eI) eI eI) p_row), .loc (c21.map eI), .dat (eI v3.1), .dat (eI v3.2), .dat ((eL eI) v23), .no, .dat (eI y24)]) (v_dat (x_var rfl) (v_dat (x_catL (f := eI) rfl (x_eq (x_lst (x_cons (x_var rfl) x_nil) (Nat.le_of_ble_eq_true rfl)) (by rfl)) rfl hx25) v_nil)) v_nil ⟨rfl, rfl⟩ rfl rfl (n_l_ends_well hx26) rfl))).trans (by rw [hc]), (x_var rfl), rfl⟩); (obtain rfl := Option.some.inj hp; exact ⟨[.own 0 d22.2.own, .dat ((e3 (eL eI) eI eI) p_row), .loc (c21.map eI), .dat (eI v3.1), .dat (eI v3.2), .dat ((eL eI) v23), .no, .dat (eI y24)], rfl, _, ((t_truth (x_callF (fs := [.dat ((e3 (eL eI) eI eI) p_row), .dat ((eL eI) x25)]) (is := []) (outs := []) (S3 := [.own 0 d22.2.own, .dat ((e3 (eL eI) eI eI) p_row), .loc (c21.map eI), .dat (eI v3.1), .dat (eI v3.2), .dat ((eL eI) v23), .no, .dat (eI y24)]) (v_dat (x_var rfl) (v_dat (x_catL (f := eI) rfl (x_eq (x_lst (x_cons (x_var rfl) x_nil) (Nat.le_of_ble_eq_true rfl)) (by rfl)) rfl hx25) v_nil)) v_nil ⟨rfl, rfl⟩ rfl rfl (n_l_ends_well hx26) rfl))).trans (by rw [hc]), rfl⟩))) hx27)) x_C (q_ix (f := eI) hx28)) rfl (q_app (f := eI) hv29) rfl ?_
  obtain rfl := Option.some.inj hN
  exact ln_nx rfl
def N_l_record (p_rng : Rg) (p_row : ((List Int) × Int × Int)) : Option ((List Int) × Rg) :=
  (drawN p_rng 5).bind fun d1 => (drawN d1.2 15).bind fun d2 => (some ((d1.1, d2.1))).bind fun v3 => if (decide (v3.1 = 0)) = true then (drawN d2.2 12).bind fun d4 => (repN ([0]) v3.2).bind fun x5 => (catN ([d4.1]) x5).bind fun x6 => some ((x6, d4.2)) else if (decide (v3.1 = 1)) = true then (range1N v3.2).bind fun x7 => (capS (mapS (fun y8 s9 => (drawN s9 4).bind fun d10 => (ixN? ([0, 1, 100000000000000000, 2]) d10.1).bind fun x11 => some (x11, d10.2)) x7 d2.2)).bind fun x12 => some ((x12.1, x12.2)) else (if (decide (2 < v3.1)) = true then (range1N v3.2).bind fun x13 => (capS (mapS (fun y14 s15 => (ixN? ([2, 4]) (v3.1 - 3)).bind fun x16 => (drawN s15 x16).bind fun d17 => some (d17.1, d17.2)) x13 d2.2)).bind fun x18 => some x18 else some ([], d2.2)).bind fun x19 => (whileO (fun (s30 : Rg × (List Int)) => N_l_record_b1t v3 s30.1 s30.2) (fun (s30 : Rg × (List Int)) => N_l_record_b1 p_row s30.1 s30.2) (x19.2, x19.1)).bind fun s31 => some ((s31.2, s31.1))
theorem n_l_record {p_rng : Rg} {p_row : ((List Int) × Int × Int)} {a : (List Int) × Rg} (hN : N_l_record p_rng p_row = some a) : F_l_record [.own p_rng.own, .dat ((e3 (eL eI) eI eI) p_row)] = res_l_record a := by
  unfold N_l_record at hN
  refine f_run (k := 1) (S := [.own 0 p_rng.own, .dat ((e3 (eL eI) eI eI) p_row), .no, .no, .no, .no, .no, .no]) rfl rfl rfl ?_
  unfold m_l_record
  refine s_last ?_
  refine s_assoc ?_
  obtain ⟨d1, hd1, hN⟩ := bind_some hN
  obtain ⟨d2, hd2, hN⟩ := bind_some hN
  obtain ⟨v3, hv3, hN⟩ := bind_some hN
  refine s_asgG (S2 := [.own 0 d2.2.own, .dat ((e3 (eL eI) eI eI) p_row), .no, .dat (eI v3.1), .dat (eI v3.2), .no, .no, .no]) (x_eq (x_tup (x_cons (x_callF (fs := [.own p_rng.own, .dat (.int 5)]) (is := [0]) (outs := [d1.2.own]) (S3 := [.own 0 d1.2.own, .dat ((e3 (eL eI) eI eI) p_row), .no, .no, .no, .no, .no, .no]) (v_slot rfl (v_dat x_C v_nil)) v_nil ⟨rfl, rfl⟩ rfl rfl (n_draw hd1) rfl) (x_cons (x_callF (fs := [.own d1.2.own, .dat (.int 15)]) (is := [0]) (outs := [d2.2.own]) (S3 := [.own 0 d2.2.own, .dat ((e3 (eL eI) eI eI) p_row), .no, .no, .no, .no, .no, .no]) (v_slot rfl (v_dat x_C v_nil)) v_nil ⟨rfl, rfl⟩ rfl rfl (n_draw hd2) rfl) x_nil)) (Nat.le_of_ble_eq_true rfl)) (congrArg (e2 eI eI) (Option.some.inj hv3))) rfl ?_
  refine s_assoc ?_
  rcases ite_some hN with ⟨c34, hN⟩ | ⟨c34, hN⟩
  · refine s_ifT (t_truth (x_2 (x_var rfl) x_C rfl)) c34 ?_
    obtain ⟨d4, hd4, hN⟩ := bind_some hN
    obtain ⟨x5, hx5, hN⟩ := bind_some hN
    obtain ⟨x6, hx6, hN⟩ := bind_some hN
    refine s_ret (x_2 (x_eq (x_lst (x_cons (x_callF (fs := [.own d2.2.own, .dat (.int 12)]) (is := [0]) (outs := [d4.2.own]) (S3 := [.own 0 d4.2.own, .dat ((e3 (eL eI) eI eI) p_row), .no, .dat (eI v3.1), .dat (eI v3.2), .no, .no, .no]) (v_slot rfl (v_dat x_C v_nil)) v_nil ⟨rfl, rfl⟩ rfl rfl (n_draw hd4) rfl) x_nil) (Nat.le_of_ble_eq_true rfl)) (by rfl)) (x_2 (x_eq (x_lst (x_cons x_C x_nil) (Nat.le_of_ble_eq_true rfl)) (by rfl)) (x_var rfl) (q_rep (f := eI) hx5)) (q_cat (f := eI) hx6)) ?_
    obtain rfl := Option.some.inj hN
    exact rfl
  · refine s_ifF (t_truth (x_2 (x_var rfl) x_C rfl)) c34 ?_
    refine s_next ?_
    refine s_assoc ?_
    rcases ite_some hN with ⟨c33, hN⟩ | ⟨c33, hN⟩
    · refine s_ifT (t_truth (x_2 (x_var rfl) x_C rfl)) c33 ?_
      obtain ⟨x7, hx7, hN⟩ := bind_some hN
      obtain ⟨x12, hx12, hN⟩ := bind_some hN
      refine s_ret (x_lc (lc_mapS (S := [.own 0 d2.2.own, .dat ((e3 (eL eI) eI eI) p_row), .no, .dat (eI v3.1), .dat (eI v3.2), .no, .no, .no]) (mi := mIts range1 (mCons (mVar 4) (mNil))) (vs := [6]) (g := cgN 6) (e := m2 ixD (mLst (mCons (mC (.int 0)) (mCons (mC (.int 1)) (mCons (m2 powD (mC (.int 10)) (mC (.int 17))) (mCons (mC (.int 2)) (mNil)))))) (mCallF F_l_draw 2 0 (fun as bs => [as.getD 0 (.dat .non), as.getD 1 (.dat .non)]) (vSlot 0 (vDat (mC (.int 4)) (vNil))) vNil)) (f := eI) (fo := eI) (T := fun s9 => [.own 0 s9.own, .dat ((e3 (eL eI) eI eI) p_row), .no, .dat (eI v3.1), .dat (eI v3.2), .no, .no, .no]) (nb := fun y8 s9 => (drawN s9 4).bind fun d10 => (ixN? ([0, 1, 100000000000000000, 2]) d10.1).bind fun x11 => some (x11, d10.2)) (s := d2.2) (ys := x12.1) (s' := x12.2) (i_its (x_cons (x_var rfl) x_nil) (q_range1 hx7)) rfl (fun y8 s9 p hp => by (obtain ⟨d10, hd10, hp⟩ := bind_some hp; obtain ⟨x11, hx11, hp⟩ := bind_some hp; obtain rfl := Option.some.inj hp; exact ⟨[.own 0 s9.own, .dat ((e3 (eL eI) eI eI) p_row), .no, .dat (eI v3.1), .dat (eI v3.2), .no, .dat (eI y8), .no], _, rfl, (x_2 (x_eq (x_lst (x_cons x_C (x_cons x_C (x_cons (x_2 x_C x_C (q_powL (n := 17) (r := 100000000000000000) rfl (by decide) (by decide) (by decide))) (x_cons x_C x_nil)))) (Nat.le_of_ble_eq_true rfl)) (by rfl)) (x_callF (fs := [.own s9.own, .dat (.int 4)]) (is := [0]) (outs := [d10.2.own]) (S3 := [.own 0 d10.2.own, .dat ((e3 (eL eI) eI eI) p_row), .no, .dat (eI v3.1), .dat (eI v3.2), .no, .dat (eI y8), .no]) (v_slot rfl (v_dat x_C v_nil)) v_nil ⟨rfl, rfl⟩ rfl rfl (n_draw hd10) rfl) (q_ix (f := eI) hx11)), rfl⟩)) hx12)) ?_
      obtain rfl := Option.some.inj hN
      exact rfl
    · refine s_ifF (t_truth (x_2 (x_var rfl) x_C rfl)) c33 ?_
      refine s_next ?_
      refine s_assoc ?_
      obtain ⟨x19, hx19, hN⟩ := bind_some hN
      refine s_setF (S2 := [.own 0 x19.2.own, .dat ((e3 (eL eI) eI eI) p_row), .loc (x19.1.map eI), .dat (eI v3.1), .dat (eI v3.2), .no, .no, .no]) (l_ifQ (x := lLc (mIts range1 (mCons (mVar 4) (mNil))) (cgN 6) (cYes) (mCallF F_l_draw 2 0 (fun as bs => [as.getD 0 (.dat .non), as.getD 1 (.dat .non)]) (vSlot 0 (vDat (m2 ixD (mLst (mCons (mC (.int 2)) (mCons (mC (.int 4)) (mNil)))) (m2 subD (mVar 3) (mC (.int 3)))) (vNil))) vNil) [6]) (y := lLst (mNil)) (f := fun v => v.1.map eI) (st := fun v => [.own 0 v.2.own, .dat ((e3 (eL eI) eI eI) p_row), .no, .dat (eI v3.1), .dat (eI v3.2), .no, .no, .no]) (t_truth (x_2 (x_var rfl) x_C rfl)) (fun v hv => by (obtain ⟨x13, hx13, hv⟩ := bind_some hv; obtain ⟨x18, hx18, hv⟩ := bind_some hv; obtain rfl := Option.some.inj hv; show (lLc (mIts range1 (mCons (mVar 4) (mNil))) (cgN 6) (cYes) (mCallF F_l_draw 2 0 (fun as bs => [as.getD 0 (.dat .non), as.getD 1 (.dat .non)]) (vSlot 0 (vDat (m2 ixD (mLst (mCons (mC (.int 2)) (mCons (mC (.int 4)) (mNil)))) (m2 subD (mVar 3) (mC (.int 3)))) (vNil))) vNil) [6]) [.own 0 d2.2.own, .dat ((e3 (eL eI) eI eI) p_row), .no, .dat (eI v3.1), .dat (eI v3.2), .no, .no, .no] = .ok (x18.1.map eI) [.own 0 x18.2.own, .dat ((e3 (eL eI) eI eI) p_row), .no, .dat (eI v3.1), .dat (eI v3.2), .no, .no, .no]; exact (lc_mapS (S := [.own 0 d2.2.own, .dat ((e3 (eL eI) eI eI) p_row), .no, .dat (eI v3.1), .dat (eI v3.2), .no, .no, .no]) (mi := mIts range1 (mCons (mVar 4) (mNil))) (vs := [6]) (g := cgN 6) (e := mCallF F_l_draw 2 0 (fun as bs => [as.getD 0 (.dat .non), as.getD 1 (.dat .non)]) (vSlot 0 (vDat (m2 ixD (mLst (mCons (mC (.int 2)) (mCons (mC (.int 4)) (mNil)))) (m2 subD (mVar 3) (mC (.int 3)))) (vNil))) vNil) (f := eI) (fo := eI) (T := fun s15 => [.own 0 s15.own, .dat ((e3 (eL eI) eI eI) p_row), .no, .dat (eI v3.1), .dat (eI v3.2), .no, .no, .no]) (nb := fun y14 s15 => (ixN? ([2, 4]) (v3.1 - 3)).bind fun x16 => (drawN s15 x16).bind fun d17 => some (d17.1, d17.2)) (s := d2.2) (ys := x18.1) (s' := x18.2) (i_its (x_cons (x_var rfl) x_nil) (q_range1 hx13)) rfl (fun y14 s15 p hp => by (obtain ⟨x16, hx16, hp⟩ := bind_some hp; obtain ⟨d17, hd17, hp⟩ := bind_some hp; obtain rfl := Option.some.inj hp; exact ⟨[.own 0 s15.own, .dat ((e3 (eL eI) eI eI) p_row), .no, .dat (eI v3.1), .dat (eI v3.2), .no, .dat (eI y14), .no], _, rfl, (x_callF (fs := [.own s15.own, .dat (.int x16)]) (is := [0]) (outs := [d17.2.own]) (S3 := [.own 0 d17.2.own, .dat ((e3 (eL eI) eI eI) p_row), .no, .dat (eI v3.1), .dat (eI v3.2), .no, .dat (eI y14), .no]) (v_slot rfl (v_dat (x_2 (x_eq (x_lst (x_cons x_C (x_cons x_C x_nil)) (Nat.le_of_ble_eq_true rfl)) (by rfl)) (x_2 (x_var rfl) x_C rfl) (q_ix (f := eI) hx16)) v_nil)) v_nil ⟨rfl, rfl⟩ rfl rfl (n_draw hd17) rfl), rfl⟩)) hx18))) (fun v hv => by (obtain rfl := Option.some.inj hv; show (lLst (mNil)) [.own 0 d2.2.own, .dat ((e3 (eL eI) eI eI) p_row), .no, .dat (eI v3.1), .dat (eI v3.2), .no, .no, .no] = .ok ((([], d2.2).1).map eI) [.own 0 (([], d2.2).2).own, .dat ((e3 (eL eI) eI eI) p_row), .no, .dat (eI v3.1), .dat (eI v3.2), .no, .no, .no]; exact (l_lst x_nil (Nat.le_of_ble_eq_true rfl)))) hx19) rfl ?_
      refine s_assoc ?_
      obtain ⟨s31, hs31, hN⟩ := bind_some hN
      obtain ⟨j32, es31⟩ : ∃ jx, mWhile (cAnd (cTruth (m2 eqD (mVar 3) (mC (.int 2)))) (cTruth (m2 ltD (mCallP lenC 2) (mVar 4)))) (mSeq (mAsg (mLst (mCons (mCallF F_l_draw 2 0 (fun as bs => [as.getD 0 (.dat .non), as.getD 1 (.dat .non)]) (vSlot 0 (vDat (mC (.int 3)) (vNil))) vNil) (mCons (mC (.int 0)) (mNil)))) (gNm 5))
    (mApp 2 (m2 ixD (mLc (mItems (mVar 5)) (cgN 7) (cTruth (mCallF F_l_ends_well 2 0 (fun as bs => [as.getD 0 (.dat .non), as.getD 1 (.dat .non)]) (vDat (mVar 1) (vDat (mCatL 2 (mLst (mCons (mVar 7) (mNil)))) (vNil))) vNil)) (mVar 7) [7]) (mC (.int 0))))) [.own 0 x19.2.own, .dat ((e3 (eL eI) eI eI) p_row), .loc (x19.1.map eI), .dat (eI v3.1), .dat (eI v3.2), .no, .no, .no] = .ok .nx (((fun (s : Rg × (List Int)) (j : Nat → Slot) => [.own 0 s.1.own, .dat ((e3 (eL eI) eI eI) p_row), .loc (s.2.map eI), .dat (eI v3.1), .dat (eI v3.2), (j 5), .no, (j 7)])) s31 jx) := whileO_ok (T := (fun (s : Rg × (List Int)) (j : Nat → Slot) => [.own 0 s.1.own, .dat ((e3 (eL eI) eI eI) p_row), .loc (s.2.map eI), .dat (eI v3.1), .dat (eI v3.2), (j 5), .no, (j 7)])) (fun s30 j z h => n_l_record_b1t v3 p_row s30.1 s30.2 h j) (fun s30 j z h => n_l_record_b1 p_row v3 s30.1 s30.2 h j) (x19.2, x19.1) (fun i => List.getD [.own 0 x19.2.own, .dat ((e3 (eL eI) eI eI) p_row), .loc (x19.1.map eI), .dat (eI v3.1), .dat (eI v3.2), .no, .no, .no] i .no) _ hs31
      refine s_run (S1 := [.own 0 s31.1.own, .dat ((e3 (eL eI) eI eI) p_row), .loc (s31.2.map eI), .dat (eI v3.1), .dat (eI v3.2), (j32 5), .no, (j32 7)]) es31 ?_
      refine s_ret (x_varL (S1 := [.own 0 s31.1.own, .dat ((e3 (eL eI) eI eI) p_row), .dat ((eL eI) s31.2), .dat (eI v3.1), .dat (eI v3.2), (j32 5), .no, (j32 7)]) rfl rfl) ?_
      obtain rfl := Option.some.inj hN
      exact rfl
def res_is_integer_i (a : Bool) : RF := .ok (eB a) []
def N_is_integer_i (p_value : Int) : Option (Bool) :=
  some true
theorem n_is_integer_i {p_value : Int} {a : Bool} (hN : N_is_integer_i p_value = some a) : F_is_integer [.dat (eI p_value)] = res_is_integer_i a := by
  unfold N_is_integer_i at hN
  refine f_run (k := 0) (S := [.dat (eI p_value)]) rfl rfl rfl ?_
  unfold m_is_integer
  refine s_last ?_
  refine s_ret (x_andT (x_1 (c := .bl true) (x_var rfl) (by simp [isiT, List.lookup])) (x_not (x_1 (c := .bl false) (x_var rfl) (by simp [isiT, List.lookup])))) ?_
  obtain rfl := Option.some.inj hN
  exact rfl
def res_is_count_ii (a : Bool) : RF := .ok (eB a) []
def N_is_count_ii (p_value : Int) (p_most : Int) : Option (Bool) :=
  (N_is_integer_i p_value).bind fun x1 => some (x1 && ((decide (0 ≤ p_value)) && (decide (p_value ≤ p_most))))
theorem n_is_count_ii {p_value : Int} {p_most : Int} {a : Bool} (hN : N_is_count_ii p_value p_most = some a) : F_is_count [.dat (eI p_value), .dat (eI p_most)] = res_is_count_ii a := by
  unfold N_is_count_ii at hN
  refine f_run (k := 0) (S := [.dat (eI p_value), .dat (eI p_most)]) rfl rfl rfl ?_
  unfold m_is_count
  refine s_last ?_
  obtain ⟨x1, hx1, hN⟩ := bind_some hN
  refine s_ret (x_andP (x_callF (fs := [.dat (eI p_value)]) (is := []) (outs := []) (S3 := [.dat (eI p_value), .dat (eI p_most)]) (v_dat (x_var rfl) v_nil) v_nil ⟨rfl, rfl⟩ rfl rfl (n_is_integer_i hx1) rfl) (x_andP (x_2 (x_var rfl) x_C rfl) (x_orF (x_2 (x_var rfl) x_C rfl) (x_2 (x_var rfl) (x_var rfl) rfl)))) ?_
  obtain rfl := Option.some.inj hN
  exact rfl
def res_check_values_li (a : Unit) : RF := .ok (eU a) []
def N_check_values_li_b1 (p_values : (List Int)) (i1 : Int) (i2 : Int) : Option (Unit) :=
  (N_is_count_ii i2 2000).bind fun x3 => (if (!x3) = true then some true else (if (decide (0 < i1)) = true then (ixN? p_values (i1 - 1)).bind fun x4 => some (decide (i2 < x4)) else some false).bind fun x5 => some x5).bind fun x6 => if x6 = true then none else some ()
theorem n_check_values_li_b1 (p_values : (List Int)) (i1 : Int) (i2 : Int) {a : Unit} (hN : N_check_values_li_b1 p_values i1 i2 = some a) (j : Nat → Slot) : ∃ S1, (gTpN 2 (gCs (gNm 1) (gCs (gNm 2) (gNl)))) ((e2 eI eI) (i1, i2)) [.dat ((eL eI) p_values), (j 1), (j 2)] = .ok () S1 ∧ LN (fun (s : Unit) (j : Nat → Slot) => [.dat ((eL eI) p_values), (j 1), (j 2)]) a ((mIfS (cOr (cNot (cTruth (mCallF F_is_count 2 0 (fun as bs => [as.getD 0 (.dat .non), as.getD 1 (.dat .non)]) (vDat (mVar 2) (vDat (mC (.int 2000)) (vNil))) vNil))) (cAnd (cTruth (m2 gtD (mVar 1) (mC (.int 0)))) (cTruth (m2 ltD (mVar 2) (m2 ixD (mVar 0) (m2 subD (mVar 1) (mC (.int 1)))))))) (mNever) (mNext)) S1) := by
  unfold N_check_values_li_b1 at hN
  refine ⟨[.dat ((eL eI) p_values), .dat (eI i1), .dat (eI i2)], rfl, ?_⟩
  refine s_last ?_
  obtain ⟨x3, hx3, hN⟩ := bind_some hN
  obtain ⟨x6, hx6, hN⟩ := bind_some hN
  rcases ite_some hN with ⟨c7, hN⟩ | ⟨c7, hN⟩
  · refine s_ifT (t_orQ (val := fun v => v) (st := fun v => [.dat ((eL eI) p_values), .dat (eI i1), .dat (eI i2)]) (t_not (t_truth (x_callF (fs := [.dat (eI i2), .dat (eI 2000)]) (is := []) (outs := []) (S3 := [.dat ((eL eI) p_values), .dat (eI i1), .dat (eI i2)]) (v_dat (x_var rfl) (v_dat x_C v_nil)) v_nil ⟨rfl, rfl⟩ rfl rfl (n_is_count_ii hx3) rfl))) (fun v hv => by (obtain ⟨x5, hx5, hv⟩ := bind_some hv; obtain rfl := Option.some.inj hv; exact (t_andQ (val := fun v => v) (st := fun v => [.dat ((eL eI) p_values), .dat (eI i1), .dat (eI i2)]) (t_truth (x_2 (x_var rfl) x_C rfl)) (fun v hv => by (obtain ⟨x4, hx4, hv⟩ := bind_some hv; obtain rfl := Option.some.inj hv; exact (t_truth (x_2 (x_var rfl) (x_2 (x_var rfl) (x_2 (x_var rfl) x_C rfl) (q_ix (f := eI) hx4)) rfl)))) rfl rfl hx5))) rfl rfl hx6) c7 ?_
    cases hN
  · refine s_ifF (t_orQ (val := fun v => v) (st := fun v => [.dat ((eL eI) p_values), .dat (eI i1), .dat (eI i2)]) (t_not (t_truth (x_callF (fs := [.dat (eI i2), .dat (eI 2000)]) (is := []) (outs := []) (S3 := [.dat ((eL eI) p_values), .dat (eI i1), .dat (eI i2)]) (v_dat (x_var rfl) (v_dat x_C v_nil)) v_nil ⟨rfl, rfl⟩ rfl rfl (n_is_count_ii hx3) rfl))) (fun v hv => by (obtain ⟨x5, hx5, hv⟩ := bind_some hv; obtain rfl := Option.some.inj hv; exact (t_andQ (val := fun v => v) (st := fun v => [.dat ((eL eI) p_values), .dat (eI i1), .dat (eI i2)]) (t_truth (x_2 (x_var rfl) x_C rfl)) (fun v hv => by (obtain ⟨x4, hx4, hv⟩ := bind_some hv; obtain rfl := Option.some.inj hv; exact (t_truth (x_2 (x_var rfl) (x_2 (x_var rfl) (x_2 (x_var rfl) x_C rfl) (q_ix (f := eI) hx4)) rfl)))) rfl rfl hx5))) rfl rfl hx6) c7 ?_
    refine s_next ?_
    obtain rfl := Option.some.inj hN
    exact ln_nx rfl
def N_check_values_li (p_values : (List Int)) : Option (Unit) :=
  if (!(decide (1 ≤ ((p_values.length : Int))) && decide (((p_values.length : Int)) ≤ 24))) = true then none else (foldO (fun (x8 : (Int × Int)) (s9 : Unit) => N_check_values_li_b1 p_values x8.1 x8.2) (enumN 0 p_values) ()).bind fun s10 => some ()
theorem n_check_values_li {p_values : (List Int)} {a : Unit} (hN : N_check_values_li p_values = some a) : F_check_values [.dat ((eL eI) p_values)] = res_check_values_li a := by
  unfold N_check_values_li at hN
  refine f_run (k := 0) (S := [.dat ((eL eI) p_values), .no, .no]) rfl rfl rfl ?_
  unfold m_check_values
  refine s_last ?_
  refine s_assoc ?_
  refine s_ifF (t_not (t_truth (x_1 (c := .bl true) (x_var rfl) (by simp [isiT, List.lookup])))) rfl ?_
  refine s_next ?_
  refine s_assoc ?_
  rcases ite_some hN with ⟨c12, hN⟩ | ⟨c12, hN⟩
  · refine s_ifT (t_not (t_truth (x_chain x_C (x_call (x_cons (x_var rfl) x_nil) (q_len (f := eI))) x_C rfl rfl))) c12 ?_
    cases hN
  · refine s_ifF (t_not (t_truth (x_chain x_C (x_call (x_cons (x_var rfl) x_nil) (q_len (f := eI))) x_C rfl rfl))) c12 ?_
    refine s_next ?_
    obtain ⟨s10, hs10, hN⟩ := bind_some hN
    obtain ⟨j11, es10⟩ : ∃ jx, loopS (gTpN 2 (gCs (gNm 1) (gCs (gNm 2) (gNl)))) (mIfS (cOr (cNot (cTruth (mCallF F_is_count 2 0 (fun as bs => [as.getD 0 (.dat .non), as.getD 1 (.dat .non)]) (vDat (mVar 2) (vDat (mC (.int 2000)) (vNil))) vNil))) (cAnd (cTruth (m2 gtD (mVar 1) (mC (.int 0)))) (cTruth (m2 ltD (mVar 2) (m2 ixD (mVar 0) (m2 subD (mVar 1) (mC (.int 1)))))))) (mNever) (mNext)) ((enumN 0 p_values).map (e2 eI eI)) [.dat ((eL eI) p_values), .no, .no] = .ok .nx (((fun (s : Unit) (j : Nat → Slot) => [.dat ((eL eI) p_values), (j 1), (j 2)])) s10 jx) := foldO_ok (T := (fun (s : Unit) (j : Nat → Slot) => [.dat ((eL eI) p_values), (j 1), (j 2)])) (f := (e2 eI eI)) (fun x8 s9 j z h => n_check_values_li_b1 p_values x8.1 x8.2 h j) (enumN 0 p_values) () (fun i => List.getD [.dat ((eL eI) p_values), .no, .no] i .no) _ hs10
    refine s_for (ds := (enumN 0 p_values).map (e2 eI eI)) (i_its (x_cons (x_var rfl) x_nil) (q_enum (f := eI))) (s_run (S1 := [.dat ((eL eI) p_values), (j11 1), (j11 2)]) es10 ?_)
    obtain rfl := Option.some.inj hN
    exact rfl
def res_value_at_liiii (a : Int) : RF := .ok (eI a) []
def N_value_at_liiii (p_values : (List Int)) (p_period : Int) (p_gain : Int) (p_length : Int) : Option (Int) :=
  if (decide (p_length = 0)) = true then some 0 else if (decide (p_length ≤ ((p_values.length : Int)))) = true then (ixN? p_values (p_length - 1)).bind fun x1 => some x1 else (divN (((p_length - ((p_values.length : Int))) + p_period) - 1) p_period).bind fun x2 => (mulN x2 p_period).bind fun x3 => (ixN? p_values ((p_length - x3) - 1)).bind fun x4 => (mulN x2 p_gain).bind fun x5 => some (x4 + x5)
theorem n_value_at_liiii {p_values : (List Int)} {p_period : Int} {p_gain : Int} {p_length : Int} {a : Int} (hN : N_value_at_liiii p_values p_period p_gain p_length = some a) : F_value_at [.dat ((eL eI) p_values), .dat (eI p_period), .dat (eI p_gain), .dat (eI p_length)] = res_value_at_liiii a := by
  unfold N_value_at_liiii at hN
  refine f_run (k := 0) (S := [.dat ((eL eI) p_values), .dat (eI p_period), .dat (eI p_gain), .dat (eI p_length), .no]) rfl rfl rfl ?_
  unfold m_value_at
  refine s_last ?_
  refine s_assoc ?_
  rcases ite_some hN with ⟨c7, hN⟩ | ⟨c7, hN⟩
  · refine s_ifT (t_truth (x_2 (x_var rfl) x_C rfl)) c7 ?_
    refine s_ret x_C ?_
    obtain rfl := Option.some.inj hN
    exact rfl
  · refine s_ifF (t_truth (x_2 (x_var rfl) x_C rfl)) c7 ?_
    refine s_next ?_
    refine s_assoc ?_
    rcases ite_some hN with ⟨c6, hN⟩ | ⟨c6, hN⟩
    · refine s_ifT (t_truth (x_2 (x_var rfl) (x_call (x_cons (x_var rfl) x_nil) (q_len (f := eI))) rfl)) c6 ?_
      obtain ⟨x1, hx1, hN⟩ := bind_some hN
      refine s_ret (x_2 (x_var rfl) (x_2 (x_var rfl) x_C rfl) (q_ix (f := eI) hx1)) ?_
      obtain rfl := Option.some.inj hN
      exact rfl
    · refine s_ifF (t_truth (x_2 (x_var rfl) (x_call (x_cons (x_var rfl) x_nil) (q_len (f := eI))) rfl)) c6 ?_
      refine s_next ?_
      refine s_assoc ?_
      obtain ⟨x2, hx2, hN⟩ := bind_some hN
      refine s_asg (S2 := [.dat ((eL eI) p_values), .dat (eI p_period), .dat (eI p_gain), .dat (eI p_length), .dat (eI x2)]) (x_2 (x_2 (x_2 (x_2 (x_var rfl) (x_call (x_cons (x_var rfl) x_nil) (q_len (f := eI))) rfl) (x_var rfl) rfl) x_C rfl) (x_var rfl) (q_div hx2)) rfl ?_
      obtain ⟨x3, hx3, hN⟩ := bind_some hN
      obtain ⟨x4, hx4, hN⟩ := bind_some hN
      obtain ⟨x5, hx5, hN⟩ := bind_some hN
      refine s_ret (x_2 (x_2 (x_var rfl) (x_2 (x_2 (x_var rfl) (x_2 (x_var rfl) (x_var rfl) (q_mul hx3)) rfl) x_C rfl) (q_ix (f := eI) hx4)) (x_2 (x_var rfl) (x_var rfl) (q_mul hx5)) rfl) ?_
      obtain rfl := Option.some.inj hN
      exact rfl
def res_check_growth_liii (a : Unit) : RF := .ok (eU a) []
def N_check_growth_liii (p_values : (List Int)) (p_period : Int) (p_gain : Int) : Option (Unit) :=
  (N_is_integer_i p_period).bind fun x1 => (if (!x1) = true then some true else (inB (eI p_period) ((eT eI) ([1, 2, 3, 4, 6, 12]))).bind fun x2 => some ((!x2) || (decide (((p_values.length : Int)) < p_period)))).bind fun x3 => if x3 = true then none else (N_is_count_ii p_gain 2000).bind fun x4 => (if (!x4) = true then some true else (N_value_at_liiii p_values p_period p_gain (((p_values.length : Int)) + 1)).bind fun x5 => (ixN? p_values (-1)).bind fun x6 => some (decide (x5 < x6))).bind fun x7 => if x7 = true then none else some ()
theorem n_check_growth_liii {p_values : (List Int)} {p_period : Int} {p_gain : Int} {a : Unit} (hN : N_check_growth_liii p_values p_period p_gain = some a) : F_check_growth [.dat ((eL eI) p_values), .dat (eI p_period), .dat (eI p_gain)] = res_check_growth_liii a := by
  unfold N_check_growth_liii at hN
  refine f_run (k := 0) (S := [.dat ((eL eI) p_values), .dat (eI p_period), .dat (eI p_gain)]) rfl rfl rfl ?_
  unfold m_check_growth
  refine s_last ?_
  refine s_assoc ?_
  obtain ⟨x1, hx1, hN⟩ := bind_some hN
  obtain ⟨x3, hx3, hN⟩ := bind_some hN
  rcases ite_some hN with ⟨c9, hN⟩ | ⟨c9, hN⟩
  · refine s_ifT (t_orQ (val := fun v => v) (st := fun v => [.dat ((eL eI) p_values), .dat (eI p_period), .dat (eI p_gain)]) (t_not (t_truth (x_callF (fs := [.dat (eI p_period)]) (is := []) (outs := []) (S3 := [.dat ((eL eI) p_values), .dat (eI p_period), .dat (eI p_gain)]) (v_dat (x_var rfl) v_nil) v_nil ⟨rfl, rfl⟩ rfl rfl (n_is_integer_i hx1) rfl))) (fun v hv => by (obtain ⟨x2, hx2, hv⟩ := bind_some hv; obtain rfl := Option.some.inj hv; exact (t_orP (t_truth (x_2 (x_var rfl) x_C (q_notIn hx2))) (t_truth (x_2 (x_var rfl) (x_call (x_cons (x_var rfl) x_nil) (q_len (f := eI))) rfl))))) rfl rfl hx3) c9 ?_
    cases hN
  · refine s_ifF (t_orQ (val := fun v => v) (st := fun v => [.dat ((eL eI) p_values), .dat (eI p_period), .dat (eI p_gain)]) (t_not (t_truth (x_callF (fs := [.dat (eI p_period)]) (is := []) (outs := []) (S3 := [.dat ((eL eI) p_values), .dat (eI p_period), .dat (eI p_gain)]) (v_dat (x_var rfl) v_nil) v_nil ⟨rfl, rfl⟩ rfl rfl (n_is_integer_i hx1) rfl))) (fun v hv => by (obtain ⟨x2, hx2, hv⟩ := bind_some hv; obtain rfl := Option.some.inj hv; exact (t_orP (t_truth (x_2 (x_var rfl) x_C (q_notIn hx2))) (t_truth (x_2 (x_var rfl) (x_call (x_cons (x_var rfl) x_nil) (q_len (f := eI))) rfl))))) rfl rfl hx3) c9 ?_
    refine s_next ?_
    obtain ⟨x4, hx4, hN⟩ := bind_some hN
    obtain ⟨x7, hx7, hN⟩ := bind_some hN
    rcases ite_some hN with ⟨c8, hN⟩ | ⟨c8, hN⟩
    · refine s_ifT (t_orQ (val := fun v => v) (st := fun v => [.dat ((eL eI) p_values), .dat (eI p_period), .dat (eI p_gain)]) (t_not (t_truth (x_callF (fs := [.dat (eI p_gain), .dat (eI 2000)]) (is := []) (outs := []) (S3 := [.dat ((eL eI) p_values), .dat (eI p_period), .dat (eI p_gain)]) (v_dat (x_var rfl) (v_dat x_C v_nil)) v_nil ⟨rfl, rfl⟩ rfl rfl (n_is_count_ii hx4) rfl))) (fun v hv => by (obtain ⟨x5, hx5, hv⟩ := bind_some hv; obtain ⟨x6, hx6, hv⟩ := bind_some hv; obtain rfl := Option.some.inj hv; exact (t_truth (x_2 (x_callF (fs := [.dat ((eL eI) p_values), .dat (eI p_period), .dat (eI p_gain), .dat (eI (((p_values.length : Int)) + 1))]) (is := []) (outs := []) (S3 := [.dat ((eL eI) p_values), .dat (eI p_period), .dat (eI p_gain)]) (v_dat (x_var rfl) (v_dat (x_var rfl) (v_dat (x_var rfl) (v_dat (x_2 (x_call (x_cons (x_var rfl) x_nil) (q_len (f := eI))) x_C rfl) v_nil)))) v_nil ⟨rfl, rfl⟩ rfl rfl (n_value_at_liiii hx5) rfl) (x_2 (x_var rfl) (x_1 x_C rfl) (q_ix (f := eI) hx6)) rfl)))) rfl rfl hx7) c8 ?_
      cases hN
    · refine s_ifF (t_orQ (val := fun v => v) (st := fun v => [.dat ((eL eI) p_values), .dat (eI p_period), .dat (eI p_gain)]) (t_not (t_truth (x_callF (fs := [.dat (eI p_gain), .dat (eI 2000)]) (is := []) (outs := []) (S3 := [.dat ((eL eI) p_values), .dat (eI p_period), .dat (eI p_gain)]) (v_dat (x_var rfl) (v_dat x_C v_nil)) v_nil ⟨rfl, rfl⟩ rfl rfl (n_is_count_ii hx4) rfl))) (fun v hv => by (obtain ⟨x5, hx5, hv⟩ := bind_some hv; obtain ⟨x6, hx6, hv⟩ := bind_some hv; obtain rfl := Option.some.inj hv; exact (t_truth (x_2 (x_callF (fs := [.dat ((eL eI) p_values), .dat (eI p_period), .dat (eI p_gain), .dat (eI (((p_values.length : Int)) + 1))]) (is := []) (outs := []) (S3 := [.dat ((eL eI) p_values), .dat (eI p_period), .dat (eI p_gain)]) (v_dat (x_var rfl) (v_dat (x_var rfl) (v_dat (x_var rfl) (v_dat (x_2 (x_call (x_cons (x_var rfl) x_nil) (q_len (f := eI))) x_C rfl) v_nil)))) v_nil ⟨rfl, rfl⟩ rfl rfl (n_value_at_liiii hx5) rfl) (x_2 (x_var rfl) (x_1 x_C rfl) (q_ix (f := eI) hx6)) rfl)))) rfl rfl hx7) c8 ?_
      refine s_next ?_
      obtain rfl := Option.some.inj hN
      exact rfl
def res_grows_by_liiii (a : (Option Int)) : RF := .ok ((eO eI) a) []
def N_grows_by_liiii_b1 (p_values : (List Int)) (p_period : Int) (p_gain : Int) (p_other : Int) (v4 : Int) (i6 : Int) : Option (Stp ((Option Int)) (Unit)) :=
  (N_value_at_liiii p_values p_period p_gain i6).bind fun x7 => (N_value_at_liiii p_values p_period p_gain (i6 + p_other)).bind fun x8 => if (!decide (x8 - x7 = v4)) = true then some (.rt none) else some (.nx ())
theorem n_grows_by_liiii_b1 (p_values : (List Int)) (p_period : Int) (p_gain : Int) (p_other : Int) (v4 : Int) (v1 : Int) (i6 : Int) {a : Stp ((Option Int)) (Unit)} (hN : N_grows_by_liiii_b1 p_values p_period p_gain p_other v4 i6 = some a) (j : Nat → Slot) : ∃ S1, (gNm 6) (eI i6) [.dat ((eL eI) p_values), .dat (eI p_period), .dat (eI p_gain), .dat (eI p_other), .dat (eI v1), .dat (eI v4), (j 6), (j 7), (j 8)] = .ok () S1 ∧ LB (fun (s : Unit) (j : Nat → Slot) => [.dat ((eL eI) p_values), .dat (eI p_period), .dat (eI p_gain), .dat (eI p_other), .dat (eI v1), .dat (eI v4), (j 6), (j 7), (j 8)]) (RTo 0 (res_grows_by_liiii)) a ((mSeq (mPar 7 8 (mCons (mCallF F_value_at 4 0 (fun as bs => [as.getD 0 (.dat .non), as.getD 1 (.dat .non), as.getD 2 (.dat .non), as.getD 3 (.dat .non)]) (vDat (mVar 0) (vDat (mVar 1) (vDat (mVar 2) (vDat (mVar 6) (vNil))))) vNil) (mCons (mCallF F_value_at 4 0 (fun as bs => [as.getD 0 (.dat .non), as.getD 1 (.dat .non), as.getD 2 (.dat .non), as.getD 3 (.dat .non)]) (vDat (mVar 0) (vDat (mVar 1) (vDat (mVar 2) (vDat (m2 addD (mVar 6) (mVar 3)) (vNil))))) vNil) (mNil))))
    (mIfS (cTruth (m2 neD (m2 subD (mVar 8) (mVar 7)) (mVar 5))) (mRet (mC .non)) (mNext))) S1) := by
  unfold N_grows_by_liiii_b1 at hN
  refine ⟨[.dat ((eL eI) p_values), .dat (eI p_period), .dat (eI p_gain), .dat (eI p_other), .dat (eI v1), .dat (eI v4), .dat (eI i6), (j 7), (j 8)], rfl, ?_⟩
  refine s_last ?_
  refine s_assoc ?_
  obtain ⟨x7, hx7, hN⟩ := bind_some hN
  obtain ⟨x8, hx8, hN⟩ := bind_some hN
  refine s_par (S2 := [.dat ((eL eI) p_values), .dat (eI p_period), .dat (eI p_gain), .dat (eI p_other), .dat (eI v1), .dat (eI v4), .dat (eI i6), .dat (eI x7), .dat (eI x8)]) (ma_eq2 (x_cons (x_callF (fs := [.dat ((eL eI) p_values), .dat (eI p_period), .dat (eI p_gain), .dat (eI i6)]) (is := []) (outs := []) (S3 := [.dat ((eL eI) p_values), .dat (eI p_period), .dat (eI p_gain), .dat (eI p_other), .dat (eI v1), .dat (eI v4), .dat (eI i6), (j 7), (j 8)]) (v_dat (x_var rfl) (v_dat (x_var rfl) (v_dat (x_var rfl) (v_dat (x_var rfl) v_nil)))) v_nil ⟨rfl, rfl⟩ rfl rfl (n_value_at_liiii hx7) rfl) (x_cons (x_callF (fs := [.dat ((eL eI) p_values), .dat (eI p_period), .dat (eI p_gain), .dat (eI (i6 + p_other))]) (is := []) (outs := []) (S3 := [.dat ((eL eI) p_values), .dat (eI p_period), .dat (eI p_gain), .dat (eI p_other), .dat (eI v1), .dat (eI v4), .dat (eI i6), (j 7), (j 8)]) (v_dat (x_var rfl) (v_dat (x_var rfl) (v_dat (x_var rfl) (v_dat (x_2 (x_var rfl) (x_var rfl) rfl) v_nil)))) v_nil ⟨rfl, rfl⟩ rfl rfl (n_value_at_liiii hx8) rfl) x_nil)) rfl rfl) rfl ?_
  rcases ite_some hN with ⟨c9, hN⟩ | ⟨c9, hN⟩
  · refine s_ifT (t_truth (x_2 (x_2 (x_var rfl) (x_var rfl) rfl) (x_var rfl) rfl)) c9 ?_
    refine s_ret x_C ?_
    obtain rfl := Option.some.inj hN
    exact rto_of rfl
  · refine s_ifF (t_truth (x_2 (x_2 (x_var rfl) (x_var rfl) rfl) (x_var rfl) rfl)) c9 ?_
    refine s_next ?_
    obtain rfl := Option.some.inj hN
    exact lb_nx rfl
def N_grows_by_liiii (p_values : (List Int)) (p_period : Int) (p_gain : Int) (p_other : Int) : Option ((Option Int)) :=
  (some (((p_values.length : Int)) + 1)).bind fun v1 => (N_value_at_liiii p_values p_period p_gain (v1 + p_other)).bind fun x2 => (N_value_at_liiii p_values p_period p_gain v1).bind fun x3 => (some (x2 - x3)).bind fun v4 => (range2N v1 (v1 + 12)).bind fun x5 => thenL (ρ := (Option Int)) id (forL (fun (x10 : Int) (s11 : Unit) => N_grows_by_liiii_b1 p_values p_period p_gain p_other v4 x10) x5 ()) fun s12 => some (some v4)
theorem n_grows_by_liiii {p_values : (List Int)} {p_period : Int} {p_gain : Int} {p_other : Int} {a : (Option Int)} (hN : N_grows_by_liiii p_values p_period p_gain p_other = some a) : F_grows_by [.dat ((eL eI) p_values), .dat (eI p_period), .dat (eI p_gain), .dat (eI p_other)] = res_grows_by_liiii a := by
  unfold N_grows_by_liiii at hN
  refine f_run (k := 0) (S := [.dat ((eL eI) p_values), .dat (eI p_period), .dat (eI p_gain), .dat (eI p_other), .no, .no, .no, .no, .no]) rfl rfl rfl ?_
  unfold m_grows_by
  refine s_last ?_
  refine s_assoc ?_
  obtain ⟨v1, hv1, hN⟩ := bind_some hN
  refine s_asg (S2 := [.dat ((eL eI) p_values), .dat (eI p_period), .dat (eI p_gain), .dat (eI p_other), .dat (eI v1), .no, .no, .no, .no]) (x_eq (x_2 (x_call (x_cons (x_var rfl) x_nil) (q_len (f := eI))) x_C rfl) (congrArg eI (Option.some.inj hv1))) rfl ?_
  refine s_assoc ?_
  obtain ⟨x2, hx2, hN⟩ := bind_some hN
  obtain ⟨x3, hx3, hN⟩ := bind_some hN
  obtain ⟨v4, hv4, hN⟩ := bind_some hN
  refine s_asg (S2 := [.dat ((eL eI) p_values), .dat (eI p_period), .dat (eI p_gain), .dat (eI p_other), .dat (eI v1), .dat (eI v4), .no, .no, .no]) (x_eq (x_2 (x_callF (fs := [.dat ((eL eI) p_values), .dat (eI p_period), .dat (eI p_gain), .dat (eI (v1 + p_other))]) (is := []) (outs := []) (S3 := [.dat ((eL eI) p_values), .dat (eI p_period), .dat (eI p_gain), .dat (eI p_other), .dat (eI v1), .no, .no, .no, .no]) (v_dat (x_var rfl) (v_dat (x_var rfl) (v_dat (x_var rfl) (v_dat (x_2 (x_var rfl) (x_var rfl) rfl) v_nil)))) v_nil ⟨rfl, rfl⟩ rfl rfl (n_value_at_liiii hx2) rfl) (x_callF (fs := [.dat ((eL eI) p_values), .dat (eI p_period), .dat (eI p_gain), .dat (eI v1)]) (is := []) (outs := []) (S3 := [.dat ((eL eI) p_values), .dat (eI p_period), .dat (eI p_gain), .dat (eI p_other), .dat (eI v1), .no, .no, .no, .no]) (v_dat (x_var rfl) (v_dat (x_var rfl) (v_dat (x_var rfl) (v_dat (x_var rfl) v_nil)))) v_nil ⟨rfl, rfl⟩ rfl rfl (n_value_at_liiii hx3) rfl) rfl) (congrArg eI (Option.some.inj hv4))) rfl ?_
  refine s_assoc ?_
  obtain ⟨x5, hx5, hN⟩ := bind_some hN
  rcases thenL_some hN with ⟨s12, hs12, hN⟩ | ⟨v14, hs12, hN⟩
  · obtain ⟨j13, es12⟩ : ∃ jx, loopS (gNm 6) (mSeq (mPar 7 8 (mCons (mCallF F_value_at 4 0 (fun as bs => [as.getD 0 (.dat .non), as.getD 1 (.dat .non), as.getD 2 (.dat .non), as.getD 3 (.dat .non)]) (vDat (mVar 0) (vDat (mVar 1) (vDat (mVar 2) (vDat (mVar 6) (vNil))))) vNil) (mCons (mCallF F_value_at 4 0 (fun as bs => [as.getD 0 (.dat .non), as.getD 1 (.dat .non), as.getD 2 (.dat .non), as.getD 3 (.dat .non)]) (vDat (mVar 0) (vDat (mVar 1) (vDat (mVar 2) (vDat (m2 addD (mVar 6) (mVar 3)) (vNil))))) vNil) (mNil))))
    (mIfS (cTruth (m2 neD (m2 subD (mVar 8) (mVar 7)) (mVar 5))) (mRet (mC .non)) (mNext))) (x5.map eI) [.dat ((eL eI) p_values), .dat (eI p_period), .dat (eI p_gain), .dat (eI p_other), .dat (eI v1), .dat (eI v4), .no, .no, .no] = .ok .nx (((fun (s : Unit) (j : Nat → Slot) => [.dat ((eL eI) p_values), .dat (eI p_period), .dat (eI p_gain), .dat (eI p_other), .dat (eI v1), .dat (eI v4), (j 6), (j 7), (j 8)])) s12 jx) := le_nx (forL_ok (T := (fun (s : Unit) (j : Nat → Slot) => [.dat ((eL eI) p_values), .dat (eI p_period), .dat (eI p_gain), .dat (eI p_other), .dat (eI v1), .dat (eI v4), (j 6), (j 7), (j 8)])) (RT := (RTo 0 (res_grows_by_liiii))) (f := eI) rto (fun x10 s11 j z h => n_grows_by_liiii_b1 p_values p_period p_gain p_other v4 v1 x10 h j) x5 () (fun i => List.getD [.dat ((eL eI) p_values), .dat (eI p_period), .dat (eI p_gain), .dat (eI p_other), .dat (eI v1), .dat (eI v4), .no, .no, .no] i .no) _ hs12)
    refine s_for (ds := x5.map eI) (i_its (x_cons (x_var rfl) (x_cons (x_2 (x_var rfl) x_C rfl) x_nil)) (q_range2 hx5)) (s_run (S1 := [.dat ((eL eI) p_values), .dat (eI p_period), .dat (eI p_gain), .dat (eI p_other), .dat (eI v1), .dat (eI v4), (j13 6), (j13 7), (j13 8)]) es12 ?_)
    refine s_ret (x_var rfl) ?_
    obtain rfl := Option.some.inj hN
    exact rfl
  · have es12 : RTo 0 (res_grows_by_liiii) v14 (loopS (gNm 6) (mSeq (mPar 7 8 (mCons (mCallF F_value_at 4 0 (fun as bs => [as.getD 0 (.dat .non), as.getD 1 (.dat .non), as.getD 2 (.dat .non), as.getD 3 (.dat .non)]) (vDat (mVar 0) (vDat (mVar 1) (vDat (mVar 2) (vDat (mVar 6) (vNil))))) vNil) (mCons (mCallF F_value_at 4 0 (fun as bs => [as.getD 0 (.dat .non), as.getD 1 (.dat .non), as.getD 2 (.dat .non), as.getD 3 (.dat .non)]) (vDat (mVar 0) (vDat (mVar 1) (vDat (mVar 2) (vDat (m2 addD (mVar 6) (mVar 3)) (vNil))))) vNil) (mNil))))
    (mIfS (cTruth (m2 neD (m2 subD (mVar 8) (mVar 7)) (mVar 5))) (mRet (mC .non)) (mNext))) (x5.map eI) [.dat ((eL eI) p_values), .dat (eI p_period), .dat (eI p_gain), .dat (eI p_other), .dat (eI v1), .dat (eI v4), .no, .no, .no]) := le_rt (forL_ok (T := (fun (s : Unit) (j : Nat → Slot) => [.dat ((eL eI) p_values), .dat (eI p_period), .dat (eI p_gain), .dat (eI p_other), .dat (eI v1), .dat (eI v4), (j 6), (j 7), (j 8)])) (RT := (RTo 0 (res_grows_by_liiii))) (f := eI) rto (fun x10 s11 j z h => n_grows_by_liiii_b1 p_values p_period p_gain p_other v4 v1 x10 h j) x5 () (fun i => List.getD [.dat ((eL eI) p_values), .dat (eI p_period), .dat (eI p_gain), .dat (eI p_other), .dat (eI v1), .dat (eI v4), .no, .no, .no] i .no) _ hs12)
    subst hN
    exact s_for (ds := x5.map eI) (i_its (x_cons (x_var rfl) (x_cons (x_2 (x_var rfl) x_C rfl) x_nil)) (q_range2 hx5)) (s_rto es12 es12.2)
def res_form_of_liii (a : ((List Int) × Int × Int)) : RF := .ok ((e3 (eL eI) eI eI) a) []
def N_form_of_liii_b1t (x4 : Int) (o6 : Int) (c11 : (List Int)) : Option Bool :=
  (if (decide (x4 < ((c11.length : Int)))) = true then (ixN? c11 (-1)).bind fun x12 => (ixN? c11 ((-1) - x4)).bind fun x13 => some (decide (x12 = x13 + o6)) else some false).bind fun x14 => some x14
theorem n_form_of_liii_b1t (x4 : Int) (o6 : Int) (p_values : (List Int)) (p_period : Int) (p_gain : Int) (c11 : (List Int)) {a : Bool} (hN : N_form_of_liii_b1t x4 o6 c11 = some a) (j : Nat → Slot) : (cAnd (cTruth (m2 gtD (mCallP lenC 5) (mVar 3))) (cTruth (m2 eqD (mIxS 5 (m1 negD (mC (.int 1)))) (m2 addD (mIxS 5 (m2 subD (m1 negD (mC (.int 1))) (mVar 3))) (mVar 4))))) [.dat ((eL eI) p_values), .dat (eI p_period), .dat (eI p_gain), .dat (eI x4), .dat (eI o6), .loc (c11.map eI), .no, .no] = .ok a [.dat ((eL eI) p_values), .dat (eI p_period), .dat (eI p_gain), .dat (eI x4), .dat (eI o6), .loc (c11.map eI), .no, .no] := by
  unfold N_form_of_liii_b1t at hN
  obtain ⟨x14, hx14, hN⟩ := bind_some hN
  obtain rfl := Option.some.inj hN
  exact (t_andQ (val := fun v => v) (st := fun v => [.dat ((eL eI) p_values), .dat (eI p_period), .dat (eI p_gain), .dat (eI x4), .dat (eI o6), .loc (c11.map eI), .no, .no]) (t_truth (x_2 (x_callP rfl rfl (q_len (f := eI)) rfl) (x_var rfl) rfl)) (fun v hv => by (obtain ⟨x12, hx12, hv⟩ := bind_some hv; obtain ⟨x13, hx13, hv⟩ := bind_some hv; obtain rfl := Option.some.inj hv; exact (t_truth (x_2 (x_ixS rfl (x_1 x_C rfl) rfl (q_ix (f := eI) hx12)) (x_2 (x_ixS rfl (x_2 (x_1 x_C rfl) (x_var rfl) rfl) rfl (q_ix (f := eI) hx13)) (x_var rfl) rfl) rfl)))) rfl rfl hx14)
def N_form_of_liii_b1 (c11 : (List Int)) : Option ((List Int)) :=
  (popN c11).bind fun v15 => some v15
theorem n_form_of_liii_b1 (p_values : (List Int)) (p_period : Int) (p_gain : Int) (x4 : Int) (o6 : Int) (c11 : (List Int)) {a : (List Int)} (hN : N_form_of_liii_b1 c11 = some a) (j : Nat → Slot) : LN (fun (s : (List Int)) (j : Nat → Slot) => [.dat ((eL eI) p_values), .dat (eI p_period), .dat (eI p_gain), .dat (eI x4), .dat (eI o6), .loc (s.map eI), .no, .no]) a ((mPop 5) [.dat ((eL eI) p_values), .dat (eI p_period), .dat (eI p_gain), .dat (eI x4), .dat (eI o6), .loc (c11.map eI), .no, .no]) := by
  unfold N_form_of_liii_b1 at hN
  refine s_last ?_
  obtain ⟨v15, hv15, hN⟩ := bind_some hN
  refine s_popL' (S2 := [.dat ((eL eI) p_values), .dat (eI p_period), .dat (eI p_gain), .dat (eI x4), .dat (eI o6), .loc (v15.map eI), .no, .no]) rfl (q_pop (f := eI) hv15) rfl ?_
  obtain rfl := Option.some.inj hN
  exact ln_nx rfl
def N_form_of_liii (p_values : (List Int)) (p_period : Int) (p_gain : Int) : Option (((List Int) × Int × Int)) :=
  (capO (lcO (fun y1 => (N_grows_by_liiii p_values p_period p_gain y1).bind fun x2 => if (x2.isSome) = true then some (some y1) else some none) ([1, 2, 3, 4, 6, 12]))).bind fun x3 => (ixN? x3 0).bind fun x4 => (N_grows_by_liiii p_values p_period p_gain x4).bind fun x5 => (x5).bind fun o6 => (range2N 1 ((((p_values.length : Int)) + 12) + 1)).bind fun x7 => (capO (mapO (fun y8 => (N_value_at_liiii p_values p_period p_gain y8).bind fun x9 => some x9) x7)).bind fun x10 => (whileO (fun (s16 : (List Int)) => N_form_of_liii_b1t x4 o6 s16) (fun (s16 : (List Int)) => N_form_of_liii_b1 s16) x10).bind fun s17 => some ((s17, x4, o6))
theorem n_form_of_liii {p_values : (List Int)} {p_period : Int} {p_gain : Int} {a : ((List Int) × Int × Int)} (hN : N_form_of_liii p_values p_period p_gain = some a) : F_form_of [.dat ((eL eI) p_values), .dat (eI p_period), .dat (eI p_gain)] = res_form_of_liii a := by
  unfold N_form_of_liii at hN
  refine f_run (k := 0) (S := [.dat ((eL eI) p_values), .dat (eI p_period), .dat (eI p_gain), .no, .no, .no, .no, .no]) rfl rfl rfl ?_
  unfold m_form_of
  refine s_last ?_
  refine s_assoc ?_
  obtain ⟨x3, hx3, hN⟩ := bind_some hN
  obtain ⟨x4, hx4, hN⟩ := bind_some hN
  refine s_asg (S2 := [.dat ((eL eI) p_values), .dat (eI p_period), .dat (eI p_gain), .dat (eI x4), .no, .no, .no, .no]) (x_2 (x_lc (lc_O (f := eI) (fo := eI) (nb := fun y1 => (N_grows_by_liiii p_values p_period p_gain y1).bind fun x2 => if (x2.isSome) = true then some (some y1) else some none) (S0 := [.dat ((eL eI) p_values), .dat (eI p_period), .dat (eI p_gain), .no, .no, .no, .no, .no]) (i_items x_C rfl) rfl (fun y1 p hp => by (obtain ⟨x2, hx2, hp⟩ := bind_some hp; rcases ite_some hp with ⟨hc, hp⟩ | ⟨hc, hp⟩; (obtain rfl := Option.some.inj hp; exact ⟨[.dat ((eL eI) p_values), .dat (eI p_period), .dat (eI p_gain), .no, .no, .no, .no, .dat (eI y1)], rfl, _, _, ((t_truth (x_2 (x_callF (fs := [.dat ((eL eI) p_values), .dat (eI p_period), .dat (eI p_gain), .dat (eI y1)]) (is := []) (outs := []) (S3 := [.dat ((eL eI) p_values), .dat (eI p_period), .dat (eI p_gain), .no, .no, .no, .no, .dat (eI y1)]) (v_dat (x_var rfl) (v_dat (x_var rfl) (v_dat (x_var rfl) (v_dat (x_var rfl) v_nil)))) v_nil ⟨rfl, rfl⟩ rfl rfl (n_grows_by_liiii hx2) rfl) x_C (q_notN (f := eI) (fun _ => nofun))))).trans (by rw [hc]), (x_var rfl), rfl⟩); (obtain rfl := Option.some.inj hp; exact ⟨[.dat ((eL eI) p_values), .dat (eI p_period), .dat (eI p_gain), .no, .no, .no, .no, .dat (eI y1)], rfl, _, ((t_truth (x_2 (x_callF (fs := [.dat ((eL eI) p_values), .dat (eI p_period), .dat (eI p_gain), .dat (eI y1)]) (is := []) (outs := []) (S3 := [.dat ((eL eI) p_values), .dat (eI p_period), .dat (eI p_gain), .no, .no, .no, .no, .dat (eI y1)]) (v_dat (x_var rfl) (v_dat (x_var rfl) (v_dat (x_var rfl) (v_dat (x_var rfl) v_nil)))) v_nil ⟨rfl, rfl⟩ rfl rfl (n_grows_by_liiii hx2) rfl) x_C (q_notN (f := eI) (fun _ => nofun))))).trans (by rw [hc]), rfl⟩))) hx3)) x_C (q_ix (f := eI) hx4)) rfl ?_
  refine s_assoc ?_
  obtain ⟨x5, hx5, hN⟩ := bind_some hN
  obtain ⟨o6, ho6, hN⟩ := bind_some hN
  refine s_asg (S2 := [.dat ((eL eI) p_values), .dat (eI p_period), .dat (eI p_gain), .dat (eI x4), .dat (eI o6), .no, .no, .no]) (x_eq (x_callF (fs := [.dat ((eL eI) p_values), .dat (eI p_period), .dat (eI p_gain), .dat (eI x4)]) (is := []) (outs := []) (S3 := [.dat ((eL eI) p_values), .dat (eI p_period), .dat (eI p_gain), .dat (eI x4), .no, .no, .no, .no]) (v_dat (x_var rfl) (v_dat (x_var rfl) (v_dat (x_var rfl) (v_dat (x_var rfl) v_nil)))) v_nil ⟨rfl, rfl⟩ rfl rfl (n_grows_by_liiii hx5) rfl) (congrArg (eO eI) ho6)) rfl ?_
  refine s_assoc ?_
  obtain ⟨x7, hx7, hN⟩ := bind_some hN
  obtain ⟨x10, hx10, hN⟩ := bind_some hN
  refine s_setF (S2 := [.dat ((eL eI) p_values), .dat (eI p_period), .dat (eI p_gain), .dat (eI x4), .dat (eI o6), .loc (x10.map eI), .no, .no]) (lc_mapO (f := eI) (fo := eI) (nb := fun y8 => (N_value_at_liiii p_values p_period p_gain y8).bind fun x9 => some x9) (S0 := [.dat ((eL eI) p_values), .dat (eI p_period), .dat (eI p_gain), .dat (eI x4), .dat (eI o6), .no, .no, .no]) (i_its (x_cons x_C (x_cons (x_2 (x_2 (x_call (x_cons (x_var rfl) x_nil) (q_len (f := eI))) x_C rfl) x_C rfl) x_nil)) (q_range2 hx7)) rfl (fun y8 p hp => by (obtain ⟨x9, hx9, hp⟩ := bind_some hp; obtain rfl := Option.some.inj hp; exact ⟨[.dat ((eL eI) p_values), .dat (eI p_period), .dat (eI p_gain), .dat (eI x4), .dat (eI o6), .no, .dat (eI y8), .no], _, rfl, (x_callF (fs := [.dat ((eL eI) p_values), .dat (eI p_period), .dat (eI p_gain), .dat (eI y8)]) (is := []) (outs := []) (S3 := [.dat ((eL eI) p_values), .dat (eI p_period), .dat (eI p_gain), .dat (eI x4), .dat (eI o6), .no, .dat (eI y8), .no]) (v_dat (x_var rfl) (v_dat (x_var rfl) (v_dat (x_var rfl) (v_dat (x_var rfl) v_nil)))) v_nil ⟨rfl, rfl⟩ rfl rfl (n_value_at_liiii hx9) rfl), rfl⟩)) hx10) rfl ?_
  refine s_assoc ?_
  obtain ⟨s17, hs17, hN⟩ := bind_some hN
  obtain ⟨j18, es17⟩ : ∃ jx, mWhile (cAnd (cTruth (m2 gtD (mCallP lenC 5) (mVar 3))) (cTruth (m2 eqD (mIxS 5 (m1 negD (mC (.int 1)))) (m2 addD (mIxS 5 (m2 subD (m1 negD (mC (.int 1))) (mVar 3))) (mVar 4))))) (mPop 5) [.dat ((eL eI) p_values), .dat (eI p_period), .dat (eI p_gain), .dat (eI x4), .dat (eI o6), .loc (x10.map eI), .no, .no] = .ok .nx (((fun (s : (List Int)) (j : Nat → Slot) => [.dat ((eL eI) p_values), .dat (eI p_period), .dat (eI p_gain), .dat (eI x4), .dat (eI o6), .loc (s.map eI), .no, .no])) s17 jx) := whileO_ok (T := (fun (s : (List Int)) (j : Nat → Slot) => [.dat ((eL eI) p_values), .dat (eI p_period), .dat (eI p_gain), .dat (eI x4), .dat (eI o6), .loc (s.map eI), .no, .no])) (fun s16 j z h => n_form_of_liii_b1t x4 o6 p_values p_period p_gain s16 h j) (fun s16 j z h => n_form_of_liii_b1 p_values p_period p_gain x4 o6 s16 h j) x10 (fun i => List.getD [.dat ((eL eI) p_values), .dat (eI p_period), .dat (eI p_gain), .dat (eI x4), .dat (eI o6), .loc (x10.map eI), .no, .no] i .no) _ hs17
  refine s_run (S1 := [.dat ((eL eI) p_values), .dat (eI p_period), .dat (eI p_gain), .dat (eI x4), .dat (eI o6), .loc (s17.map eI), .no, .no]) es17 ?_
  refine s_ret (x_tup (x_cons (x_varL (S1 := [.dat ((eL eI) p_values), .dat (eI p_period), .dat (eI p_gain), .dat (eI x4), .dat (eI o6), .dat ((eL eI) s17), .no, .no]) rfl rfl) (x_cons (x_var rfl) (x_cons (x_var rfl) x_nil))) (Nat.le_of_ble_eq_true rfl)) ?_
  obtain rfl := Option.some.inj hN
  exact rfl
def res_Curve_init0_liii (a : ((List Int) × Int × Int)) : RF := .ok .non [.obj "Curve" (cCurveF a)]
def N_Curve_init0_liii (p_values : (List Int)) (p_period : Int) (p_gain : Int) : Option (((List Int) × Int × Int)) :=
  (N_check_values_li p_values).bind fun x1 => (N_check_growth_liii p_values p_period p_gain).bind fun x2 => (N_form_of_liii p_values p_period p_gain).bind fun x3 => some ((x3.1, x3.2.1, x3.2.2))
theorem n_Curve_init0_liii {p_values : (List Int)} {p_period : Int} {p_gain : Int} {a : ((List Int) × Int × Int)} (hN : N_Curve_init0_liii p_values p_period p_gain = some a) : F_Curve_init0 [.own (.obj "Curve" []), .dat ((eL eI) p_values), .dat (eI p_period), .dat (eI p_gain)] = res_Curve_init0_liii a := by
  unfold N_Curve_init0_liii at hN
  refine f_run (k := 1) (S := [.own 0 (.obj "Curve" []), .dat ((eL eI) p_values), .dat (eI p_period), .dat (eI p_gain)]) rfl rfl rfl ?_
  unfold m_Curve_init0
  refine s_last ?_
  refine s_assoc ?_
  obtain ⟨x1, hx1, hN⟩ := bind_some hN
  refine s_drop (S1 := [.own 0 (.obj "Curve" []), .dat ((eL eI) p_values), .dat (eI p_period), .dat (eI p_gain)]) (x_callF (fs := [.dat ((eL eI) p_values)]) (is := []) (outs := []) (S3 := [.own 0 (.obj "Curve" []), .dat ((eL eI) p_values), .dat (eI p_period), .dat (eI p_gain)]) (v_dat (x_var rfl) v_nil) v_nil ⟨rfl, rfl⟩ rfl rfl (n_check_values_li hx1) rfl) ?_
  refine s_assoc ?_
  obtain ⟨x2, hx2, hN⟩ := bind_some hN
  refine s_drop (S1 := [.own 0 (.obj "Curve" []), .dat ((eL eI) p_values), .dat (eI p_period), .dat (eI p_gain)]) (x_callF (fs := [.dat ((eL eI) p_values), .dat (eI p_period), .dat (eI p_gain)]) (is := []) (outs := []) (S3 := [.own 0 (.obj "Curve" []), .dat ((eL eI) p_values), .dat (eI p_period), .dat (eI p_gain)]) (v_dat (x_var rfl) (v_dat (x_var rfl) (v_dat (x_var rfl) v_nil))) v_nil ⟨rfl, rfl⟩ rfl rfl (n_check_growth_liii hx2) rfl) ?_
  obtain ⟨x3, hx3, hN⟩ := bind_some hN
  refine s_asgG (S2 := [.own 0 (.obj "Curve" [("value_list", (eL eI) x3.1), ("own_period", eI x3.2.1), ("own_gain", eI x3.2.2)]), .dat ((eL eI) p_values), .dat (eI p_period), .dat (eI p_gain)]) (x_callF (fs := [.dat ((eL eI) p_values), .dat (eI p_period), .dat (eI p_gain)]) (is := []) (outs := []) (S3 := [.own 0 (.obj "Curve" []), .dat ((eL eI) p_values), .dat (eI p_period), .dat (eI p_gain)]) (v_dat (x_var rfl) (v_dat (x_var rfl) (v_dat (x_var rfl) v_nil))) v_nil ⟨rfl, rfl⟩ rfl rfl (n_form_of_liii hx3) rfl) (g_tp rfl (g_cs (g_fld' (S1 := [.own 0 (.obj "Curve" [("value_list", (eL eI) x3.1)]), .dat ((eL eI) p_values), .dat (eI p_period), .dat (eI p_gain)]) rfl ⟨by decide, by simp⟩ pt_Curve_0 rfl) (g_cs (g_fld' (S1 := [.own 0 (.obj "Curve" [("value_list", (eL eI) x3.1), ("own_period", eI x3.2.1)]), .dat ((eL eI) p_values), .dat (eI p_period), .dat (eI p_gain)]) rfl ⟨by decide, by simp⟩ pt_Curve_1 rfl) (g_cs (g_fld' (S1 := [.own 0 (.obj "Curve" [("value_list", (eL eI) x3.1), ("own_period", eI x3.2.1), ("own_gain", eI x3.2.2)]), .dat ((eL eI) p_values), .dat (eI p_period), .dat (eI p_gain)]) rfl ⟨by decide, by simp⟩ pt_Curve_2 rfl) g_nl)))) ?_
  obtain rfl := Option.some.inj hN
  exact rfl
def res_l_walked (a : (List Int)) : RF := .ok ((eL eI) a) []
def N_l_walked_b2t (p_row : ((List Int) × Int × Int)) (c2 : (List Int)) (c7 : Int) : Option Bool :=
  (catN c2 ([c7])).bind fun x8 => (N_l_ends_well p_row x8).bind fun x9 => some (!x9)
theorem n_l_walked_b2t (p_row : ((List Int) × Int × Int)) (c2 : (List Int)) (p_units : (List Int)) (i1 : Int) (v4 : Int) (c7 : Int) {a : Bool} (hN : N_l_walked_b2t p_row c2 c7 = some a) (j : Nat → Slot) : (cNot (cTruth (mCallF F_l_ends_well 2 0 (fun as bs => [as.getD 0 (.dat .non), as.getD 1 (.dat .non)]) (vDat (mVar 0) (vDat (mCatL 3 (mLst (mCons (mVar 5) (mNil)))) (vNil))) vNil))) [.dat ((e3 (eL eI) eI eI) p_row), .dat ((eL eI) p_units), .dat (eI i1), .loc (c2.map eI), .dat (eI v4), .dat (eI c7)] = .ok a [.dat ((e3 (eL eI) eI eI) p_row), .dat ((eL eI) p_units), .dat (eI i1), .loc (c2.map eI), .dat (eI v4), .dat (eI c7)] := by
  unfold N_l_walked_b2t at hN
  obtain ⟨x8, hx8, hN⟩ := bind_some hN
  obtain ⟨x9, hx9, hN⟩ := bind_some hN
  obtain rfl := Option.some.inj hN
  exact (t_not (t_truth (x_callF (fs := [.dat ((e3 (eL eI) eI eI) p_row), .dat ((eL eI) x8)]) (is := []) (outs := []) (S3 := [.dat ((e3 (eL eI) eI eI) p_row), .dat ((eL eI) p_units), .dat (eI i1), .loc (c2.map eI), .dat (eI v4), .dat (eI c7)]) (v_dat (x_var rfl) (v_dat (x_catL (f := eI) rfl (x_eq (x_lst (x_cons (x_var rfl) x_nil) (Nat.le_of_ble_eq_true rfl)) (by rfl)) rfl hx8) v_nil)) v_nil ⟨rfl, rfl⟩ rfl rfl (n_l_ends_well hx9) rfl)))
def N_l_walked_b2 (c7 : Int) : Option (Int) :=
  (some (c7 - 1)).bind fun v10 => some v10
theorem n_l_walked_b2 (p_row : ((List Int) × Int × Int)) (p_units : (List Int)) (i1 : Int) (c2 : (List Int)) (v4 : Int) (c7 : Int) {a : Int} (hN : N_l_walked_b2 c7 = some a) (j : Nat → Slot) : LN (fun (s : Int) (j : Nat → Slot) => [.dat ((e3 (eL eI) eI eI) p_row), .dat ((eL eI) p_units), .dat (eI i1), .loc (c2.map eI), .dat (eI v4), .dat (eI s)]) a ((mAsg (m2 subD (mVar 5) (mC (.int 1))) (gNm 5)) [.dat ((e3 (eL eI) eI eI) p_row), .dat ((eL eI) p_units), .dat (eI i1), .loc (c2.map eI), .dat (eI v4), .dat (eI c7)]) := by
  unfold N_l_walked_b2 at hN
  refine s_last ?_
  obtain ⟨v10, hv10, hN⟩ := bind_some hN
  refine s_asg (S2 := [.dat ((e3 (eL eI) eI eI) p_row), .dat ((eL eI) p_units), .dat (eI i1), .loc (c2.map eI), .dat (eI v4), .dat (eI v10)]) (x_eq (x_2 (x_var rfl) x_C rfl) (congrArg eI (Option.some.inj hv10))) rfl ?_
  obtain rfl := Option.some.inj hN
  exact ln_nx rfl
def N_l_walked_b1 (p_row : ((List Int) × Int × Int)) (i1 : Int) (c2 : (List Int)) (c3 : Int) : Option ((List Int) × Int) :=
  (some (c3 + i1)).bind fun v4 => (N_l_at p_row 1).bind fun x5 => (some (min v4 x5)).bind fun v6 => (whileO (fun (s11 : Int) => N_l_walked_b2t p_row c2 s11) (fun (s11 : Int) => N_l_walked_b2 s11) v6).bind fun s12 => (appN c2 s12).bind fun v14 => (some (v4 - s12)).bind fun v15 => some ((v14, v15))
theorem n_l_walked_b1 (p_row : ((List Int) × Int × Int)) (p_units : (List Int)) (i1 : Int) (c2 : (List Int)) (c3 : Int) {a : (List Int) × Int} (hN : N_l_walked_b1 p_row i1 c2 c3 = some a) (j : Nat → Slot) : ∃ S1, (gNm 2) (eI i1) [.dat ((e3 (eL eI) eI eI) p_row), .dat ((eL eI) p_units), (j 2), .loc (c2.map eI), .dat (eI c3), (j 5)] = .ok () S1 ∧ LN (fun (s : (List Int) × Int) (j : Nat → Slot) => [.dat ((e3 (eL eI) eI eI) p_row), .dat ((eL eI) p_units), (j 2), .loc (s.1.map eI), .dat (eI s.2), (j 5)]) a ((mSeq (mAsg (m2 addD (mVar 4) (mVar 2)) (gNm 4))
    (mSeq (mAsg (mCall minC (mCons (mVar 4) (mCons (mCallF F_l_at 2 0 (fun as bs => [as.getD 0 (.dat .non), as.getD 1 (.dat .non)]) (vDat (mVar 0) (vDat (mC (.int 1)) (vNil))) vNil) (mNil)))) (gNm 5))
    (mSeq (mWhile (cNot (cTruth (mCallF F_l_ends_well 2 0 (fun as bs => [as.getD 0 (.dat .non), as.getD 1 (.dat .non)]) (vDat (mVar 0) (vDat (mCatL 3 (mLst (mCons (mVar 5) (mNil)))) (vNil))) vNil))) (mAsg (m2 subD (mVar 5) (mC (.int 1))) (gNm 5)))
    (mSeq (mApp 3 (mVar 5))
    (mAsg (m2 subD (mVar 4) (mVar 5)) (gNm 4)))))) S1) := by
  unfold N_l_walked_b1 at hN
  refine ⟨[.dat ((e3 (eL eI) eI eI) p_row), .dat ((eL eI) p_units), .dat (eI i1), .loc (c2.map eI), .dat (eI c3), (j 5)], rfl, ?_⟩
  refine s_last ?_
  refine s_assoc ?_
  obtain ⟨v4, hv4, hN⟩ := bind_some hN
  refine s_asg (S2 := [.dat ((e3 (eL eI) eI eI) p_row), .dat ((eL eI) p_units), .dat (eI i1), .loc (c2.map eI), .dat (eI v4), (j 5)]) (x_eq (x_2 (x_var rfl) (x_var rfl) rfl) (congrArg eI (Option.some.inj hv4))) rfl ?_
  refine s_assoc ?_
  obtain ⟨x5, hx5, hN⟩ := bind_some hN
  obtain ⟨v6, hv6, hN⟩ := bind_some hN
  refine s_asg (S2 := [.dat ((e3 (eL eI) eI eI) p_row), .dat ((eL eI) p_units), .dat (eI i1), .loc (c2.map eI), .dat (eI v4), .dat (eI v6)]) (x_eq (x_call (x_cons (x_var rfl) (x_cons (x_callF (fs := [.dat ((e3 (eL eI) eI eI) p_row), .dat (eI 1)]) (is := []) (outs := []) (S3 := [.dat ((e3 (eL eI) eI eI) p_row), .dat ((eL eI) p_units), .dat (eI i1), .loc (c2.map eI), .dat (eI v4), (j 5)]) (v_dat (x_var rfl) (v_dat x_C v_nil)) v_nil ⟨rfl, rfl⟩ rfl rfl (n_l_at hx5) rfl) x_nil)) q_min2) (congrArg eI (Option.some.inj hv6))) rfl ?_
  refine s_assoc ?_
  obtain ⟨s12, hs12, hN⟩ := bind_some hN
  obtain ⟨j13, es12⟩ : ∃ jx, mWhile (cNot (cTruth (mCallF F_l_ends_well 2 0 (fun as bs => [as.getD 0 (.dat .non), as.getD 1 (.dat .non)]) (vDat (mVar 0) (vDat (mCatL 3 (mLst (mCons (mVar 5) (mNil)))) (vNil))) vNil))) (mAsg (m2 subD (mVar 5) (mC (.int 1))) (gNm 5)) [.dat ((e3 (eL eI) eI eI) p_row), .dat ((eL eI) p_units), .dat (eI i1), .loc (c2.map eI), .dat (eI v4), .dat (eI v6)] = .ok .nx (((fun (s : Int) (j : Nat → Slot) => [.dat ((e3 (eL eI) eI eI) p_row), .dat ((eL eI) p_units), .dat (eI i1), .loc (c2.map eI), .dat (eI v4), .dat (eI s)])) s12 jx) := whileO_ok (T := (fun (s : Int) (j : Nat → Slot) => [.dat ((e3 (eL eI) eI eI) p_row), .dat ((eL eI) p_units), .dat (eI i1), .loc (c2.map eI), .dat (eI v4), .dat (eI s)])) (fun s11 j z h => n_l_walked_b2t p_row c2 p_units i1 v4 s11 h j) (fun s11 j z h => n_l_walked_b2 p_row p_units i1 c2 v4 s11 h j) v6 (fun i => List.getD [.dat ((e3 (eL eI) eI eI) p_row), .dat ((eL eI) p_units), .dat (eI i1), .loc (c2.map eI), .dat (eI v4), .dat (eI v6)] i .no) _ hs12
  refine s_run (S1 := [.dat ((e3 (eL eI) eI eI) p_row), .dat ((eL eI) p_units), .dat (eI i1), .loc (c2.map eI), .dat (eI v4), .dat (eI s12)]) es12 ?_
  refine s_assoc ?_
  obtain ⟨v14, hv14, hN⟩ := bind_some hN
  refine s_appL' (S2 := [.dat ((e3 (eL eI) eI eI) p_row), .dat ((eL eI) p_units), .dat (eI i1), .loc (v14.map eI), .dat (eI v4), .dat (eI s12)]) rfl (x_var rfl) rfl (q_app (f := eI) hv14) rfl ?_
  obtain ⟨v15, hv15, hN⟩ := bind_some hN
  refine s_asg (S2 := [.dat ((e3 (eL eI) eI eI) p_row), .dat ((eL eI) p_units), .dat (eI i1), .loc (v14.map eI), .dat (eI v15), .dat (eI s12)]) (x_eq (x_2 (x_var rfl) (x_var rfl) rfl) (congrArg eI (Option.some.inj hv15))) rfl ?_
  obtain rfl := Option.some.inj hN
  exact ln_nx rfl
def N_l_walked (p_row : ((List Int) × Int × Int)) (p_units : (List Int)) : Option ((List Int)) :=
  (foldO (fun (x16 : Int) (s17 : (List Int) × Int) => N_l_walked_b1 p_row x16 s17.1 s17.2) p_units (([]), 0)).bind fun s18 => some s18.1
theorem n_l_walked {p_row : ((List Int) × Int × Int)} {p_units : (List Int)} {a : (List Int)} (hN : N_l_walked p_row p_units = some a) : F_l_walked [.dat ((e3 (eL eI) eI eI) p_row), .dat ((eL eI) p_units)] = res_l_walked a := by
  unfold N_l_walked at hN
  refine f_run (k := 0) (S := [.dat ((e3 (eL eI) eI eI) p_row), .dat ((eL eI) p_units), .no, .no, .no, .no]) rfl rfl rfl ?_
  unfold m_l_walked
  refine s_last ?_
  refine s_assoc ?_
  refine s_parF (S3 := [.dat ((e3 (eL eI) eI eI) p_row), .dat ((eL eI) p_units), .no, .loc (([]).map eI), .dat (eI 0), .no]) (l_lst x_nil (Nat.le_of_ble_eq_true rfl)) x_C rfl ?_
  refine s_assoc ?_
  obtain ⟨s18, hs18, hN⟩ := bind_some hN
  obtain ⟨j19, es18⟩ : ∃ jx, loopS (gNm 2) (mSeq (mAsg (m2 addD (mVar 4) (mVar 2)) (gNm 4))
    (mSeq (mAsg (mCall minC (mCons (mVar 4) (mCons (mCallF F_l_at 2 0 (fun as bs => [as.getD 0 (.dat .non), as.getD 1 (.dat .non)]) (vDat (mVar 0) (vDat (mC (.int 1)) (vNil))) vNil) (mNil)))) (gNm 5))
    (mSeq (mWhile (cNot (cTruth (mCallF F_l_ends_well 2 0 (fun as bs => [as.getD 0 (.dat .non), as.getD 1 (.dat .non)]) (vDat (mVar 0) (vDat (mCatL 3 (mLst (mCons (mVar 5) (mNil)))) (vNil))) vNil))) (mAsg (m2 subD (mVar 5) (mC (.int 1))) (gNm 5)))
    (mSeq (mApp 3 (mVar 5))
    (mAsg (m2 subD (mVar 4) (mVar 5)) (gNm 4)))))) (p_units.map eI) [.dat ((e3 (eL eI) eI eI) p_row), .dat ((eL eI) p_units), .no, .loc (([]).map eI), .dat (eI 0), .no] = .ok .nx (((fun (s : (List Int) × Int) (j : Nat → Slot) => [.dat ((e3 (eL eI) eI eI) p_row), .dat ((eL eI) p_units), (j 2), .loc (s.1.map eI), .dat (eI s.2), (j 5)])) s18 jx) := foldO_ok (T := (fun (s : (List Int) × Int) (j : Nat → Slot) => [.dat ((e3 (eL eI) eI eI) p_row), .dat ((eL eI) p_units), (j 2), .loc (s.1.map eI), .dat (eI s.2), (j 5)])) (f := eI) (fun x16 s17 j z h => n_l_walked_b1 p_row p_units x16 s17.1 s17.2 h j) p_units (([]), 0) (fun i => List.getD [.dat ((e3 (eL eI) eI eI) p_row), .dat ((eL eI) p_units), .no, .loc (([]).map eI), .dat (eI 0), .no] i .no) _ hs18
  refine s_for (ds := p_units.map eI) (i_items (x_var rfl) rfl) (s_run (S1 := [.dat ((e3 (eL eI) eI eI) p_row), .dat ((eL eI) p_units), (j19 2), .loc (s18.1.map eI), .dat (eI s18.2), (j19 5)]) es18 ?_)
  refine s_ret (x_varL (S1 := [.dat ((e3 (eL eI) eI eI) p_row), .dat ((eL eI) p_units), (j19 2), .dat ((eL eI) s18.1), .dat (eI s18.2), (j19 5)]) rfl rfl) ?_
  obtain rfl := Option.some.inj hN
  exact rfl
def res_is_count_in (a : Bool) : RF := .ok (eB a) []
def N_is_count_in (p_value : Int) (p_most : Unit) : Option (Bool) :=
  (N_is_integer_i p_value).bind fun x1 => some (x1 && ((decide (0 ≤ p_value)) && true))
theorem n_is_count_in {p_value : Int} {p_most : Unit} {a : Bool} (hN : N_is_count_in p_value p_most = some a) : F_is_count [.dat (eI p_value), .dat (eU p_most)] = res_is_count_in a := by
  unfold N_is_count_in at hN
  refine f_run (k := 0) (S := [.dat (eI p_value), .dat (eU p_most)]) rfl rfl rfl ?_
  unfold m_is_count
  refine s_last ?_
  obtain ⟨x1, hx1, hN⟩ := bind_some hN
  refine s_ret (x_andP (x_callF (fs := [.dat (eI p_value)]) (is := []) (outs := []) (S3 := [.dat (eI p_value), .dat (eU p_most)]) (v_dat (x_var rfl) v_nil) v_nil ⟨rfl, rfl⟩ rfl rfl (n_is_integer_i hx1) rfl) (x_andP (x_2 (x_var rfl) x_C rfl) (x_orT (x_2 (x_var rfl) x_C rfl)))) ?_
  obtain rfl := Option.some.inj hN
  exact rfl
def res_check_record_li (a : Unit) : RF := .ok (eU a) []
def N_check_record_li_b1 (i1 : Int) (i2 : Int) : Option (Unit) :=
  (N_is_count_in i2 ()).bind fun x3 => if (!x3) = true then none else some ()
theorem n_check_record_li_b1 (p_value : (List Int)) (i1 : Int) (i2 : Int) {a : Unit} (hN : N_check_record_li_b1 i1 i2 = some a) (j : Nat → Slot) : ∃ S1, (gTpN 2 (gCs (gNm 1) (gCs (gNm 2) (gNl)))) ((e2 eI eI) (i1, i2)) [.dat ((eL eI) p_value), (j 1), (j 2)] = .ok () S1 ∧ LN (fun (s : Unit) (j : Nat → Slot) => [.dat ((eL eI) p_value), (j 1), (j 2)]) a ((mIfS (cNot (cTruth (mCallF F_is_count 1 0 (fun as bs => [as.getD 0 (.dat .non), .dat (.non)]) (vDat (mVar 2) (vNil)) vNil))) (mNever) (mNext)) S1) := by
  unfold N_check_record_li_b1 at hN
  refine ⟨[.dat ((eL eI) p_value), .dat (eI i1), .dat (eI i2)], rfl, ?_⟩
  refine s_last ?_
  obtain ⟨x3, hx3, hN⟩ := bind_some hN
  rcases ite_some hN with ⟨c4, hN⟩ | ⟨c4, hN⟩
  · refine s_ifT (t_not (t_truth (x_callF (fs := [.dat (eI i2), .dat (eU ())]) (is := []) (outs := []) (S3 := [.dat ((eL eI) p_value), .dat (eI i1), .dat (eI i2)]) (v_dat (x_var rfl) v_nil) v_nil ⟨rfl, rfl⟩ rfl rfl (n_is_count_in hx3) rfl))) c4 ?_
    cases hN
  · refine s_ifF (t_not (t_truth (x_callF (fs := [.dat (eI i2), .dat (eU ())]) (is := []) (outs := []) (S3 := [.dat ((eL eI) p_value), .dat (eI i1), .dat (eI i2)]) (v_dat (x_var rfl) v_nil) v_nil ⟨rfl, rfl⟩ rfl rfl (n_is_count_in hx3) rfl))) c4 ?_
    refine s_next ?_
    obtain rfl := Option.some.inj hN
    exact ln_nx rfl
def N_check_record_li (p_value : (List Int)) : Option (Unit) :=
  (foldO (fun (x5 : (Int × Int)) (s6 : Unit) => N_check_record_li_b1 x5.1 x5.2) (enumN 0 p_value) ()).bind fun s7 => some ()
theorem n_check_record_li {p_value : (List Int)} {a : Unit} (hN : N_check_record_li p_value = some a) : F_check_record [.dat ((eL eI) p_value)] = res_check_record_li a := by
  unfold N_check_record_li at hN
  refine f_run (k := 0) (S := [.dat ((eL eI) p_value), .no, .no]) rfl rfl rfl ?_
  unfold m_check_record
  refine s_last ?_
  refine s_assoc ?_
  refine s_ifF (t_not (t_truth (x_1 (c := .bl true) (x_var rfl) (by simp [isiT, List.lookup])))) rfl ?_
  refine s_next ?_
  obtain ⟨s7, hs7, hN⟩ := bind_some hN
  obtain ⟨j8, es7⟩ : ∃ jx, loopS (gTpN 2 (gCs (gNm 1) (gCs (gNm 2) (gNl)))) (mIfS (cNot (cTruth (mCallF F_is_count 1 0 (fun as bs => [as.getD 0 (.dat .non), .dat (.non)]) (vDat (mVar 2) (vNil)) vNil))) (mNever) (mNext)) ((enumN 0 p_value).map (e2 eI eI)) [.dat ((eL eI) p_value), .no, .no] = .ok .nx (((fun (s : Unit) (j : Nat → Slot) => [.dat ((eL eI) p_value), (j 1), (j 2)])) s7 jx) := foldO_ok (T := (fun (s : Unit) (j : Nat → Slot) => [.dat ((eL eI) p_value), (j 1), (j 2)])) (f := (e2 eI eI)) (fun x5 s6 j z h => n_check_record_li_b1 p_value x5.1 x5.2 h j) (enumN 0 p_value) () (fun i => List.getD [.dat ((eL eI) p_value), .no, .no] i .no) _ hs7
  refine s_for (ds := (enumN 0 p_value).map (e2 eI eI)) (i_its (x_cons (x_var rfl) x_nil) (q_enum (f := eI))) (s_run (S1 := [.dat ((eL eI) p_value), (j8 1), (j8 2)]) es7 ?_)
  obtain rfl := Option.some.inj hN
  exact rfl
def res_Curve_at_Ci (a : Int) : RF := .ok (eI a) []
def N_Curve_at_Ci (p_self : ((List Int) × Int × Int)) (p_length : Int) : Option (Int) :=
  (N_is_count_in p_length ()).bind fun x1 => if (!x1) = true then none else (N_value_at_liiii p_self.1 p_self.2.1 p_self.2.2 p_length).bind fun x2 => some x2
theorem n_Curve_at_Ci {p_self : ((List Int) × Int × Int)} {p_length : Int} {a : Int} (hN : N_Curve_at_Ci p_self p_length = some a) : F_Curve_at [.dat (cCurve p_self), .dat (eI p_length)] = res_Curve_at_Ci a := by
  unfold N_Curve_at_Ci at hN
  refine f_run (k := 0) (S := [.dat (cCurve p_self), .dat (eI p_length)]) rfl rfl rfl ?_
  unfold m_Curve_at
  refine s_last ?_
  refine s_assoc ?_
  obtain ⟨x1, hx1, hN⟩ := bind_some hN
  rcases ite_some hN with ⟨c3, hN⟩ | ⟨c3, hN⟩
  · refine s_ifT (t_not (t_truth (x_callF (fs := [.dat (eI p_length), .dat (eU ())]) (is := []) (outs := []) (S3 := [.dat (cCurve p_self), .dat (eI p_length)]) (v_dat (x_var rfl) v_nil) v_nil ⟨rfl, rfl⟩ rfl rfl (n_is_count_in hx1) rfl))) c3 ?_
    cases hN
  · refine s_ifF (t_not (t_truth (x_callF (fs := [.dat (eI p_length), .dat (eU ())]) (is := []) (outs := []) (S3 := [.dat (cCurve p_self), .dat (eI p_length)]) (v_dat (x_var rfl) v_nil) v_nil ⟨rfl, rfl⟩ rfl rfl (n_is_count_in hx1) rfl))) c3 ?_
    refine s_next ?_
    obtain ⟨x2, hx2, hN⟩ := bind_some hN
    refine s_ret (x_callF (fs := [.dat ((eL eI) p_self.1), .dat (eI p_self.2.1), .dat (eI p_self.2.2), .dat (eI p_length)]) (is := []) (outs := []) (S3 := [.dat (cCurve p_self), .dat (eI p_length)]) (v_dat (x_1 (x_var rfl) (fl_Curve_value_list _ (by decide))) (v_dat (x_1 (x_var rfl) (fl_Curve_own_period _ (by decide))) (v_dat (x_1 (x_var rfl) (fl_Curve_own_gain _ (by decide))) (v_dat (x_var rfl) v_nil)))) v_nil ⟨rfl, rfl⟩ rfl rfl (n_value_at_liiii hx2) rfl) ?_
    obtain rfl := Option.some.inj hN
    exact rfl
def res_Curve_find_break_C (a : (Option (Int × Int))) : RF := .ok ((eO (e2 eI eI)) a) []
def N_Curve_find_break_C_b2 (p_self : ((List Int) × Int × Int)) (i3 : Int) (i5 : Int) : Option (Stp ((Option (Int × Int))) (Unit)) :=
  (N_Curve_at_Ci p_self i3).bind fun x6 => (N_Curve_at_Ci p_self i5).bind fun x7 => (N_Curve_at_Ci p_self (i3 - i5)).bind fun x8 => if (decide ((x7 + x8) < x6)) = true then some (.rt (some ((i5, i3 - i5)))) else some (.nx ())
theorem n_Curve_find_break_C_b2 (p_self : ((List Int) × Int × Int)) (i3 : Int) (v1 : Int) (i5 : Int) {a : Stp ((Option (Int × Int))) (Unit)} (hN : N_Curve_find_break_C_b2 p_self i3 i5 = some a) (j : Nat → Slot) : ∃ S1, (gNm 3) (eI i5) [.dat (cCurve p_self), .dat (eI v1), .dat (eI i3), (j 3)] = .ok () S1 ∧ LB (fun (s : Unit) (j : Nat → Slot) => [.dat (cCurve p_self), .dat (eI v1), .dat (eI i3), (j 3)]) (RTo 0 (res_Curve_find_break_C)) a ((mIfS (cTruth (m2 gtD (mMeth ["Curve"] "at" F_Curve_at 1 (fun as bs => [as.getD 0 (.dat .non), as.getD 1 (.dat .non)]) (mVar 0) (vDat (mVar 2) (vNil))) (m2 addD (mMeth ["Curve"] "at" F_Curve_at 1 (fun as bs => [as.getD 0 (.dat .non), as.getD 1 (.dat .non)]) (mVar 0) (vDat (mVar 3) (vNil))) (mMeth ["Curve"] "at" F_Curve_at 1 (fun as bs => [as.getD 0 (.dat .non), as.getD 1 (.dat .non)]) (mVar 0) (vDat (m2 subD (mVar 2) (mVar 3)) (vNil)))))) (mRet (mTup (mCons (mVar 3) (mCons (m2 subD (mVar 2) (mVar 3)) (mNil))))) (mNext)) S1) := by
  unfold N_Curve_find_break_C_b2 at hN
  refine ⟨[.dat (cCurve p_self), .dat (eI v1), .dat (eI i3), .dat (eI i5)], rfl, ?_⟩
  refine s_last ?_
  obtain ⟨x6, hx6, hN⟩ := bind_some hN
  obtain ⟨x7, hx7, hN⟩ := bind_some hN
  obtain ⟨x8, hx8, hN⟩ := bind_some hN
  rcases ite_some hN with ⟨c9, hN⟩ | ⟨c9, hN⟩
  · refine s_ifT (t_truth (x_2 (x_meth (gs := cCurveF p_self) (fs := [.dat (cCurve p_self), .dat (eI i3)]) (is := []) (outs := []) (S3 := [.dat (cCurve p_self), .dat (eI v1), .dat (eI i3), .dat (eI i5)]) (x_var rfl) (ml_Curve_at _ (by decide)) (v_dat (x_var rfl) v_nil) rfl rfl rfl (n_Curve_at_Ci hx6) rfl) (x_2 (x_meth (gs := cCurveF p_self) (fs := [.dat (cCurve p_self), .dat (eI i5)]) (is := []) (outs := []) (S3 := [.dat (cCurve p_self), .dat (eI v1), .dat (eI i3), .dat (eI i5)]) (x_var rfl) (ml_Curve_at _ (by decide)) (v_dat (x_var rfl) v_nil) rfl rfl rfl (n_Curve_at_Ci hx7) rfl) (x_meth (gs := cCurveF p_self) (fs := [.dat (cCurve p_self), .dat (eI (i3 - i5))]) (is := []) (outs := []) (S3 := [.dat (cCurve p_self), .dat (eI v1), .dat (eI i3), .dat (eI i5)]) (x_var rfl) (ml_Curve_at _ (by decide)) (v_dat (x_2 (x_var rfl) (x_var rfl) rfl) v_nil) rfl rfl rfl (n_Curve_at_Ci hx8) rfl) rfl) rfl)) c9 ?_
    refine s_ret (x_tup (x_cons (x_var rfl) (x_cons (x_2 (x_var rfl) (x_var rfl) rfl) x_nil)) (Nat.le_of_ble_eq_true rfl)) ?_
    obtain rfl := Option.some.inj hN
    exact rto_of rfl
  · refine s_ifF (t_truth (x_2 (x_meth (gs := cCurveF p_self) (fs := [.dat (cCurve p_self), .dat (eI i3)]) (is := []) (outs := []) (S3 := [.dat (cCurve p_self), .dat (eI v1), .dat (eI i3), .dat (eI i5)]) (x_var rfl) (ml_Curve_at _ (by decide)) (v_dat (x_var rfl) v_nil) rfl rfl rfl (n_Curve_at_Ci hx6) rfl) (x_2 (x_meth (gs := cCurveF p_self) (fs := [.dat (cCurve p_self), .dat (eI i5)]) (is := []) (outs := []) (S3 := [.dat (cCurve p_self), .dat (eI v1), .dat (eI i3), .dat (eI i5)]) (x_var rfl) (ml_Curve_at _ (by decide)) (v_dat (x_var rfl) v_nil) rfl rfl rfl (n_Curve_at_Ci hx7) rfl) (x_meth (gs := cCurveF p_self) (fs := [.dat (cCurve p_self), .dat (eI (i3 - i5))]) (is := []) (outs := []) (S3 := [.dat (cCurve p_self), .dat (eI v1), .dat (eI i3), .dat (eI i5)]) (x_var rfl) (ml_Curve_at _ (by decide)) (v_dat (x_2 (x_var rfl) (x_var rfl) rfl) v_nil) rfl rfl rfl (n_Curve_at_Ci hx8) rfl) rfl) rfl)) c9 ?_
    refine s_next ?_
    obtain rfl := Option.some.inj hN
    exact lb_nx rfl
def N_Curve_find_break_C_b1 (p_self : ((List Int) × Int × Int)) (v1 : Int) (i3 : Int) : Option (Stp ((Option (Int × Int))) (Unit)) :=
  (range2N (max 1 (i3 - v1)) ((i3 / 2) + 1)).bind fun x4 => thenL (ρ := (Option (Int × Int))) Stp.rt (forL (fun (x10 : Int) (s11 : Unit) => N_Curve_find_break_C_b2 p_self i3 x10) x4 ()) fun s12 => some (.nx ())
theorem n_Curve_find_break_C_b1 (p_self : ((List Int) × Int × Int)) (v1 : Int) (i3 : Int) {a : Stp ((Option (Int × Int))) (Unit)} (hN : N_Curve_find_break_C_b1 p_self v1 i3 = some a) (j : Nat → Slot) : ∃ S1, (gNm 2) (eI i3) [.dat (cCurve p_self), .dat (eI v1), (j 2), (j 3)] = .ok () S1 ∧ LB (fun (s : Unit) (j : Nat → Slot) => [.dat (cCurve p_self), .dat (eI v1), (j 2), (j 3)]) (RTo 0 (res_Curve_find_break_C)) a ((mFor (mIts range2 (mCons (mCall maxC (mCons (mC (.int 1)) (mCons (m2 subD (mVar 2) (mVar 1)) (mNil)))) (mCons (m2 addD (m2 fdivD (mVar 2) (mC (.int 2))) (mC (.int 1))) (mNil)))) (gNm 3) (mIfS (cTruth (m2 gtD (mMeth ["Curve"] "at" F_Curve_at 1 (fun as bs => [as.getD 0 (.dat .non), as.getD 1 (.dat .non)]) (mVar 0) (vDat (mVar 2) (vNil))) (m2 addD (mMeth ["Curve"] "at" F_Curve_at 1 (fun as bs => [as.getD 0 (.dat .non), as.getD 1 (.dat .non)]) (mVar 0) (vDat (mVar 3) (vNil))) (mMeth ["Curve"] "at" F_Curve_at 1 (fun as bs => [as.getD 0 (.dat .non), as.getD 1 (.dat .non)]) (mVar 0) (vDat (m2 subD (mVar 2) (mVar 3)) (vNil)))))) (mRet (mTup (mCons (mVar 3) (mCons (m2 subD (mVar 2) (mVar 3)) (mNil))))) (mNext))) S1) := by
  unfold N_Curve_find_break_C_b1 at hN
  refine ⟨[.dat (cCurve p_self), .dat (eI v1), .dat (eI i3), (j 3)], rfl, ?_⟩
  refine s_last ?_
  obtain ⟨x4, hx4, hN⟩ := bind_some hN
  rcases thenL_some hN with ⟨s12, hs12, hN⟩ | ⟨v14, hs12, hN⟩
  · obtain ⟨j13, es12⟩ : ∃ jx, loopS (gNm 3) (mIfS (cTruth (m2 gtD (mMeth ["Curve"] "at" F_Curve_at 1 (fun as bs => [as.getD 0 (.dat .non), as.getD 1 (.dat .non)]) (mVar 0) (vDat (mVar 2) (vNil))) (m2 addD (mMeth ["Curve"] "at" F_Curve_at 1 (fun as bs => [as.getD 0 (.dat .non), as.getD 1 (.dat .non)]) (mVar 0) (vDat (mVar 3) (vNil))) (mMeth ["Curve"] "at" F_Curve_at 1 (fun as bs => [as.getD 0 (.dat .non), as.getD 1 (.dat .non)]) (mVar 0) (vDat (m2 subD (mVar 2) (mVar 3)) (vNil)))))) (mRet (mTup (mCons (mVar 3) (mCons (m2 subD (mVar 2) (mVar 3)) (mNil))))) (mNext)) (x4.map eI) [.dat (cCurve p_self), .dat (eI v1), .dat (eI i3), (j 3)] = .ok .nx (((fun (s : Unit) (j : Nat → Slot) => [.dat (cCurve p_self), .dat (eI v1), .dat (eI i3), (j 3)])) s12 jx) := le_nx (forL_ok (T := (fun (s : Unit) (j : Nat → Slot) => [.dat (cCurve p_self), .dat (eI v1), .dat (eI i3), (j 3)])) (RT := (RTo 0 (res_Curve_find_break_C))) (f := eI) rto (fun x10 s11 j z h => n_Curve_find_break_C_b2 p_self i3 v1 x10 h j) x4 () (fun i => List.getD [.dat (cCurve p_self), .dat (eI v1), .dat (eI i3), (j 3)] i .no) _ hs12)
    refine s_for (ds := x4.map eI) (i_its (x_cons (x_call (x_cons x_C (x_cons (x_2 (x_var rfl) (x_var rfl) rfl) x_nil)) q_max2) (x_cons (x_2 (x_2 (x_var rfl) x_C (q_div (div_of (by decide) (by decide)))) x_C rfl) x_nil)) (q_range2 hx4)) (s_run (S1 := [.dat (cCurve p_self), .dat (eI v1), .dat (eI i3), (j13 3)]) es12 ?_)
    obtain rfl := Option.some.inj hN
    exact lb_nx rfl
  · have es12 : RTo 0 (res_Curve_find_break_C) v14 (loopS (gNm 3) (mIfS (cTruth (m2 gtD (mMeth ["Curve"] "at" F_Curve_at 1 (fun as bs => [as.getD 0 (.dat .non), as.getD 1 (.dat .non)]) (mVar 0) (vDat (mVar 2) (vNil))) (m2 addD (mMeth ["Curve"] "at" F_Curve_at 1 (fun as bs => [as.getD 0 (.dat .non), as.getD 1 (.dat .non)]) (mVar 0) (vDat (mVar 3) (vNil))) (mMeth ["Curve"] "at" F_Curve_at 1 (fun as bs => [as.getD 0 (.dat .non), as.getD 1 (.dat .non)]) (mVar 0) (vDat (m2 subD (mVar 2) (mVar 3)) (vNil)))))) (mRet (mTup (mCons (mVar 3) (mCons (m2 subD (mVar 2) (mVar 3)) (mNil))))) (mNext)) (x4.map eI) [.dat (cCurve p_self), .dat (eI v1), .dat (eI i3), (j 3)]) := le_rt (forL_ok (T := (fun (s : Unit) (j : Nat → Slot) => [.dat (cCurve p_self), .dat (eI v1), .dat (eI i3), (j 3)])) (RT := (RTo 0 (res_Curve_find_break_C))) (f := eI) rto (fun x10 s11 j z h => n_Curve_find_break_C_b2 p_self i3 v1 x10 h j) x4 () (fun i => List.getD [.dat (cCurve p_self), .dat (eI v1), .dat (eI i3), (j 3)] i .no) _ hs12)
    subst hN
    exact s_for (ds := x4.map eI) (i_its (x_cons (x_call (x_cons x_C (x_cons (x_2 (x_var rfl) (x_var rfl) rfl) x_nil)) q_max2) (x_cons (x_2 (x_2 (x_var rfl) x_C (q_div (div_of (by decide) (by decide)))) x_C rfl) x_nil)) (q_range2 hx4)) (s_rto es12 es12)
def N_Curve_find_break_C (p_self : ((List Int) × Int × Int)) : Option ((Option (Int × Int))) :=
  (some ((p_self.1.length : Int))).bind fun v1 => (range2N 2 ((2 * v1) + 1)).bind fun x2 => thenL (ρ := (Option (Int × Int))) id (forL (fun (x15 : Int) (s16 : Unit) => N_Curve_find_break_C_b1 p_self v1 x15) x2 ()) fun s17 => some none
theorem n_Curve_find_break_C {p_self : ((List Int) × Int × Int)} {a : (Option (Int × Int))} (hN : N_Curve_find_break_C p_self = some a) : F_Curve_find_break [.dat (cCurve p_self)] = res_Curve_find_break_C a := by
  unfold N_Curve_find_break_C at hN
  refine f_run (k := 0) (S := [.dat (cCurve p_self), .no, .no, .no]) rfl rfl rfl ?_
  unfold m_Curve_find_break
  refine s_last ?_
  refine s_assoc ?_
  obtain ⟨v1, hv1, hN⟩ := bind_some hN
  refine s_asg (S2 := [.dat (cCurve p_self), .dat (eI v1), .no, .no]) (x_eq (x_call (x_cons (x_1 (x_var rfl) (fl_Curve_value_list _ (by decide))) x_nil) (q_len (f := eI))) (congrArg eI (Option.some.inj hv1))) rfl ?_
  refine s_assoc ?_
  obtain ⟨x2, hx2, hN⟩ := bind_some hN
  rcases thenL_some hN with ⟨s17, hs17, hN⟩ | ⟨v19, hs17, hN⟩
  · obtain ⟨j18, es17⟩ : ∃ jx, loopS (gNm 2) (mFor (mIts range2 (mCons (mCall maxC (mCons (mC (.int 1)) (mCons (m2 subD (mVar 2) (mVar 1)) (mNil)))) (mCons (m2 addD (m2 fdivD (mVar 2) (mC (.int 2))) (mC (.int 1))) (mNil)))) (gNm 3) (mIfS (cTruth (m2 gtD (mMeth ["Curve"] "at" F_Curve_at 1 (fun as bs => [as.getD 0 (.dat .non), as.getD 1 (.dat .non)]) (mVar 0) (vDat (mVar 2) (vNil))) (m2 addD (mMeth ["Curve"] "at" F_Curve_at 1 (fun as bs => [as.getD 0 (.dat .non), as.getD 1 (.dat .non)]) (mVar 0) (vDat (mVar 3) (vNil))) (mMeth ["Curve"] "at" F_Curve_at 1 (fun as bs => [as.getD 0 (.dat .non), as.getD 1 (.dat .non)]) (mVar 0) (vDat (m2 subD (mVar 2) (mVar 3)) (vNil)))))) (mRet (mTup (mCons (mVar 3) (mCons (m2 subD (mVar 2) (mVar 3)) (mNil))))) (mNext))) (x2.map eI) [.dat (cCurve p_self), .dat (eI v1), .no, .no] = .ok .nx (((fun (s : Unit) (j : Nat → Slot) => [.dat (cCurve p_self), .dat (eI v1), (j 2), (j 3)])) s17 jx) := le_nx (forL_ok (T := (fun (s : Unit) (j : Nat → Slot) => [.dat (cCurve p_self), .dat (eI v1), (j 2), (j 3)])) (RT := (RTo 0 (res_Curve_find_break_C))) (f := eI) rto (fun x15 s16 j z h => n_Curve_find_break_C_b1 p_self v1 x15 h j) x2 () (fun i => List.getD [.dat (cCurve p_self), .dat (eI v1), .no, .no] i .no) _ hs17)
    refine s_for (ds := x2.map eI) (i_its (x_cons x_C (x_cons (x_2 (x_2 x_C (x_var rfl) (q_mul (mul_l (by decide)))) x_C rfl) x_nil)) (q_range2 hx2)) (s_run (S1 := [.dat (cCurve p_self), .dat (eI v1), (j18 2), (j18 3)]) es17 ?_)
    refine s_ret x_C ?_
    obtain rfl := Option.some.inj hN
    exact rfl
  · have es17 : RTo 0 (res_Curve_find_break_C) v19 (loopS (gNm 2) (mFor (mIts range2 (mCons (mCall maxC (mCons (mC (.int 1)) (mCons (m2 subD (mVar 2) (mVar 1)) (mNil)))) (mCons (m2 addD (m2 fdivD (mVar 2) (mC (.int 2))) (mC (.int 1))) (mNil)))) (gNm 3) (mIfS (cTruth (m2 gtD (mMeth ["Curve"] "at" F_Curve_at 1 (fun as bs => [as.getD 0 (.dat .non), as.getD 1 (.dat .non)]) (mVar 0) (vDat (mVar 2) (vNil))) (m2 addD (mMeth ["Curve"] "at" F_Curve_at 1 (fun as bs => [as.getD 0 (.dat .non), as.getD 1 (.dat .non)]) (mVar 0) (vDat (mVar 3) (vNil))) (mMeth ["Curve"] "at" F_Curve_at 1 (fun as bs => [as.getD 0 (.dat .non), as.getD 1 (.dat .non)]) (mVar 0) (vDat (m2 subD (mVar 2) (mVar 3)) (vNil)))))) (mRet (mTup (mCons (mVar 3) (mCons (m2 subD (mVar 2) (mVar 3)) (mNil))))) (mNext))) (x2.map eI) [.dat (cCurve p_self), .dat (eI v1), .no, .no]) := le_rt (forL_ok (T := (fun (s : Unit) (j : Nat → Slot) => [.dat (cCurve p_self), .dat (eI v1), (j 2), (j 3)])) (RT := (RTo 0 (res_Curve_find_break_C))) (f := eI) rto (fun x15 s16 j z h => n_Curve_find_break_C_b1 p_self v1 x15 h j) x2 () (fun i => List.getD [.dat (cCurve p_self), .dat (eI v1), .no, .no] i .no) _ hs17)
    subst hN
    exact s_for (ds := x2.map eI) (i_its (x_cons x_C (x_cons (x_2 (x_2 x_C (x_var rfl) (q_mul (mul_l (by decide)))) x_C rfl) x_nil)) (q_range2 hx2)) (s_rto es17 es17.2)
def res_require_good_C (a : Unit) : RF := .ok (eU a) []
def N_require_good_C (p_curve : ((List Int) × Int × Int)) : Option (Unit) :=
  (N_Curve_find_break_C p_curve).bind fun x1 => if (x1.isSome) = true then none else some ()
theorem n_require_good_C {p_curve : ((List Int) × Int × Int)} {a : Unit} (hN : N_require_good_C p_curve = some a) : F_require_good [.dat (cCurve p_curve)] = res_require_good_C a := by
  unfold N_require_good_C at hN
  refine f_run (k := 0) (S := [.dat (cCurve p_curve), .no]) rfl rfl rfl ?_
  unfold m_require_good
  refine s_last ?_
  refine s_assoc ?_
  obtain ⟨x1, hx1, hN⟩ := bind_some hN
  refine s_asg (S2 := [.dat (cCurve p_curve), .dat ((eO (e2 eI eI)) x1)]) (x_meth (gs := cCurveF p_curve) (fs := [.dat (cCurve p_curve)]) (is := []) (outs := []) (S3 := [.dat (cCurve p_curve), .no]) (x_var rfl) (ml_Curve_find_break _ (by decide)) v_nil rfl rfl rfl (n_Curve_find_break_C hx1) rfl) rfl ?_
  rcases ite_some hN with ⟨c2, hN⟩ | ⟨c2, hN⟩
  · refine s_ifT (t_truth (x_2 (x_var rfl) x_C (q_notN (f := (e2 eI eI)) (fun _ => nofun)))) c2 ?_
    cases hN
  · refine s_ifF (t_truth (x_2 (x_var rfl) x_C (q_notN (f := (e2 eI eI)) (fun _ => nofun)))) c2 ?_
    refine s_next ?_
    obtain rfl := Option.some.inj hN
    exact rfl
def res_allowance_liC (a : Int) : RF := .ok (eI a) []
def N_allowance_liC_b1 (p_curve : ((List Int) × Int × Int)) (i2 : Int) (i3 : Int) (c4 : Int) (c5 : Int) : Option (Int × Int) :=
  (some (c5 + i3)).bind fun v6 => (N_Curve_at_Ci p_curve i2).bind fun x7 => (some (min c4 (x7 - v6))).bind fun v8 => some ((v8, v6))
theorem n_allowance_liC_b1 (p_curve : ((List Int) × Int × Int)) (p_entered : (List Int)) (i2 : Int) (i3 : Int) (c4 : Int) (c5 : Int) {a : Int × Int} (hN : N_allowance_liC_b1 p_curve i2 i3 c4 c5 = some a) (j : Nat → Slot) : ∃ S1, (gTpN 2 (gCs (gNm 4) (gCs (gNm 5) (gNl)))) ((e2 eI eI) (i2, i3)) [.dat ((eL eI) p_entered), .dat (cCurve p_curve), .dat (eI c4), .dat (eI c5), (j 4), (j 5)] = .ok () S1 ∧ LN (fun (s : Int × Int) (j : Nat → Slot) => [.dat ((eL eI) p_entered), .dat (cCurve p_curve), .dat (eI s.1), .dat (eI s.2), (j 4), (j 5)]) a ((mSeq (mAsg (m2 addD (mVar 3) (mVar 5)) (gNm 3))
    (mAsg (mCall minC (mCons (mVar 2) (mCons (m2 subD (mMeth ["Curve"] "at" F_Curve_at 1 (fun as bs => [as.getD 0 (.dat .non), as.getD 1 (.dat .non)]) (mVar 1) (vDat (mVar 4) (vNil))) (mVar 3)) (mNil)))) (gNm 2))) S1) := by
  unfold N_allowance_liC_b1 at hN
  refine ⟨[.dat ((eL eI) p_entered), .dat (cCurve p_curve), .dat (eI c4), .dat (eI c5), .dat (eI i2), .dat (eI i3)], rfl, ?_⟩
  refine s_last ?_
  refine s_assoc ?_
  obtain ⟨v6, hv6, hN⟩ := bind_some hN
  refine s_asg (S2 := [.dat ((eL eI) p_entered), .dat (cCurve p_curve), .dat (eI c4), .dat (eI v6), .dat (eI i2), .dat (eI i3)]) (x_eq (x_2 (x_var rfl) (x_var rfl) rfl) (congrArg eI (Option.some.inj hv6))) rfl ?_
  obtain ⟨x7, hx7, hN⟩ := bind_some hN
  obtain ⟨v8, hv8, hN⟩ := bind_some hN
  refine s_asg (S2 := [.dat ((eL eI) p_entered), .dat (cCurve p_curve), .dat (eI v8), .dat (eI v6), .dat (eI i2), .dat (eI i3)]) (x_eq (x_call (x_cons (x_var rfl) (x_cons (x_2 (x_meth (gs := cCurveF p_curve) (fs := [.dat (cCurve p_curve), .dat (eI i2)]) (is := []) (outs := []) (S3 := [.dat ((eL eI) p_entered), .dat (cCurve p_curve), .dat (eI c4), .dat (eI v6), .dat (eI i2), .dat (eI i3)]) (x_var rfl) (ml_Curve_at _ (by decide)) (v_dat (x_var rfl) v_nil) rfl rfl rfl (n_Curve_at_Ci hx7) rfl) (x_var rfl) rfl) x_nil)) q_min2) (congrArg eI (Option.some.inj hv8))) rfl ?_
  obtain rfl := Option.some.inj hN
  exact ln_nx rfl
def N_allowance_liC (p_entered : (List Int)) (p_curve : ((List Int) × Int × Int)) : Option (Int) :=
  (N_Curve_at_Ci p_curve 1).bind fun x1 => (foldO (fun (x9 : (Int × Int)) (s10 : Int × Int) => N_allowance_liC_b1 p_curve x9.1 x9.2 s10.1 s10.2) (enumZ 2 p_entered.reverse) (x1, 0)).bind fun s11 => some (max 0 s11.1)
theorem n_allowance_liC {p_entered : (List Int)} {p_curve : ((List Int) × Int × Int)} {a : Int} (hN : N_allowance_liC p_entered p_curve = some a) : F_allowance [.dat ((eL eI) p_entered), .dat (cCurve p_curve)] = res_allowance_liC a := by
  unfold N_allowance_liC at hN
  refine f_run (k := 0) (S := [.dat ((eL eI) p_entered), .dat (cCurve p_curve), .no, .no, .no, .no]) rfl rfl rfl ?_
  unfold m_allowance
  refine s_last ?_
  refine s_assoc ?_
  obtain ⟨x1, hx1, hN⟩ := bind_some hN
  refine s_par (S2 := [.dat ((eL eI) p_entered), .dat (cCurve p_curve), .dat (eI x1), .dat (eI 0), .no, .no]) (ma_eq2 (x_cons (x_meth (gs := cCurveF p_curve) (fs := [.dat (cCurve p_curve), .dat (eI 1)]) (is := []) (outs := []) (S3 := [.dat ((eL eI) p_entered), .dat (cCurve p_curve), .no, .no, .no, .no]) (x_var rfl) (ml_Curve_at _ (by decide)) (v_dat x_C v_nil) rfl rfl rfl (n_Curve_at_Ci hx1) rfl) (x_cons x_C x_nil)) rfl rfl) rfl ?_
  refine s_assoc ?_
  obtain ⟨s11, hs11, hN⟩ := bind_some hN
  obtain ⟨j12, es11⟩ : ∃ jx, loopS (gTpN 2 (gCs (gNm 4) (gCs (gNm 5) (gNl)))) (mSeq (mAsg (m2 addD (mVar 3) (mVar 5)) (gNm 3))
    (mAsg (mCall minC (mCons (mVar 2) (mCons (m2 subD (mMeth ["Curve"] "at" F_Curve_at 1 (fun as bs => [as.getD 0 (.dat .non), as.getD 1 (.dat .non)]) (mVar 1) (vDat (mVar 4) (vNil))) (mVar 3)) (mNil)))) (gNm 2))) ((enumZ 2 p_entered.reverse).map (e2 eI eI)) [.dat ((eL eI) p_entered), .dat (cCurve p_curve), .dat (eI x1), .dat (eI 0), .no, .no] = .ok .nx (((fun (s : Int × Int) (j : Nat → Slot) => [.dat ((eL eI) p_entered), .dat (cCurve p_curve), .dat (eI s.1), .dat (eI s.2), (j 4), (j 5)])) s11 jx) := foldO_ok (T := (fun (s : Int × Int) (j : Nat → Slot) => [.dat ((eL eI) p_entered), .dat (cCurve p_curve), .dat (eI s.1), .dat (eI s.2), (j 4), (j 5)])) (f := (e2 eI eI)) (fun x9 s10 j z h => n_allowance_liC_b1 p_curve p_entered x9.1 x9.2 s10.1 s10.2 h j) (enumZ 2 p_entered.reverse) (x1, 0) (fun i => List.getD [.dat ((eL eI) p_entered), .dat (cCurve p_curve), .dat (eI x1), .dat (eI 0), .no, .no] i .no) _ hs11
  refine s_for (ds := (enumZ 2 p_entered.reverse).map (e2 eI eI)) (i_enumR (f := eI) (x_var rfl)) (s_run (S1 := [.dat ((eL eI) p_entered), .dat (cCurve p_curve), .dat (eI s11.1), .dat (eI s11.2), (j12 4), (j12 5)]) es11 ?_)
  refine s_ret (x_call (x_cons x_C (x_cons (x_var rfl) x_nil)) q_max2) ?_
  obtain rfl := Option.some.inj hN
  exact rfl
def res_shaped_liC (a : (List Int)) : RN := .ok (a.map eI) []
def N_shaped_liC_b1 (p_curve : ((List Int) × Int × Int)) (i3 : Int) (c4 : (List Int)) (c5 : Int) : Option ((List Int) × Int) :=
  (some (c5 + i3)).bind fun v6 => (N_allowance_liC c4 p_curve).bind fun x7 => (some (min v6 x7)).bind fun v8 => (appN c4 v8).bind fun v9 => (some (v6 - v8)).bind fun v10 => some ((v9, v10))
theorem n_shaped_liC_b1 (p_curve : ((List Int) × Int × Int)) (p_record : (List Int)) (i3 : Int) (c4 : (List Int)) (c5 : Int) {a : (List Int) × Int} (hN : N_shaped_liC_b1 p_curve i3 c4 c5 = some a) (j : Nat → Slot) : ∃ S1, (gNm 2) (eI i3) [.dat ((eL eI) p_record), .dat (cCurve p_curve), (j 2), .loc (c4.map eI), .dat (eI c5), (j 5)] = .ok () S1 ∧ LN (fun (s : (List Int) × Int) (j : Nat → Slot) => [.dat ((eL eI) p_record), .dat (cCurve p_curve), (j 2), .loc (s.1.map eI), .dat (eI s.2), (j 5)]) a ((mSeq (mAsg (m2 addD (mVar 4) (mVar 2)) (gNm 4))
    (mSeq (mAsg (mCall minC (mCons (mVar 4) (mCons (mCallF (see1 0 F_allowance) 2 0 (fun as bs => [as.getD 0 (.dat .non), as.getD 1 (.dat .non)]) (vVar 3 (vDat (mVar 1) (vNil))) vNil) (mNil)))) (gNm 5))
    (mSeq (mApp 3 (mVar 5))
    (mAsg (m2 subD (mVar 4) (mVar 5)) (gNm 4))))) S1) := by
  unfold N_shaped_liC_b1 at hN
  refine ⟨[.dat ((eL eI) p_record), .dat (cCurve p_curve), .dat (eI i3), .loc (c4.map eI), .dat (eI c5), (j 5)], rfl, ?_⟩
  refine s_last ?_
  refine s_assoc ?_
  obtain ⟨v6, hv6, hN⟩ := bind_some hN
  refine s_asg (S2 := [.dat ((eL eI) p_record), .dat (cCurve p_curve), .dat (eI i3), .loc (c4.map eI), .dat (eI v6), (j 5)]) (x_eq (x_2 (x_var rfl) (x_var rfl) rfl) (congrArg eI (Option.some.inj hv6))) rfl ?_
  refine s_assoc ?_
  obtain ⟨x7, hx7, hN⟩ := bind_some hN
  obtain ⟨v8, hv8, hN⟩ := bind_some hN
  refine s_asg (S2 := [.dat ((eL eI) p_record), .dat (cCurve p_curve), .dat (eI i3), .loc (c4.map eI), .dat (eI v6), .dat (eI v8)]) (x_eq (x_call (x_cons (x_var rfl) (x_cons (x_callF (fs := [.own (.lst (c4.map eI)), .dat (cCurve p_curve)]) (is := [3]) (outs := [.lst (c4.map eI)]) (S3 := [.dat ((eL eI) p_record), .dat (cCurve p_curve), .dat (eI i3), .loc (c4.map eI), .dat (eI v6), (j 5)]) (v_varS rfl (v_dat (x_var rfl) v_nil)) v_nil ⟨rfl, rfl⟩ rfl rfl (q_see rfl (n_allowance_liC hx7) (fl_I _) flO_nil) rfl) x_nil)) q_min2) (congrArg eI (Option.some.inj hv8))) rfl ?_
  refine s_assoc ?_
  obtain ⟨v9, hv9, hN⟩ := bind_some hN
  refine s_appL' (S2 := [.dat ((eL eI) p_record), .dat (cCurve p_curve), .dat (eI i3), .loc (v9.map eI), .dat (eI v6), .dat (eI v8)]) rfl (x_var rfl) rfl (q_app (f := eI) hv9) rfl ?_
  obtain ⟨v10, hv10, hN⟩ := bind_some hN
  refine s_asg (S2 := [.dat ((eL eI) p_record), .dat (cCurve p_curve), .dat (eI i3), .loc (v9.map eI), .dat (eI v10), .dat (eI v8)]) (x_eq (x_2 (x_var rfl) (x_var rfl) rfl) (congrArg eI (Option.some.inj hv10))) rfl ?_
  obtain rfl := Option.some.inj hN
  exact ln_nx rfl
def N_shaped_liC (p_record : (List Int)) (p_curve : ((List Int) × Int × Int)) : Option ((List Int)) :=
  (N_check_record_li p_record).bind fun x1 => (N_require_good_C p_curve).bind fun x2 => (foldO (fun (x11 : Int) (s12 : (List Int) × Int) => N_shaped_liC_b1 p_curve x11 s12.1 s12.2) p_record (([]), 0)).bind fun s13 => some s13.1
theorem n_shaped_liC {p_record : (List Int)} {p_curve : ((List Int) × Int × Int)} {a : (List Int)} (hN : N_shaped_liC p_record p_curve = some a) : F_shaped [.dat ((eL eI) p_record), .dat (cCurve p_curve)] = res_shaped_liC a := by
  unfold N_shaped_liC at hN
  refine fN_run (k := 0) (S := [.dat ((eL eI) p_record), .dat (cCurve p_curve), .no, .no, .no, .no]) (a := mSeq (mDrop (mCallF F_check_record 1 0 (fun as bs => [as.getD 0 (.dat .non)]) (vDat (mVar 0) (vNil)) vNil))
    (mSeq (mDrop (mCallF F_require_good 1 0 (fun as bs => [as.getD 0 (.dat .non)]) (vDat (mVar 1) (vNil)) vNil))
    (mSeq (mParF 3 4 (lLst (mNil)) (mC (.int 0)))
    (mFor (mItems (mVar 0)) (gNm 2) (mSeq (mAsg (m2 addD (mVar 4) (mVar 2)) (gNm 4))
    (mSeq (mAsg (mCall minC (mCons (mVar 4) (mCons (mCallF (see1 0 F_allowance) 2 0 (fun as bs => [as.getD 0 (.dat .non), as.getD 1 (.dat .non)]) (vVar 3 (vDat (mVar 1) (vNil))) vNil) (mNil)))) (gNm 5))
    (mSeq (mApp 3 (mVar 5))
    (mAsg (m2 subD (mVar 4) (mVar 5)) (gNm 4))))))))) (kn := nRetV 3) (by unfold m_shaped; simp only [nseq_assoc]) rfl rfl rfl ?_
  show EndsN 0 3 (res_shaped_liC a) _
  refine s_last ?_
  refine s_assoc ?_
  obtain ⟨x1, hx1, hN⟩ := bind_some hN
  refine s_drop (S1 := [.dat ((eL eI) p_record), .dat (cCurve p_curve), .no, .no, .no, .no]) (x_callF (fs := [.dat ((eL eI) p_record)]) (is := []) (outs := []) (S3 := [.dat ((eL eI) p_record), .dat (cCurve p_curve), .no, .no, .no, .no]) (v_dat (x_var rfl) v_nil) v_nil ⟨rfl, rfl⟩ rfl rfl (n_check_record_li hx1) rfl) ?_
  refine s_assoc ?_
  obtain ⟨x2, hx2, hN⟩ := bind_some hN
  refine s_drop (S1 := [.dat ((eL eI) p_record), .dat (cCurve p_curve), .no, .no, .no, .no]) (x_callF (fs := [.dat (cCurve p_curve)]) (is := []) (outs := []) (S3 := [.dat ((eL eI) p_record), .dat (cCurve p_curve), .no, .no, .no, .no]) (v_dat (x_var rfl) v_nil) v_nil ⟨rfl, rfl⟩ rfl rfl (n_require_good_C hx2) rfl) ?_
  refine s_assoc ?_
  refine s_parF (S3 := [.dat ((eL eI) p_record), .dat (cCurve p_curve), .no, .loc (([]).map eI), .dat (eI 0), .no]) (l_lst x_nil (Nat.le_of_ble_eq_true rfl)) x_C rfl ?_
  obtain ⟨s13, hs13, hN⟩ := bind_some hN
  obtain ⟨j14, es13⟩ : ∃ jx, loopS (gNm 2) (mSeq (mAsg (m2 addD (mVar 4) (mVar 2)) (gNm 4))
    (mSeq (mAsg (mCall minC (mCons (mVar 4) (mCons (mCallF (see1 0 F_allowance) 2 0 (fun as bs => [as.getD 0 (.dat .non), as.getD 1 (.dat .non)]) (vVar 3 (vDat (mVar 1) (vNil))) vNil) (mNil)))) (gNm 5))
    (mSeq (mApp 3 (mVar 5))
    (mAsg (m2 subD (mVar 4) (mVar 5)) (gNm 4))))) (p_record.map eI) [.dat ((eL eI) p_record), .dat (cCurve p_curve), .no, .loc (([]).map eI), .dat (eI 0), .no] = .ok .nx (((fun (s : (List Int) × Int) (j : Nat → Slot) => [.dat ((eL eI) p_record), .dat (cCurve p_curve), (j 2), .loc (s.1.map eI), .dat (eI s.2), (j 5)])) s13 jx) := foldO_ok (T := (fun (s : (List Int) × Int) (j : Nat → Slot) => [.dat ((eL eI) p_record), .dat (cCurve p_curve), (j 2), .loc (s.1.map eI), .dat (eI s.2), (j 5)])) (f := eI) (fun x11 s12 j z h => n_shaped_liC_b1 p_curve p_record x11 s12.1 s12.2 h j) p_record (([]), 0) (fun i => List.getD [.dat ((eL eI) p_record), .dat (cCurve p_curve), .no, .loc (([]).map eI), .dat (eI 0), .no] i .no) _ hs13
  refine s_for (ds := p_record.map eI) (i_items (x_var rfl) rfl) (s_run (S1 := [.dat ((eL eI) p_record), .dat (cCurve p_curve), (j14 2), .loc (s13.1.map eI), .dat (eI s13.2), (j14 5)]) es13 ?_)
  obtain rfl := Option.some.inj hN
  exact rfl
def res_l_is_kept (a : Bool) : RF := .ok (eB a) []
def N_l_is_kept_b1 (p_row : ((List Int) × Int × Int)) (p_units : (List Int)) (i2 : Int) : Option (Stp (Bool) (Unit)) :=
  (N_l_at p_row i2).bind fun x3 => (range1N ((((p_units.length : Int)) + 1) - i2)).bind fun x4 => (capL (x4.map fun y5 => decide (x3 < ((cutL p_units (some y5) (some (y5 + i2))).sum)))).bind fun x6 => if (x6.any id) = true then some (.rt false) else some (.nx ())
theorem n_l_is_kept_b1 (p_row : ((List Int) × Int × Int)) (p_units : (List Int)) (i2 : Int) {a : Stp (Bool) (Unit)} (hN : N_l_is_kept_b1 p_row p_units i2 = some a) (j : Nat → Slot) : ∃ S1, (gNm 2) (eI i2) [.dat ((e3 (eL eI) eI eI) p_row), .dat ((eL eI) p_units), (j 2), (j 3), (j 4)] = .ok () S1 ∧ LB (fun (s : Unit) (j : Nat → Slot) => [.dat ((e3 (eL eI) eI eI) p_row), .dat ((eL eI) p_units), (j 2), (j 3), (j 4)]) (RTo 0 (res_l_is_kept)) a ((mSeq (mAsg (mCallF F_l_at 2 0 (fun as bs => [as.getD 0 (.dat .non), as.getD 1 (.dat .non)]) (vDat (mVar 0) (vDat (mVar 2) (vNil))) vNil) (gNm 3))
    (mIfS (cTruth (mCall anyC (mCons (mLc (mIts range1 (mCons (m2 subD (m2 addD (mCall lenC (mCons (mVar 1) (mNil))) (mC (.int 1))) (mVar 2)) (mNil))) (cgN 4) (cYes) (m2 gtD (mCall sumC (mCons (mSl (mVar 1) (oS (mVar 4)) (oS (m2 addD (mVar 4) (mVar 2)))) (mNil))) (mVar 3)) [4]) (mNil)))) (mRet (mC (.bl false))) (mNext))) S1) := by
  unfold N_l_is_kept_b1 at hN
  refine ⟨[.dat ((e3 (eL eI) eI eI) p_row), .dat ((eL eI) p_units), .dat (eI i2), (j 3), (j 4)], rfl, ?_⟩
  refine s_last ?_
  refine s_assoc ?_
  obtain ⟨x3, hx3, hN⟩ := bind_some hN
  refine s_asg (S2 := [.dat ((e3 (eL eI) eI eI) p_row), .dat ((eL eI) p_units), .dat (eI i2), .dat (eI x3), (j 4)]) (x_callF (fs := [.dat ((e3 (eL eI) eI eI) p_row), .dat (eI i2)]) (is := []) (outs := []) (S3 := [.dat ((e3 (eL eI) eI eI) p_row), .dat ((eL eI) p_units), .dat (eI i2), (j 3), (j 4)]) (v_dat (x_var rfl) (v_dat (x_var rfl) v_nil)) v_nil ⟨rfl, rfl⟩ rfl rfl (n_l_at hx3) rfl) rfl ?_
  obtain ⟨x4, hx4, hN⟩ := bind_some hN
  obtain ⟨x6, hx6, hN⟩ := bind_some hN
  rcases ite_some hN with ⟨c7, hN⟩ | ⟨c7, hN⟩
  · refine s_ifT (t_truth (x_call (x_cons (x_lc (lc_map (f := eI) (fo := eB) (F := fun y5 => decide (x3 < ((cutL p_units (some y5) (some (y5 + i2))).sum))) (S0 := [.dat ((e3 (eL eI) eI eI) p_row), .dat ((eL eI) p_units), .dat (eI i2), .dat (eI x3), .no]) (i_its (x_cons (x_2 (x_2 (x_call (x_cons (x_var rfl) x_nil) (q_len (f := eI))) x_C rfl) (x_var rfl) rfl) x_nil) (q_range1 hx4)) rfl (fun y5 => ⟨[.dat ((e3 (eL eI) eI eI) p_row), .dat ((eL eI) p_units), .dat (eI i2), .dat (eI x3), .dat (eI y5)], _, rfl, (x_2 (x_call (x_cons (x_sl (x_var rfl) (o_s (x_var rfl)) (o_s (x_2 (x_var rfl) (x_var rfl) rfl)) (q_slice (f := eI))) x_nil) q_sum) (x_var rfl) rfl), rfl⟩) hx6)) x_nil) q_any)) c7 ?_
    refine s_ret x_C ?_
    obtain rfl := Option.some.inj hN
    exact rto_of rfl
  · refine s_ifF (t_truth (x_call (x_cons (x_lc (lc_map (f := eI) (fo := eB) (F := fun y5 => decide (x3 < ((cutL p_units (some y5) (some (y5 + i2))).sum))) (S0 := [.dat ((e3 (eL eI) eI eI) p_row), .dat ((eL eI) p_units), .dat (eI i2), .dat (eI x3), .no]) (i_its (x_cons (x_2 (x_2 (x_call (x_cons (x_var rfl) x_nil) (q_len (f := eI))) x_C rfl) (x_var rfl) rfl) x_nil) (q_range1 hx4)) rfl (fun y5 => ⟨[.dat ((e3 (eL eI) eI eI) p_row), .dat ((eL eI) p_units), .dat (eI i2), .dat (eI x3), .dat (eI y5)], _, rfl, (x_2 (x_call (x_cons (x_sl (x_var rfl) (o_s (x_var rfl)) (o_s (x_2 (x_var rfl) (x_var rfl) rfl)) (q_slice (f := eI))) x_nil) q_sum) (x_var rfl) rfl), rfl⟩) hx6)) x_nil) q_any)) c7 ?_
    refine s_next ?_
    obtain rfl := Option.some.inj hN
    exact lb_nx rfl
def N_l_is_kept (p_row : ((List Int) × Int × Int)) (p_units : (List Int)) : Option (Bool) :=
  (range2N 1 (((p_units.length : Int)) + 1)).bind fun x1 => thenL (ρ := Bool) id (forL (fun (x8 : Int) (s9 : Unit) => N_l_is_kept_b1 p_row p_units x8) x1 ()) fun s10 => some true
theorem n_l_is_kept {p_row : ((List Int) × Int × Int)} {p_units : (List Int)} {a : Bool} (hN : N_l_is_kept p_row p_units = some a) : F_l_is_kept [.dat ((e3 (eL eI) eI eI) p_row), .dat ((eL eI) p_units)] = res_l_is_kept a := by
  unfold N_l_is_kept at hN
  refine f_run (k := 0) (S := [.dat ((e3 (eL eI) eI eI) p_row), .dat ((eL eI) p_units), .no, .no, .no]) rfl rfl rfl ?_
  unfold m_l_is_kept
  refine s_last ?_
  refine s_assoc ?_
  obtain ⟨x1, hx1, hN⟩ := bind_some hN
  rcases thenL_some hN with ⟨s10, hs10, hN⟩ | ⟨v12, hs10, hN⟩
  · obtain ⟨j11, es10⟩ : ∃ jx, loopS (gNm 2) (mSeq (mAsg (mCallF F_l_at 2 0 (fun as bs => [as.getD 0 (.dat .non), as.getD 1 (.dat .non)]) (vDat (mVar 0) (vDat (mVar 2) (vNil))) vNil) (gNm 3))
    (mIfS (cTruth (mCall anyC (mCons (mLc (mIts range1 (mCons (m2 subD (m2 addD (mCall lenC (mCons (mVar 1) (mNil))) (mC (.int 1))) (mVar 2)) (mNil))) (cgN 4) (cYes) (m2 gtD (mCall sumC (mCons (mSl (mVar 1) (oS (mVar 4)) (oS (m2 addD (mVar 4) (mVar 2)))) (mNil))) (mVar 3)) [4]) (mNil)))) (mRet (mC (.bl false))) (mNext))) (x1.map eI) [.dat ((e3 (eL eI) eI eI) p_row), .dat ((eL eI) p_units), .no, .no, .no] = .ok .nx (((fun (s : Unit) (j : Nat → Slot) => [.dat ((e3 (eL eI) eI eI) p_row), .dat ((eL eI) p_units), (j 2), (j 3), (j 4)])) s10 jx) := le_nx (forL_ok (T := (fun (s : Unit) (j : Nat → Slot) => [.dat ((e3 (eL eI) eI eI) p_row), .dat ((eL eI) p_units), (j 2), (j 3), (j 4)])) (RT := (RTo 0 (res_l_is_kept))) (f := eI) rto (fun x8 s9 j z h => n_l_is_kept_b1 p_row p_units x8 h j) x1 () (fun i => List.getD [.dat ((e3 (eL eI) eI eI) p_row), .dat ((eL eI) p_units), .no, .no, .no] i .no) _ hs10)
    refine s_for (ds := x1.map eI) (i_its (x_cons x_C (x_cons (x_2 (x_call (x_cons (x_var rfl) x_nil) (q_len (f := eI))) x_C rfl) x_nil)) (q_range2 hx1)) (s_run (S1 := [.dat ((e3 (eL eI) eI eI) p_row), .dat ((eL eI) p_units), (j11 2), (j11 3), (j11 4)]) es10 ?_)
    refine s_ret x_C ?_
    obtain rfl := Option.some.inj hN
    exact rfl
  · have es10 : RTo 0 (res_l_is_kept) v12 (loopS (gNm 2) (mSeq (mAsg (mCallF F_l_at 2 0 (fun as bs => [as.getD 0 (.dat .non), as.getD 1 (.dat .non)]) (vDat (mVar 0) (vDat (mVar 2) (vNil))) vNil) (gNm 3))
    (mIfS (cTruth (mCall anyC (mCons (mLc (mIts range1 (mCons (m2 subD (m2 addD (mCall lenC (mCons (mVar 1) (mNil))) (mC (.int 1))) (mVar 2)) (mNil))) (cgN 4) (cYes) (m2 gtD (mCall sumC (mCons (mSl (mVar 1) (oS (mVar 4)) (oS (m2 addD (mVar 4) (mVar 2)))) (mNil))) (mVar 3)) [4]) (mNil)))) (mRet (mC (.bl false))) (mNext))) (x1.map eI) [.dat ((e3 (eL eI) eI eI) p_row), .dat ((eL eI) p_units), .no, .no, .no]) := le_rt (forL_ok (T := (fun (s : Unit) (j : Nat → Slot) => [.dat ((e3 (eL eI) eI eI) p_row), .dat ((eL eI) p_units), (j 2), (j 3), (j 4)])) (RT := (RTo 0 (res_l_is_kept))) (f := eI) rto (fun x8 s9 j z h => n_l_is_kept_b1 p_row p_units x8 h j) x1 () (fun i => List.getD [.dat ((e3 (eL eI) eI eI) p_row), .dat ((eL eI) p_units), .no, .no, .no] i .no) _ hs10)
    subst hN
    exact s_for (ds := x1.map eI) (i_its (x_cons x_C (x_cons (x_2 (x_call (x_cons (x_var rfl) x_nil) (q_len (f := eI))) x_C rfl) x_nil)) (q_range2 hx1)) (s_rto es10 es10.2)
def res_sums_of_li (a : (List Int)) : RF := .ok ((eL eI) a) []
def N_sums_of_li_b1 (i1 : Int) (c2 : (List Int)) : Option ((List Int)) :=
  (ixN? c2 (-1)).bind fun x3 => (appN c2 (x3 + i1)).bind fun v4 => some v4
theorem n_sums_of_li_b1 (p_record : (List Int)) (i1 : Int) (c2 : (List Int)) {a : (List Int)} (hN : N_sums_of_li_b1 i1 c2 = some a) (j : Nat → Slot) : ∃ S1, (gNm 2) (eI i1) [.dat ((eL eI) p_record), .loc (c2.map eI), (j 2)] = .ok () S1 ∧ LN (fun (s : (List Int)) (j : Nat → Slot) => [.dat ((eL eI) p_record), .loc (s.map eI), (j 2)]) a ((mApp 1 (m2 addD (mIxS 1 (m1 negD (mC (.int 1)))) (mVar 2))) S1) := by
  unfold N_sums_of_li_b1 at hN
  refine ⟨[.dat ((eL eI) p_record), .loc (c2.map eI), .dat (eI i1)], rfl, ?_⟩
  refine s_last ?_
  obtain ⟨x3, hx3, hN⟩ := bind_some hN
  obtain ⟨v4, hv4, hN⟩ := bind_some hN
  refine s_appL' (S2 := [.dat ((eL eI) p_record), .loc (v4.map eI), .dat (eI i1)]) rfl (x_2 (x_ixS rfl (x_1 x_C rfl) rfl (q_ix (f := eI) hx3)) (x_var rfl) rfl) rfl (q_app (f := eI) hv4) rfl ?_
  obtain rfl := Option.some.inj hN
  exact ln_nx rfl
def N_sums_of_li (p_record : (List Int)) : Option ((List Int)) :=
  (foldO (fun (x5 : Int) (s6 : (List Int)) => N_sums_of_li_b1 x5 s6) p_record ([0])).bind fun s7 => some s7
theorem n_sums_of_li {p_record : (List Int)} {a : (List Int)} (hN : N_sums_of_li p_record = some a) : F_sums_of [.dat ((eL eI) p_record)] = res_sums_of_li a := by
  unfold N_sums_of_li at hN
  refine f_run (k := 0) (S := [.dat ((eL eI) p_record), .no, .no]) rfl rfl rfl ?_
  unfold m_sums_of
  refine s_last ?_
  refine s_assoc ?_
  refine s_setF (S2 := [.dat ((eL eI) p_record), .loc (([0]).map eI), .no]) (l_lst (x_cons x_C x_nil) (Nat.le_of_ble_eq_true rfl)) rfl ?_
  refine s_assoc ?_
  obtain ⟨s7, hs7, hN⟩ := bind_some hN
  obtain ⟨j8, es7⟩ : ∃ jx, loopS (gNm 2) (mApp 1 (m2 addD (mIxS 1 (m1 negD (mC (.int 1)))) (mVar 2))) (p_record.map eI) [.dat ((eL eI) p_record), .loc (([0]).map eI), .no] = .ok .nx (((fun (s : (List Int)) (j : Nat → Slot) => [.dat ((eL eI) p_record), .loc (s.map eI), (j 2)])) s7 jx) := foldO_ok (T := (fun (s : (List Int)) (j : Nat → Slot) => [.dat ((eL eI) p_record), .loc (s.map eI), (j 2)])) (f := eI) (fun x5 s6 j z h => n_sums_of_li_b1 p_record x5 s6 h j) p_record ([0]) (fun i => List.getD [.dat ((eL eI) p_record), .loc (([0]).map eI), .no] i .no) _ hs7
  refine s_for (ds := p_record.map eI) (i_items (x_var rfl) rfl) (s_run (S1 := [.dat ((eL eI) p_record), .loc (s7.map eI), (j8 2)]) es7 ?_)
  refine s_ret (x_varL (S1 := [.dat ((eL eI) p_record), .dat ((eL eI) s7), (j8 2)]) rfl rfl) ?_
  obtain rfl := Option.some.inj hN
  exact rfl
def res_breach_liC (a : (Option (Int × Int × Int))) : RF := .ok ((eO (e3 eI eI eI)) a) []
def N_breach_liC_b2 (x2 : (List Int)) (i4 : Int) (x5 : Int) (i7 : Int) : Option (Stp ((Option (Int × Int × Int))) (Unit)) :=
  (ixN? x2 (i7 + i4)).bind fun x8 => (ixN? x2 i7).bind fun x9 => (some (x8 - x9)).bind fun v10 => if (decide (x5 < v10)) = true then some (.rt (some ((i4, i7, v10 - x5)))) else some (.nx ())
theorem n_breach_liC_b2 (x2 : (List Int)) (i4 : Int) (x5 : Int) (p_record : (List Int)) (p_curve : ((List Int) × Int × Int)) (i7 : Int) {a : Stp ((Option (Int × Int × Int))) (Unit)} (hN : N_breach_liC_b2 x2 i4 x5 i7 = some a) (j : Nat → Slot) : ∃ S1, (gNm 5) (eI i7) [.dat ((eL eI) p_record), .dat (cCurve p_curve), .dat ((eL eI) x2), .dat (eI i4), .dat (eI x5), (j 5), (j 6)] = .ok () S1 ∧ LB (fun (s : Unit) (j : Nat → Slot) => [.dat ((eL eI) p_record), .dat (cCurve p_curve), .dat ((eL eI) x2), .dat (eI i4), .dat (eI x5), (j 5), (j 6)]) (RTo 0 (res_breach_liC)) a ((mSeq (mAsg (m2 subD (m2 ixD (mVar 2) (m2 addD (mVar 5) (mVar 3))) (m2 ixD (mVar 2) (mVar 5))) (gNm 6))
    (mIfS (cTruth (m2 gtD (mVar 6) (mVar 4))) (mRet (mTup (mCons (mVar 3) (mCons (mVar 5) (mCons (m2 subD (mVar 6) (mVar 4)) (mNil)))))) (mNext))) S1) := by
  unfold N_breach_liC_b2 at hN
  refine ⟨[.dat ((eL eI) p_record), .dat (cCurve p_curve), .dat ((eL eI) x2), .dat (eI i4), .dat (eI x5), .dat (eI i7), (j 6)], rfl, ?_⟩
  refine s_last ?_
  refine s_assoc ?_
  obtain ⟨x8, hx8, hN⟩ := bind_some hN
  obtain ⟨x9, hx9, hN⟩ := bind_some hN
  obtain ⟨v10, hv10, hN⟩ := bind_some hN
  refine s_asg (S2 := [.dat ((eL eI) p_record), .dat (cCurve p_curve), .dat ((eL eI) x2), .dat (eI i4), .dat (eI x5), .dat (eI i7), .dat (eI v10)]) (x_eq (x_2 (x_2 (x_var rfl) (x_2 (x_var rfl) (x_var rfl) rfl) (q_ix (f := eI) hx8)) (x_2 (x_var rfl) (x_var rfl) (q_ix (f := eI) hx9)) rfl) (congrArg eI (Option.some.inj hv10))) rfl ?_
  rcases ite_some hN with ⟨c11, hN⟩ | ⟨c11, hN⟩
  · refine s_ifT (t_truth (x_2 (x_var rfl) (x_var rfl) rfl)) c11 ?_
    refine s_ret (x_tup (x_cons (x_var rfl) (x_cons (x_var rfl) (x_cons (x_2 (x_var rfl) (x_var rfl) rfl) x_nil))) (Nat.le_of_ble_eq_true rfl)) ?_
    obtain rfl := Option.some.inj hN
    exact rto_of rfl
  · refine s_ifF (t_truth (x_2 (x_var rfl) (x_var rfl) rfl)) c11 ?_
    refine s_next ?_
    obtain rfl := Option.some.inj hN
    exact lb_nx rfl
def N_breach_liC_b1 (p_record : (List Int)) (p_curve : ((List Int) × Int × Int)) (x2 : (List Int)) (i4 : Int) : Option (Stp ((Option (Int × Int × Int))) (Unit)) :=
  (N_Curve_at_Ci p_curve i4).bind fun x5 => (range1N ((((p_record.length : Int)) - i4) + 1)).bind fun x6 => thenL (ρ := (Option (Int × Int × Int))) Stp.rt (forL (fun (x12 : Int) (s13 : Unit) => N_breach_liC_b2 x2 i4 x5 x12) x6 ()) fun s14 => some (.nx ())
theorem n_breach_liC_b1 (p_record : (List Int)) (p_curve : ((List Int) × Int × Int)) (x2 : (List Int)) (i4 : Int) {a : Stp ((Option (Int × Int × Int))) (Unit)} (hN : N_breach_liC_b1 p_record p_curve x2 i4 = some a) (j : Nat → Slot) : ∃ S1, (gNm 3) (eI i4) [.dat ((eL eI) p_record), .dat (cCurve p_curve), .dat ((eL eI) x2), (j 3), (j 4), (j 5), (j 6)] = .ok () S1 ∧ LB (fun (s : Unit) (j : Nat → Slot) => [.dat ((eL eI) p_record), .dat (cCurve p_curve), .dat ((eL eI) x2), (j 3), (j 4), (j 5), (j 6)]) (RTo 0 (res_breach_liC)) a ((mSeq (mAsg (mMeth ["Curve"] "at" F_Curve_at 1 (fun as bs => [as.getD 0 (.dat .non), as.getD 1 (.dat .non)]) (mVar 1) (vDat (mVar 3) (vNil))) (gNm 4))
    (mFor (mIts range1 (mCons (m2 addD (m2 subD (mCall lenC (mCons (mVar 0) (mNil))) (mVar 3)) (mC (.int 1))) (mNil))) (gNm 5) (mSeq (mAsg (m2 subD (m2 ixD (mVar 2) (m2 addD (mVar 5) (mVar 3))) (m2 ixD (mVar 2) (mVar 5))) (gNm 6))
    (mIfS (cTruth (m2 gtD (mVar 6) (mVar 4))) (mRet (mTup (mCons (mVar 3) (mCons (mVar 5) (mCons (m2 subD (mVar 6) (mVar 4)) (mNil)))))) (mNext))))) S1) := by
  unfold N_breach_liC_b1 at hN
  refine ⟨[.dat ((eL eI) p_record), .dat (cCurve p_curve), .dat ((eL eI) x2), .dat (eI i4), (j 4), (j 5), (j 6)], rfl, ?_⟩
  refine s_last ?_
  refine s_assoc ?_
  obtain ⟨x5, hx5, hN⟩ := bind_some hN
  refine s_asg (S2 := [.dat ((eL eI) p_record), .dat (cCurve p_curve), .dat ((eL eI) x2), .dat (eI i4), .dat (eI x5), (j 5), (j 6)]) (x_meth (gs := cCurveF p_curve) (fs := [.dat (cCurve p_curve), .dat (eI i4)]) (is := []) (outs := []) (S3 := [.dat ((eL eI) p_record), .dat (cCurve p_curve), .dat ((eL eI) x2), .dat (eI i4), (j 4), (j 5), (j 6)]) (x_var rfl) (ml_Curve_at _ (by decide)) (v_dat (x_var rfl) v_nil) rfl rfl rfl (n_Curve_at_Ci hx5) rfl) rfl ?_
  obtain ⟨x6, hx6, hN⟩ := bind_some hN
  rcases thenL_some hN with ⟨s14, hs14, hN⟩ | ⟨v16, hs14, hN⟩
  · obtain ⟨j15, es14⟩ : ∃ jx, loopS (gNm 5) (mSeq (mAsg (m2 subD (m2 ixD (mVar 2) (m2 addD (mVar 5) (mVar 3))) (m2 ixD (mVar 2) (mVar 5))) (gNm 6))
    (mIfS (cTruth (m2 gtD (mVar 6) (mVar 4))) (mRet (mTup (mCons (mVar 3) (mCons (mVar 5) (mCons (m2 subD (mVar 6) (mVar 4)) (mNil)))))) (mNext))) (x6.map eI) [.dat ((eL eI) p_record), .dat (cCurve p_curve), .dat ((eL eI) x2), .dat (eI i4), .dat (eI x5), (j 5), (j 6)] = .ok .nx (((fun (s : Unit) (j : Nat → Slot) => [.dat ((eL eI) p_record), .dat (cCurve p_curve), .dat ((eL eI) x2), .dat (eI i4), .dat (eI x5), (j 5), (j 6)])) s14 jx) := le_nx (forL_ok (T := (fun (s : Unit) (j : Nat → Slot) => [.dat ((eL eI) p_record), .dat (cCurve p_curve), .dat ((eL eI) x2), .dat (eI i4), .dat (eI x5), (j 5), (j 6)])) (RT := (RTo 0 (res_breach_liC))) (f := eI) rto (fun x12 s13 j z h => n_breach_liC_b2 x2 i4 x5 p_record p_curve x12 h j) x6 () (fun i => List.getD [.dat ((eL eI) p_record), .dat (cCurve p_curve), .dat ((eL eI) x2), .dat (eI i4), .dat (eI x5), (j 5), (j 6)] i .no) _ hs14)
    refine s_for (ds := x6.map eI) (i_its (x_cons (x_2 (x_2 (x_call (x_cons (x_var rfl) x_nil) (q_len (f := eI))) (x_var rfl) rfl) x_C rfl) x_nil) (q_range1 hx6)) (s_run (S1 := [.dat ((eL eI) p_record), .dat (cCurve p_curve), .dat ((eL eI) x2), .dat (eI i4), .dat (eI x5), (j15 5), (j15 6)]) es14 ?_)
    obtain rfl := Option.some.inj hN
    exact lb_nx rfl
  · have es14 : RTo 0 (res_breach_liC) v16 (loopS (gNm 5) (mSeq (mAsg (m2 subD (m2 ixD (mVar 2) (m2 addD (mVar 5) (mVar 3))) (m2 ixD (mVar 2) (mVar 5))) (gNm 6))
    (mIfS (cTruth (m2 gtD (mVar 6) (mVar 4))) (mRet (mTup (mCons (mVar 3) (mCons (mVar 5) (mCons (m2 subD (mVar 6) (mVar 4)) (mNil)))))) (mNext))) (x6.map eI) [.dat ((eL eI) p_record), .dat (cCurve p_curve), .dat ((eL eI) x2), .dat (eI i4), .dat (eI x5), (j 5), (j 6)]) := le_rt (forL_ok (T := (fun (s : Unit) (j : Nat → Slot) => [.dat ((eL eI) p_record), .dat (cCurve p_curve), .dat ((eL eI) x2), .dat (eI i4), .dat (eI x5), (j 5), (j 6)])) (RT := (RTo 0 (res_breach_liC))) (f := eI) rto (fun x12 s13 j z h => n_breach_liC_b2 x2 i4 x5 p_record p_curve x12 h j) x6 () (fun i => List.getD [.dat ((eL eI) p_record), .dat (cCurve p_curve), .dat ((eL eI) x2), .dat (eI i4), .dat (eI x5), (j 5), (j 6)] i .no) _ hs14)
    subst hN
    exact s_for (ds := x6.map eI) (i_its (x_cons (x_2 (x_2 (x_call (x_cons (x_var rfl) x_nil) (q_len (f := eI))) (x_var rfl) rfl) x_C rfl) x_nil) (q_range1 hx6)) (s_rto es14 es14)
def N_breach_liC (p_record : (List Int)) (p_curve : ((List Int) × Int × Int)) : Option ((Option (Int × Int × Int))) :=
  (N_check_record_li p_record).bind fun x1 => (N_sums_of_li p_record).bind fun x2 => (range2N 1 (((p_record.length : Int)) + 1)).bind fun x3 => thenL (ρ := (Option (Int × Int × Int))) id (forL (fun (x17 : Int) (s18 : Unit) => N_breach_liC_b1 p_record p_curve x2 x17) x3 ()) fun s19 => some none
theorem n_breach_liC {p_record : (List Int)} {p_curve : ((List Int) × Int × Int)} {a : (Option (Int × Int × Int))} (hN : N_breach_liC p_record p_curve = some a) : F_breach [.dat ((eL eI) p_record), .dat (cCurve p_curve)] = res_breach_liC a := by
  unfold N_breach_liC at hN
  refine f_run (k := 0) (S := [.dat ((eL eI) p_record), .dat (cCurve p_curve), .no, .no, .no, .no, .no]) rfl rfl rfl ?_
  unfold m_breach
  refine s_last ?_
  refine s_assoc ?_
  obtain ⟨x1, hx1, hN⟩ := bind_some hN
  refine s_drop (S1 := [.dat ((eL eI) p_record), .dat (cCurve p_curve), .no, .no, .no, .no, .no]) (x_callF (fs := [.dat ((eL eI) p_record)]) (is := []) (outs := []) (S3 := [.dat ((eL eI) p_record), .dat (cCurve p_curve), .no, .no, .no, .no, .no]) (v_dat (x_var rfl) v_nil) v_nil ⟨rfl, rfl⟩ rfl rfl (n_check_record_li hx1) rfl) ?_
  refine s_assoc ?_
  obtain ⟨x2, hx2, hN⟩ := bind_some hN
  refine s_asg (S2 := [.dat ((eL eI) p_record), .dat (cCurve p_curve), .dat ((eL eI) x2), .no, .no, .no, .no]) (x_callF (fs := [.dat ((eL eI) p_record)]) (is := []) (outs := []) (S3 := [.dat ((eL eI) p_record), .dat (cCurve p_curve), .no, .no, .no, .no, .no]) (v_dat (x_var rfl) v_nil) v_nil ⟨rfl, rfl⟩ rfl rfl (n_sums_of_li hx2) rfl) rfl ?_
  refine s_assoc ?_
  obtain ⟨x3, hx3, hN⟩ := bind_some hN
  rcases thenL_some hN with ⟨s19, hs19, hN⟩ | ⟨v21, hs19, hN⟩
  · obtain ⟨j20, es19⟩ : ∃ jx, loopS (gNm 3) (mSeq (mAsg (mMeth ["Curve"] "at" F_Curve_at 1 (fun as bs => [as.getD 0 (.dat .non), as.getD 1 (.dat .non)]) (mVar 1) (vDat (mVar 3) (vNil))) (gNm 4))
    (mFor (mIts range1 (mCons (m2 addD (m2 subD (mCall lenC (mCons (mVar 0) (mNil))) (mVar 3)) (mC (.int 1))) (mNil))) (gNm 5) (mSeq (mAsg (m2 subD (m2 ixD (mVar 2) (m2 addD (mVar 5) (mVar 3))) (m2 ixD (mVar 2) (mVar 5))) (gNm 6))
    (mIfS (cTruth (m2 gtD (mVar 6) (mVar 4))) (mRet (mTup (mCons (mVar 3) (mCons (mVar 5) (mCons (m2 subD (mVar 6) (mVar 4)) (mNil)))))) (mNext))))) (x3.map eI) [.dat ((eL eI) p_record), .dat (cCurve p_curve), .dat ((eL eI) x2), .no, .no, .no, .no] = .ok .nx (((fun (s : Unit) (j : Nat → Slot) => [.dat ((eL eI) p_record), .dat (cCurve p_curve), .dat ((eL eI) x2), (j 3), (j 4), (j 5), (j 6)])) s19 jx) := le_nx (forL_ok (T := (fun (s : Unit) (j : Nat → Slot) => [.dat ((eL eI) p_record), .dat (cCurve p_curve), .dat ((eL eI) x2), (j 3), (j 4), (j 5), (j 6)])) (RT := (RTo 0 (res_breach_liC))) (f := eI) rto (fun x17 s18 j z h => n_breach_liC_b1 p_record p_curve x2 x17 h j) x3 () (fun i => List.getD [.dat ((eL eI) p_record), .dat (cCurve p_curve), .dat ((eL eI) x2), .no, .no, .no, .no] i .no) _ hs19)
    refine s_for (ds := x3.map eI) (i_its (x_cons x_C (x_cons (x_2 (x_call (x_cons (x_var rfl) x_nil) (q_len (f := eI))) x_C rfl) x_nil)) (q_range2 hx3)) (s_run (S1 := [.dat ((eL eI) p_record), .dat (cCurve p_curve), .dat ((eL eI) x2), (j20 3), (j20 4), (j20 5), (j20 6)]) es19 ?_)
    refine s_ret x_C ?_
    obtain rfl := Option.some.inj hN
    exact rfl
  · have es19 : RTo 0 (res_breach_liC) v21 (loopS (gNm 3) (mSeq (mAsg (mMeth ["Curve"] "at" F_Curve_at 1 (fun as bs => [as.getD 0 (.dat .non), as.getD 1 (.dat .non)]) (mVar 1) (vDat (mVar 3) (vNil))) (gNm 4))
    (mFor (mIts range1 (mCons (m2 addD (m2 subD (mCall lenC (mCons (mVar 0) (mNil))) (mVar 3)) (mC (.int 1))) (mNil))) (gNm 5) (mSeq (mAsg (m2 subD (m2 ixD (mVar 2) (m2 addD (mVar 5) (mVar 3))) (m2 ixD (mVar 2) (mVar 5))) (gNm 6))
    (mIfS (cTruth (m2 gtD (mVar 6) (mVar 4))) (mRet (mTup (mCons (mVar 3) (mCons (mVar 5) (mCons (m2 subD (mVar 6) (mVar 4)) (mNil)))))) (mNext))))) (x3.map eI) [.dat ((eL eI) p_record), .dat (cCurve p_curve), .dat ((eL eI) x2), .no, .no, .no, .no]) := le_rt (forL_ok (T := (fun (s : Unit) (j : Nat → Slot) => [.dat ((eL eI) p_record), .dat (cCurve p_curve), .dat ((eL eI) x2), (j 3), (j 4), (j 5), (j 6)])) (RT := (RTo 0 (res_breach_liC))) (f := eI) rto (fun x17 s18 j z h => n_breach_liC_b1 p_record p_curve x2 x17 h j) x3 () (fun i => List.getD [.dat ((eL eI) p_record), .dat (cCurve p_curve), .dat ((eL eI) x2), .no, .no, .no, .no] i .no) _ hs19)
    subst hN
    exact s_for (ds := x3.map eI) (i_its (x_cons x_C (x_cons (x_2 (x_call (x_cons (x_var rfl) x_nil) (q_len (f := eI))) x_C rfl) x_nil)) (q_range2 hx3)) (s_rto es19 es19.2)
def res_keeps_liC (a : Bool) : RF := .ok (eB a) []
def N_keeps_liC (p_record : (List Int)) (p_curve : ((List Int) × Int × Int)) : Option (Bool) :=
  (N_breach_liC p_record p_curve).bind fun x1 => some (x1.isNone)
theorem n_keeps_liC {p_record : (List Int)} {p_curve : ((List Int) × Int × Int)} {a : Bool} (hN : N_keeps_liC p_record p_curve = some a) : F_keeps [.dat ((eL eI) p_record), .dat (cCurve p_curve)] = res_keeps_liC a := by
  unfold N_keeps_liC at hN
  refine f_run (k := 0) (S := [.dat ((eL eI) p_record), .dat (cCurve p_curve)]) rfl rfl rfl ?_
  unfold m_keeps
  refine s_last ?_
  obtain ⟨x1, hx1, hN⟩ := bind_some hN
  refine s_ret (x_2 (x_callF (fs := [.dat ((eL eI) p_record), .dat (cCurve p_curve)]) (is := []) (outs := []) (S3 := [.dat ((eL eI) p_record), .dat (cCurve p_curve)]) (v_dat (x_var rfl) (v_dat (x_var rfl) v_nil)) v_nil ⟨rfl, rfl⟩ rfl rfl (n_breach_liC hx1) rfl) x_C (q_isN (f := (e3 eI eI eI)) (fun _ => nofun))) ?_
  obtain rfl := Option.some.inj hN
  exact rfl
def res_l_right (a : Bool × Rg) : RF := .ok (eB a.1) [a.2.own]
def N_l_right (p_rng : Rg) : Option (Bool × Rg) :=
  (N_l_row p_rng).bind fun x1 => (N_l_record x1.2 x1.1).bind fun x2 => (N_Curve_init0_liii x1.1.1 x1.1.2.1 x1.1.2.2).bind fun x3 => (reprS ((eL eI) x2.1)).bind fun x4 => (N_l_walked x1.1 x2.1).bind fun x5 => (N_shaped_liC x2.1 x3).bind fun x6 => (reprS ((eL eI) x6)).bind fun x7 => (reprS ((eL eI) x5)).bind fun x8 => (if (!decide (x7 = x8)) = true then some true else (N_l_is_kept x1.1 x6).bind fun x9 => (if (!x9) = true then some true else (N_breach_liC x6 x3).bind fun x10 => some (x10.isSome)).bind fun x11 => some x11).bind fun x12 => if x12 = true then some ((false, x2.2)) else (N_shaped_liC x6 x3).bind fun x13 => (reprS ((eL eI) x13)).bind fun x14 => (reprS ((eL eI) x5)).bind fun x15 => (if (!decide (x14 = x15)) = true then some true else (N_keeps_liC x2.1 x3).bind fun x16 => (eqB ((eL eI) x5) ((eL eI) x2.1)).bind fun x17 => some (!decide (x16 = x17))).bind fun x18 => if x18 = true then some ((false, x2.2)) else (drawN x2.2 5).bind fun d19 => (drawN d19.2 2).bind fun d20 => (catN x2.1 ([d19.1, d20.1])).bind fun x21 => (N_shaped_liC x21 x3).bind fun x22 => (reprS ((eL eI) (cutL x22 none (some ((x2.1.length : Int)))))).bind fun x23 => (reprS ((eL eI) x5)).bind fun x24 => (if (!decide (x23 = x24)) = true then some true else (N_shaped_liC x21 x3).bind fun x25 => some (!decide ((x25.length : Int) = (x21.length : Int)))).bind fun x26 => if x26 = true then some ((false, d20.2)) else (appN x6 1).bind fun v27 => (N_shaped_liC x2.1 x3).bind fun x28 => (reprS ((eL eI) x28)).bind fun x29 => (reprS ((eL eI) x5)).bind fun x30 => (if (decide (x29 = x30)) = true then (reprS ((eL eI) x2.1)).bind fun x31 => some (decide (x31 = x4)) else some false).bind fun x32 => some ((x32, d20.2))
theorem n_l_right {p_rng : Rg} {a : Bool × Rg} (hN : N_l_right p_rng = some a) : F_l_right [.own p_rng.own] = res_l_right a := by
  unfold N_l_right at hN
  refine f_run (k := 1) (S := [.own 0 p_rng.own, .no, .no, .no, .no, .no, .no, .no]) rfl rfl rfl ?_
  unfold m_l_right
  refine s_last ?_
  refine s_assoc ?_
  obtain ⟨x1, hx1, hN⟩ := bind_some hN
  refine s_asg (S2 := [.own 0 x1.2.own, .dat ((e3 (eL eI) eI eI) x1.1), .no, .no, .no, .no, .no, .no]) (x_callF (fs := [.own p_rng.own]) (is := [0]) (outs := [x1.2.own]) (S3 := [.own 0 x1.2.own, .no, .no, .no, .no, .no, .no, .no]) (v_slot rfl v_nil) v_nil ⟨rfl, rfl⟩ rfl rfl (n_l_row hx1) rfl) rfl ?_
  refine s_assoc ?_
  obtain ⟨x2, hx2, hN⟩ := bind_some hN
  obtain ⟨x3, hx3, hN⟩ := bind_some hN
  refine s_par (S2 := [.own 0 x2.2.own, .dat ((e3 (eL eI) eI eI) x1.1), .no, .no, .dat ((eL eI) x2.1), .dat (cCurve x3), .no, .no]) (ma_eq2 (x_cons (x_callF (fs := [.own x1.2.own, .dat ((e3 (eL eI) eI eI) x1.1)]) (is := [0]) (outs := [x2.2.own]) (S3 := [.own 0 x2.2.own, .dat ((e3 (eL eI) eI eI) x1.1), .no, .no, .no, .no, .no, .no]) (v_slot rfl (v_dat (x_var rfl) v_nil)) v_nil ⟨rfl, rfl⟩ rfl rfl (n_l_record hx2) rfl) (x_cons (x_make (fs := [.dat ((eL eI) x1.1.1), .dat (eI x1.1.2.1), .dat (eI x1.1.2.2)]) (gs := cCurveF x3) (v_dat (x_call (x_cons (x_2 (x_var rfl) x_C rfl) x_nil) rfl) v_nil) (v_dat (x_2 (x_var rfl) x_C rfl) (v_dat (x_2 (x_var rfl) x_C rfl) v_nil)) ⟨rfl, rfl⟩ rfl (n_Curve_init0_liii hx3)) x_nil)) rfl rfl) rfl ?_
  refine s_assoc ?_
  obtain ⟨x4, hx4, hN⟩ := bind_some hN
  obtain ⟨x5, hx5, hN⟩ := bind_some hN
  refine s_par (S2 := [.own 0 x2.2.own, .dat ((e3 (eL eI) eI eI) x1.1), .no, .no, .dat ((eL eI) x2.1), .dat (cCurve x3), .dat (eS x4), .dat ((eL eI) x5)]) (ma_eq2 (x_cons (x_call (x_cons (x_var rfl) x_nil) (q_repr hx4)) (x_cons (x_callF (fs := [.dat ((e3 (eL eI) eI eI) x1.1), .dat ((eL eI) x2.1)]) (is := []) (outs := []) (S3 := [.own 0 x2.2.own, .dat ((e3 (eL eI) eI eI) x1.1), .no, .no, .dat ((eL eI) x2.1), .dat (cCurve x3), .no, .no]) (v_dat (x_var rfl) (v_dat (x_var rfl) v_nil)) v_nil ⟨rfl, rfl⟩ rfl rfl (n_l_walked hx5) rfl) x_nil)) rfl rfl) rfl ?_
  refine s_assoc ?_
  obtain ⟨x6, hx6, hN⟩ := bind_some hN
  refine s_setF (S2 := [.own 0 x2.2.own, .dat ((e3 (eL eI) eI eI) x1.1), .loc (x6.map eI), .no, .dat ((eL eI) x2.1), .dat (cCurve x3), .dat (eS x4), .dat ((eL eI) x5)]) (l_callN (fs := [.dat ((eL eI) x2.1), .dat (cCurve x3)]) (is := []) (outs := []) (S2 := [.own 0 x2.2.own, .dat ((e3 (eL eI) eI eI) x1.1), .no, .no, .dat ((eL eI) x2.1), .dat (cCurve x3), .dat (eS x4), .dat ((eL eI) x5)]) (v_dat (x_var rfl) (v_dat (x_var rfl) v_nil)) rfl rfl rfl (n_shaped_liC hx6) rfl) rfl ?_
  refine s_assoc ?_
  obtain ⟨x7, hx7, hN⟩ := bind_some hN
  obtain ⟨x8, hx8, hN⟩ := bind_some hN
  obtain ⟨x12, hx12, hN⟩ := bind_some hN
  rcases ite_some hN with ⟨c35, hN⟩ | ⟨c35, hN⟩
  · refine s_ifT (t_orQ (val := fun v => v) (st := fun v => [.own 0 x2.2.own, .dat ((e3 (eL eI) eI eI) x1.1), .loc (x6.map eI), .no, .dat ((eL eI) x2.1), .dat (cCurve x3), .dat (eS x4), .dat ((eL eI) x5)]) (t_truth (x_2 (x_callP rfl rfl (q_repr hx7) rfl) (x_call (x_cons (x_var rfl) x_nil) (q_repr hx8)) rfl)) (fun v hv => by (obtain ⟨x9, hx9, hv⟩ := bind_some hv; obtain ⟨x11, hx11, hv⟩ := bind_some hv; obtain rfl := Option.some.inj hv; exact (t_orQ (val := fun v => v) (st := fun v => [.own 0 x2.2.own, .dat ((e3 (eL eI) eI eI) x1.1), .loc (x6.map eI), .no, .dat ((eL eI) x2.1), .dat (cCurve x3), .dat (eS x4), .dat ((eL eI) x5)]) (t_not (t_truth (x_callF (fs := [.dat ((e3 (eL eI) eI eI) x1.1), .own (.lst (x6.map eI))]) (is := [2]) (outs := [.lst (x6.map eI)]) (S3 := [.own 0 x2.2.own, .dat ((e3 (eL eI) eI eI) x1.1), .loc (x6.map eI), .no, .dat ((eL eI) x2.1), .dat (cCurve x3), .dat (eS x4), .dat ((eL eI) x5)]) (v_dat (x_var rfl) (v_varS rfl v_nil)) v_nil ⟨rfl, rfl⟩ rfl rfl (q_see rfl (n_l_is_kept hx9) (fl_B _) flO_nil) rfl))) (fun v hv => by (obtain ⟨x10, hx10, hv⟩ := bind_some hv; obtain rfl := Option.some.inj hv; exact (t_truth (x_2 (x_callF (fs := [.own (.lst (x6.map eI)), .dat (cCurve x3)]) (is := [2]) (outs := [.lst (x6.map eI)]) (S3 := [.own 0 x2.2.own, .dat ((e3 (eL eI) eI eI) x1.1), .loc (x6.map eI), .no, .dat ((eL eI) x2.1), .dat (cCurve x3), .dat (eS x4), .dat ((eL eI) x5)]) (v_varS rfl (v_dat (x_var rfl) v_nil)) v_nil ⟨rfl, rfl⟩ rfl rfl (q_see rfl (n_breach_liC hx10) ((fl_O (fl_3 fl_I fl_I fl_I)) _) flO_nil) rfl) x_C (q_notN (f := (e3 eI eI eI)) (fun _ => nofun)))))) rfl rfl hx11))) rfl rfl hx12) c35 ?_
    refine s_ret x_C ?_
    obtain rfl := Option.some.inj hN
    exact rfl
  · refine s_ifF (t_orQ (val := fun v => v) (st := fun v => [.own 0 x2.2.own, .dat ((e3 (eL eI) eI eI) x1.1), .loc (x6.map eI), .no, .dat ((eL eI) x2.1), .dat (cCurve x3), .dat (eS x4), .dat ((eL eI) x5)]) (t_truth (x_2 (x_callP rfl rfl (q_repr hx7) rfl) (x_call (x_cons (x_var rfl) x_nil) (q_repr hx8)) rfl)) (fun v hv => by (obtain ⟨x9, hx9, hv⟩ := bind_some hv; obtain ⟨x11, hx11, hv⟩ := bind_some hv; obtain rfl := Option.some.inj hv; exact (t_orQ (val := fun v => v) (st := fun v => [.own 0 x2.2.own, .dat ((e3 (eL eI) eI eI) x1.1), .loc (x6.map eI), .no, .dat ((eL eI) x2.1), .dat (cCurve x3), .dat (eS x4), .dat ((eL eI) x5)]) (t_not (t_truth (x_callF (fs := [.dat ((e3 (eL eI) eI eI) x1.1), .own (.lst (x6.map eI))]) (is := [2]) (outs := [.lst (x6.map eI)]) (S3 := [.own 0 x2.2.own, .dat ((e3 (eL eI) eI eI) x1.1), .loc (x6.map eI), .no, .dat ((eL eI) x2.1), .dat (cCurve x3), .dat (eS x4), .dat ((eL eI) x5)]) (v_dat (x_var rfl) (v_varS rfl v_nil)) v_nil ⟨rfl, rfl⟩ rfl rfl (q_see rfl (n_l_is_kept hx9) (fl_B _) flO_nil) rfl))) (fun v hv => by (obtain ⟨x10, hx10, hv⟩ := bind_some hv; obtain rfl := Option.some.inj hv; exact (t_truth (x_2 (x_callF (fs := [.own (.lst (x6.map eI)), .dat (cCurve x3)]) (is := [2]) (outs := [.lst (x6.map eI)]) (S3 := [.own 0 x2.2.own, .dat ((e3 (eL eI) eI eI) x1.1), .loc (x6.map eI), .no, .dat ((eL eI) x2.1), .dat (cCurve x3), .dat (eS x4), .dat ((eL eI) x5)]) (v_varS rfl (v_dat (x_var rfl) v_nil)) v_nil ⟨rfl, rfl⟩ rfl rfl (q_see rfl (n_breach_liC hx10) ((fl_O (fl_3 fl_I fl_I fl_I)) _) flO_nil) rfl) x_C (q_notN (f := (e3 eI eI eI)) (fun _ => nofun)))))) rfl rfl hx11))) rfl rfl hx12) c35 ?_
    refine s_next ?_
    refine s_assoc ?_
    obtain ⟨x13, hx13, hN⟩ := bind_some hN
    obtain ⟨x14, hx14, hN⟩ := bind_some hN
    obtain ⟨x15, hx15, hN⟩ := bind_some hN
    obtain ⟨x18, hx18, hN⟩ := bind_some hN
    rcases ite_some hN with ⟨c34, hN⟩ | ⟨c34, hN⟩
    · refine s_ifT (t_orQ (val := fun v => v) (st := fun v => [.own 0 x2.2.own, .dat ((e3 (eL eI) eI eI) x1.1), .loc (x6.map eI), .no, .dat ((eL eI) x2.1), .dat (cCurve x3), .dat (eS x4), .dat ((eL eI) x5)]) (t_truth (x_2 (x_call (x_cons (x_callF (fs := [.own (.lst (x6.map eI)), .dat (cCurve x3)]) (is := [2]) (outs := [.lst (x6.map eI)]) (S3 := [.own 0 x2.2.own, .dat ((e3 (eL eI) eI eI) x1.1), .loc (x6.map eI), .no, .dat ((eL eI) x2.1), .dat (cCurve x3), .dat (eS x4), .dat ((eL eI) x5)]) (v_varS rfl (v_dat (x_var rfl) v_nil)) v_nil ⟨rfl, rfl⟩ rfl rfl (q_dat (q_seeN rfl (n_shaped_liC hx13) (fls fl_I _) flO_nil)) rfl) x_nil) (q_repr hx14)) (x_call (x_cons (x_var rfl) x_nil) (q_repr hx15)) rfl)) (fun v hv => by (obtain ⟨x16, hx16, hv⟩ := bind_some hv; obtain ⟨x17, hx17, hv⟩ := bind_some hv; obtain rfl := Option.some.inj hv; exact (t_truth (x_2 (x_callF (fs := [.dat ((eL eI) x2.1), .dat (cCurve x3)]) (is := []) (outs := []) (S3 := [.own 0 x2.2.own, .dat ((e3 (eL eI) eI eI) x1.1), .loc (x6.map eI), .no, .dat ((eL eI) x2.1), .dat (cCurve x3), .dat (eS x4), .dat ((eL eI) x5)]) (v_dat (x_var rfl) (v_dat (x_var rfl) v_nil)) v_nil ⟨rfl, rfl⟩ rfl rfl (n_keeps_liC hx16) rfl) (x_2 (x_var rfl) (x_var rfl) (q_eq hx17)) rfl)))) rfl rfl hx18) c34 ?_
      refine s_ret x_C ?_
      obtain rfl := Option.some.inj hN
      exact rfl
    · refine s_ifF (t_orQ (val := fun v => v) (st := fun v => [.own 0 x2.2.own, .dat ((e3 (eL eI) eI eI) x1.1), .loc (x6.map eI), .no, .dat ((eL eI) x2.1), .dat (cCurve x3), .dat (eS x4), .dat ((eL eI) x5)]) (t_truth (x_2 (x_call (x_cons (x_callF (fs := [.own (.lst (x6.map eI)), .dat (cCurve x3)]) (is := [2]) (outs := [.lst (x6.map eI)]) (S3 := [.own 0 x2.2.own, .dat ((e3 (eL eI) eI eI) x1.1), .loc (x6.map eI), .no, .dat ((eL eI) x2.1), .dat (cCurve x3), .dat (eS x4), .dat ((eL eI) x5)]) (v_varS rfl (v_dat (x_var rfl) v_nil)) v_nil ⟨rfl, rfl⟩ rfl rfl (q_dat (q_seeN rfl (n_shaped_liC hx13) (fls fl_I _) flO_nil)) rfl) x_nil) (q_repr hx14)) (x_call (x_cons (x_var rfl) x_nil) (q_repr hx15)) rfl)) (fun v hv => by (obtain ⟨x16, hx16, hv⟩ := bind_some hv; obtain ⟨x17, hx17, hv⟩ := bind_some hv; obtain rfl := Option.some.inj hv; exact (t_truth (x_2 (x_callF (fs := [.dat ((eL eI) x2.1), .dat (cCurve x3)]) (is := []) (outs := []) (S3 := [.own 0 x2.2.own, .dat ((e3 (eL eI) eI eI) x1.1), .loc (x6.map eI), .no, .dat ((eL eI) x2.1), .dat (cCurve x3), .dat (eS x4), .dat ((eL eI) x5)]) (v_dat (x_var rfl) (v_dat (x_var rfl) v_nil)) v_nil ⟨rfl, rfl⟩ rfl rfl (n_keeps_liC hx16) rfl) (x_2 (x_var rfl) (x_var rfl) (q_eq hx17)) rfl)))) rfl rfl hx18) c34 ?_
      refine s_next ?_
      refine s_assoc ?_
      obtain ⟨d19, hd19, hN⟩ := bind_some hN
      obtain ⟨d20, hd20, hN⟩ := bind_some hN
      obtain ⟨x21, hx21, hN⟩ := bind_some hN
      refine s_asg (S2 := [.own 0 d20.2.own, .dat ((e3 (eL eI) eI eI) x1.1), .loc (x6.map eI), .dat ((eL eI) x21), .dat ((eL eI) x2.1), .dat (cCurve x3), .dat (eS x4), .dat ((eL eI) x5)]) (x_2 (x_var rfl) (x_eq (x_lst (x_cons (x_callF (fs := [.own x2.2.own, .dat (.int 5)]) (is := [0]) (outs := [d19.2.own]) (S3 := [.own 0 d19.2.own, .dat ((e3 (eL eI) eI eI) x1.1), .loc (x6.map eI), .no, .dat ((eL eI) x2.1), .dat (cCurve x3), .dat (eS x4), .dat ((eL eI) x5)]) (v_slot rfl (v_dat x_C v_nil)) v_nil ⟨rfl, rfl⟩ rfl rfl (n_draw hd19) rfl) (x_cons (x_callF (fs := [.own d19.2.own, .dat (.int 2)]) (is := [0]) (outs := [d20.2.own]) (S3 := [.own 0 d20.2.own, .dat ((e3 (eL eI) eI eI) x1.1), .loc (x6.map eI), .no, .dat ((eL eI) x2.1), .dat (cCurve x3), .dat (eS x4), .dat ((eL eI) x5)]) (v_slot rfl (v_dat x_C v_nil)) v_nil ⟨rfl, rfl⟩ rfl rfl (n_draw hd20) rfl) x_nil)) (Nat.le_of_ble_eq_true rfl)) (by rfl)) (q_cat (f := eI) hx21)) rfl ?_
      refine s_assoc ?_
      obtain ⟨x22, hx22, hN⟩ := bind_some hN
      obtain ⟨x23, hx23, hN⟩ := bind_some hN
      obtain ⟨x24, hx24, hN⟩ := bind_some hN
      obtain ⟨x26, hx26, hN⟩ := bind_some hN
      rcases ite_some hN with ⟨c33, hN⟩ | ⟨c33, hN⟩
      · refine s_ifT (t_orQ (val := fun v => v) (st := fun v => [.own 0 d20.2.own, .dat ((e3 (eL eI) eI eI) x1.1), .loc (x6.map eI), .dat ((eL eI) x21), .dat ((eL eI) x2.1), .dat (cCurve x3), .dat (eS x4), .dat ((eL eI) x5)]) (t_truth (x_2 (x_call (x_cons (x_sl (x_callF (fs := [.dat ((eL eI) x21), .dat (cCurve x3)]) (is := []) (outs := []) (S3 := [.own 0 d20.2.own, .dat ((e3 (eL eI) eI eI) x1.1), .loc (x6.map eI), .dat ((eL eI) x21), .dat ((eL eI) x2.1), .dat (cCurve x3), .dat (eS x4), .dat ((eL eI) x5)]) (v_dat (x_var rfl) (v_dat (x_var rfl) v_nil)) v_nil ⟨rfl, rfl⟩ rfl rfl (q_dat (n_shaped_liC hx22)) rfl) o_n (o_s (x_call (x_cons (x_var rfl) x_nil) (q_len (f := eI)))) (q_slice (f := eI))) x_nil) (q_repr hx23)) (x_call (x_cons (x_var rfl) x_nil) (q_repr hx24)) rfl)) (fun v hv => by (obtain ⟨x25, hx25, hv⟩ := bind_some hv; obtain rfl := Option.some.inj hv; exact (t_truth (x_2 (x_call (x_cons (x_callF (fs := [.dat ((eL eI) x21), .dat (cCurve x3)]) (is := []) (outs := []) (S3 := [.own 0 d20.2.own, .dat ((e3 (eL eI) eI eI) x1.1), .loc (x6.map eI), .dat ((eL eI) x21), .dat ((eL eI) x2.1), .dat (cCurve x3), .dat (eS x4), .dat ((eL eI) x5)]) (v_dat (x_var rfl) (v_dat (x_var rfl) v_nil)) v_nil ⟨rfl, rfl⟩ rfl rfl (q_dat (n_shaped_liC hx25)) rfl) x_nil) (q_len (f := eI))) (x_call (x_cons (x_var rfl) x_nil) (q_len (f := eI))) rfl)))) rfl rfl hx26) c33 ?_
        refine s_ret x_C ?_
        obtain rfl := Option.some.inj hN
        exact rfl
      · refine s_ifF (t_orQ (val := fun v => v) (st := fun v => [.own 0 d20.2.own, .dat ((e3 (eL eI) eI eI) x1.1), .loc (x6.map eI), .dat ((eL eI) x21), .dat ((eL eI) x2.1), .dat (cCurve x3), .dat (eS x4), .dat ((eL eI) x5)]) (t_truth (x_2 (x_call (x_cons (x_sl (x_callF (fs := [.dat ((eL eI) x21), .dat (cCurve x3)]) (is := []) (outs := []) (S3 := [.own 0 d20.2.own, .dat ((e3 (eL eI) eI eI) x1.1), .loc (x6.map eI), .dat ((eL eI) x21), .dat ((eL eI) x2.1), .dat (cCurve x3), .dat (eS x4), .dat ((eL eI) x5)]) (v_dat (x_var rfl) (v_dat (x_var rfl) v_nil)) v_nil ⟨rfl, rfl⟩ rfl rfl (q_dat (n_shaped_liC hx22)) rfl) o_n (o_s (x_call (x_cons (x_var rfl) x_nil) (q_len (f := eI)))) (q_slice (f := eI))) x_nil) (q_repr hx23)) (x_call (x_cons (x_var rfl) x_nil) (q_repr hx24)) rfl)) (fun v hv => by (obtain ⟨x25, hx25, hv⟩ := bind_some hv; obtain rfl := Option.some.inj hv; exact (t_truth (x_2 (x_call (x_cons (x_callF (fs := [.dat ((eL eI) x21), .dat (cCurve x3)]) (is := []) (outs := []) (S3 := [.own 0 d20.2.own, .dat ((e3 (eL eI) eI eI) x1.1), .loc (x6.map eI), .dat ((eL eI) x21), .dat ((eL eI) x2.1), .dat (cCurve x3), .dat (eS x4), .dat ((eL eI) x5)]) (v_dat (x_var rfl) (v_dat (x_var rfl) v_nil)) v_nil ⟨rfl, rfl⟩ rfl rfl (q_dat (n_shaped_liC hx25)) rfl) x_nil) (q_len (f := eI))) (x_call (x_cons (x_var rfl) x_nil) (q_len (f := eI))) rfl)))) rfl rfl hx26) c33 ?_
        refine s_next ?_
        refine s_assoc ?_
        obtain ⟨v27, hv27, hN⟩ := bind_some hN
        refine s_appL' (S2 := [.own 0 d20.2.own, .dat ((e3 (eL eI) eI eI) x1.1), .loc (v27.map eI), .dat ((eL eI) x21), .dat ((eL eI) x2.1), .dat (cCurve x3), .dat (eS x4), .dat ((eL eI) x5)]) rfl x_C rfl (q_app (f := eI) hv27) rfl ?_
        obtain ⟨x28, hx28, hN⟩ := bind_some hN
        obtain ⟨x29, hx29, hN⟩ := bind_some hN
        obtain ⟨x30, hx30, hN⟩ := bind_some hN
        obtain ⟨x32, hx32, hN⟩ := bind_some hN
        refine s_ret (x_andQ (val := fun v => v) (st := fun v => [.own 0 d20.2.own, .dat ((e3 (eL eI) eI eI) x1.1), .loc (v27.map eI), .dat ((eL eI) x21), .dat ((eL eI) x2.1), .dat (cCurve x3), .dat (eS x4), .dat ((eL eI) x5)]) (x_2 (x_call (x_cons (x_callF (fs := [.dat ((eL eI) x2.1), .dat (cCurve x3)]) (is := []) (outs := []) (S3 := [.own 0 d20.2.own, .dat ((e3 (eL eI) eI eI) x1.1), .loc (v27.map eI), .dat ((eL eI) x21), .dat ((eL eI) x2.1), .dat (cCurve x3), .dat (eS x4), .dat ((eL eI) x5)]) v_nil (v_dat (x_var rfl) (v_dat (x_var rfl) v_nil)) ⟨rfl, rfl⟩ rfl rfl (q_dat (n_shaped_liC hx28)) rfl) x_nil) (q_repr hx29)) (x_call (x_cons (x_var rfl) x_nil) (q_repr hx30)) rfl) (fun v hv => by (obtain ⟨x31, hx31, hv⟩ := bind_some hv; obtain rfl := Option.some.inj hv; exact (x_2 (x_call (x_cons (x_var rfl) x_nil) (q_repr hx31)) (x_var rfl) rfl))) rfl rfl hx32) ?_
        obtain rfl := Option.some.inj hN
        exact rfl
def res_law (a : Bool) : RF := .ok (eB a) []
def N_law (p_script : (List Int)) : Option (Bool) :=
  (range1N (max 2 (min ((p_script.length : Int)) 5))).bind fun x1 => (capO (mapO (fun y2 => (rngO p_script y2).bind fun g3 => (N_l_right g3).bind fun x4 => some x4.1) x1)).bind fun x5 => some (x5.all id)
theorem n_law {p_script : (List Int)} {a : Bool} (hN : N_law p_script = some a) : F_law [.dat ((eR eI) p_script)] = res_law a := by
  unfold N_law at hN
  refine f_run (k := 0) (S := [.dat ((eR eI) p_script), .no]) rfl rfl rfl ?_
  unfold m_law
  refine s_last ?_
  obtain ⟨x1, hx1, hN⟩ := bind_some hN
  obtain ⟨x5, hx5, hN⟩ := bind_some hN
  refine s_ret (x_call (x_cons (x_lc (lc_mapO (f := eI) (fo := eB) (nb := fun y2 => (rngO p_script y2).bind fun g3 => (N_l_right g3).bind fun x4 => some x4.1) (S0 := [.dat ((eR eI) p_script), .no]) (i_its (x_cons (x_call (x_cons x_C (x_cons (x_call (x_cons (x_call (x_cons (x_var rfl) x_nil) (q_lenR (f := eI))) (x_cons x_C x_nil)) q_min2) x_nil)) q_max2) x_nil) (q_range1 hx1)) rfl (fun y2 p hp => by (obtain ⟨g3, hg3, hp⟩ := bind_some hp; obtain ⟨x4, hx4, hp⟩ := bind_some hp; obtain rfl := Option.some.inj hp; exact ⟨[.dat ((eR eI) p_script), .dat (eI y2)], _, rfl, (x_lend (l_call (v_dat (x_var rfl) (v_dat (x_var rfl) v_nil)) rfl rfl (n_rng hg3)) (n_l_right hx4)), rfl⟩)) hx5)) x_nil) q_all) ?_
  obtain rfl := Option.some.inj hN
  exact rfl
end
end K24

namespace K24
open PySem Mir
/-! ### curves: what the program's functions tell -/
theorem value_0 {vs : List Int} {p : Nat} {g : Int} : N_value_at_liiii vs p g ((0 : Nat) : Int) = some (Crv.vat vs p g 0) := by
  unfold N_value_at_liiii
  rfl
theorem value_1 {vs : List Int} {p l : Nat} {g : Int} (h0 : ¬ l = 0) (h1 : l ≤ vs.length) : N_value_at_liiii vs p g l = some (Crv.vat vs p g l) := by
  unfold N_value_at_liiii
  rw [if_neg (by simp; omega)]
  rw [if_pos (by simp; omega), Crv.vat_in h0 h1, show (l : Int) - 1 = ((l - 1 : Nat) : Int) by omega, ix_getD 0 (by omega)]
  rfl
theorem value_2 {vs : List Int} {P g L t x : Int} (h0 : ¬ L = 0) (h1 : ¬ L ≤ vs.length) (hp : 0 < P) (hp2 : P < 1000) (ht : (L - vs.length + P - 1) / P = t) (t0 : 0 ≤ t) (t1 : t ≤ 2000000000000000000) (ix : ixN? vs (L - t * P - 1) = some x) : N_value_at_liiii vs P g L = some (x + t * g) := by
  unfold N_value_at_liiii
  rw [if_neg (by simp; omega), if_neg (by simp; omega), div_of hp (by omega)]
  simp only [bnd]
  rw [ht, mul_of (by omega) (by omega)]
  simp only [bnd]
  rw [ix]
  simp only [bnd]
  rw [mul_of (by omega) (by omega)]
  rfl
theorem value_nat {vs : List Int} {p l : Nat} {g : Int} (hp : 0 < p) (hn : p ≤ vs.length) (hp2 : p < 1000) (hl : (l : Int) < 1000000000000000000) : N_value_at_liiii vs p g l = some (Crv.vat vs p g l) := by
  by_cases h0 : l = 0
  · rw [h0]; exact value_0
  · by_cases h1 : l ≤ vs.length
    · exact value_1 h0 h1
    · rw [Crv.vat_out (by omega)]
      obtain ⟨t, ht⟩ : ∃ t : Nat, (l - vs.length + p - 1) / p = t := ⟨_, rfl⟩
      rw [ht]
      have ht2 : ((l : Int) - vs.length + p - 1) / p = (t : Int) := by
        rw [← ht, Int.natCast_ediv]
        congr 1
        omega
      have t1 : t * p ≤ l - vs.length + p - 1 := by rw [← ht]; exact Nat.div_mul_le_self _ _
      have t2 : l - vs.length + p - 1 < t * p + p := by
        have := Nat.lt_div_mul_add (a := l - vs.length + p - 1) hp
        rw [ht] at this
        exact this
      have ts : t ≤ l - vs.length + p - 1 := Nat.le_trans (Nat.le_mul_of_pos_right t hp) t1
      have ix : ixN? vs ((l : Int) - (t : Int) * (p : Int) - 1) = some (vs.getD (l - t * p - 1) 0) := by
        rw [show (l : Int) - (t : Int) * (p : Int) - 1 = ((l - t * p - 1 : Nat) : Int) by rw [← Int.natCast_mul]; omega, ix_getD 0 (by omega)]
      exact value_2 (by omega) (by omega) (by omega) (by omega) ht2 (by omega) (by omega) ix
def growth (vs : List Int) (p q : Nat) (g : Int) : Option Int :=
  if ∀ k, k < 12 → Crv.vat vs p g (vs.length + 1 + k + q) - Crv.vat vs p g (vs.length + 1 + k) = Crv.vat vs p g (vs.length + 1 + q) - Crv.vat vs p g (vs.length + 1) then some (Crv.vat vs p g (vs.length + 1 + q) - Crv.vat vs p g (vs.length + 1)) else none
theorem grows_run {vs : List Int} {p q : Nat} {g : Int} (hp : 0 < p) (hn : p ≤ vs.length) (hp2 : p < 1000) (hq : q < 1000) (hv : vs.length < 10000) : N_grows_by_liiii vs p g q = some (growth vs p q g) := by
  unfold N_grows_by_liiii
  simp only [bnd]
  have c1 : (vs.length : Int) + 1 + q = ((vs.length + 1 + q : Nat) : Int) := by omega
  have c2 : (vs.length : Int) + 1 = ((vs.length + 1 : Nat) : Int) := by omega
  rw [c1, value_nat hp hn hp2 (by omega)]
  simp only [bnd]
  rw [c2, value_nat hp hn hp2 (by omega)]
  simp only [bnd]
  rw [r2_of (by omega) (by omega) (by omega) (by omega)]
  simp only [bnd]
  obtain ⟨w, hw⟩ : ∃ w, Crv.vat vs p g (vs.length + 1 + q) - Crv.vat vs p g (vs.length + 1) = w := ⟨_, rfl⟩
  rw [forL_find (c := fun x : Int => if Crv.vat vs p g (x.toNat + q) - Crv.vat vs p g x.toNat = w then none else some (none : Option Int))]
  · rw [thenL_find]
    unfold growth
    rw [hw]
    by_cases h : ∀ k, k < 12 → Crv.vat vs p g (vs.length + 1 + k + q) - Crv.vat vs p g (vs.length + 1 + k) = w
    · rw [if_pos h]
      have e : (rangeI ((vs.length + 1 : Nat) : Int) (((vs.length + 1 : Nat) : Int) + 12)).findSome? (fun x : Int => if Crv.vat vs p g (x.toNat + q) - Crv.vat vs p g x.toNat = w then none else some (none : Option Int)) = none := by
        rw [List.findSome?_eq_none_iff]
        intro x hx
        rw [mem_rangeI] at hx
        rw [if_pos]
        have := h (x.toNat - (vs.length + 1)) (by omega)
        rw [show vs.length + 1 + (x.toNat - (vs.length + 1)) = x.toNat by omega] at this
        exact this
      rw [e]
    · rw [if_neg h]
      have e : (rangeI ((vs.length + 1 : Nat) : Int) (((vs.length + 1 : Nat) : Int) + 12)).findSome? (fun x : Int => if Crv.vat vs p g (x.toNat + q) - Crv.vat vs p g x.toNat = w then none else some (none : Option Int)) = some none := by
        cases e : (rangeI ((vs.length + 1 : Nat) : Int) (((vs.length + 1 : Nat) : Int) + 12)).findSome? (fun x : Int => if Crv.vat vs p g (x.toNat + q) - Crv.vat vs p g x.toNat = w then none else some (none : Option Int)) with
        | none =>
          refine absurd (fun k hk => ?_) h
          rw [List.findSome?_eq_none_iff] at e
          have := e (((vs.length + 1 + k : Nat)) : Int) (mem_rangeI.mpr ⟨by omega, by omega⟩)
          rw [Int.toNat_natCast] at this
          by_cases hz : Crv.vat vs p g (vs.length + 1 + k + q) - Crv.vat vs p g (vs.length + 1 + k) = w
          · exact hz
          · rw [if_neg hz] at this; cases this
        | some r =>
          obtain ⟨x, hx, hr⟩ := List.exists_of_findSome?_eq_some e
          split at hr
          · cases hr
          · cases hr; rfl
      rw [e]
      rfl
  · intro x hx
    rw [mem_rangeI] at hx
    obtain ⟨l, rfl⟩ : ∃ l : Nat, x = (l : Int) := ⟨x.toNat, by omega⟩
    unfold N_grows_by_liiii_b1
    rw [value_nat hp hn hp2 (by omega)]
    simp only [bnd]
    rw [← Int.natCast_add, value_nat hp hn hp2 (by omega)]
    simp only [bnd, Int.toNat_natCast]
    rw [hw]
    by_cases hz : Crv.vat vs p g (l + q) - Crv.vat vs p g l = w
    · rw [if_neg (by simp [hz]), if_pos hz]
    · rw [if_pos (by simp [hz]), if_neg hz]
/-- a growth that is told holds for ever -/
theorem growth_all {vs : List Int} {p q : Nat} {g w : Int} (hp : 0 < p) (hn : p ≤ vs.length) (hd : p ∣ 12) (h : growth vs p q g = some w) : ∀ l, vs.length < l → Crv.vat vs p g (l + q) = Crv.vat vs p g l + w := by
  unfold growth at h
  split at h
  · rename_i hz
    cases h
    exact Crv.grows_all (Crv.fits_vat hp hn) hd hz
  · cases h
/-- its own period grows -/
theorem growth_own {vs : List Int} {p : Nat} {g : Int} (hp : 0 < p) (hn : p ≤ vs.length) : growth vs p p g = some g := by
  have st : ∀ l, vs.length < l → Crv.vat vs p g (l + p) = Crv.vat vs p g l + g := fun l hl => by
    rw [Crv.vat_step hp hn (show vs.length < l + p by omega), Nat.add_sub_cancel]
  unfold growth
  rw [if_pos]
  · rw [st (vs.length + 1) (by omega)]; congr 1; omega
  · intro k _
    have a := st (vs.length + 1 + k) (by omega)
    have b := st (vs.length + 1) (by omega)
    omega
def per : List Nat := [1, 2, 3, 4, 6, 12]
theorem per_pos {q : Nat} (h : q ∈ per) : 0 < q ∧ q ≤ 12 ∧ q ∣ 12 := by
  unfold per at h
  simp only [List.mem_cons, List.not_mem_nil, or_false] at h
  rcases h with rfl | rfl | rfl | rfl | rfl | rfl <;> decide
/-- the popping -/
theorem form_loop {w : Int} {q : Nat} (f : Nat → Int) (q0 : 0 < q) : ∀ m, q ≤ m → (∀ l, m < l → f l = f (l - q) + w) → ∃ n m', q ≤ m' ∧ (∀ l, m' < l → f l = f (l - q) + w) ∧ m' ≤ m ∧ (m' = q ∨ ¬ f m' = f (m' - q) + w) ∧ whileF (fun s => N_form_of_liii_b1t q w s) (fun s => N_form_of_liii_b1 s) n (Crv.firsts f m) = some (Crv.firsts f m')
  | 0, h, _ => absurd h (by omega)
  | m + 1, h, hI => by
    have test : N_form_of_liii_b1t q w (Crv.firsts f (m + 1)) = some (decide (q < m + 1) && decide (f (m + 1) = f (m + 1 - q) + w)) := by
      unfold N_form_of_liii_b1t
      rw [Crv.firsts_len]
      by_cases hq : q < m + 1
      · rw [if_pos (by simp; omega), ix_last 0 (by rw [Crv.firsts_len]; omega), Crv.firsts_len, Crv.firsts_at f (l := m + 1) (by omega) (by omega)]
        simp only [bnd]
        rw [show (-1 : Int) - (q : Int) = -((q + 1 : Nat) : Int) by omega, ix_neg 0 (by omega) (by rw [Crv.firsts_len]; omega), Crv.firsts_len, show m + 1 - (q + 1) = (m + 1 - q) - 1 by omega, Crv.firsts_at f (l := m + 1 - q) (by omega) (by omega)]
        simp [hq]
      · rw [if_neg (by simp; omega)]
        simp [hq]
    by_cases hz : q < m + 1 ∧ f (m + 1) = f (m + 1 - q) + w
    · obtain ⟨n, m', a1, a2, a3, a5, a4⟩ := form_loop f q0 m (by omega) (fun l hl => by
        by_cases e : l = m + 1
        · rw [e]; exact hz.2
        · exact hI l (by omega))
      refine ⟨n + 1, m', a1, a2, by omega, a5, ?_⟩
      unfold whileF
      rw [test, decide_eq_true hz.1, decide_eq_true hz.2]
      simp only [Bool.and_self, bnd, if_true]
      have pp : N_form_of_liii_b1 (Crv.firsts f (m + 1)) = some (Crv.firsts f m) := by
        unfold N_form_of_liii_b1
        rw [pop_of (by intro z; have := Crv.firsts_len f (m + 1); rw [z] at this; cases this)]
        simp only [bnd]
        congr 1
        unfold Crv.firsts
        rw [List.range_succ, List.map_append]
        simp
      rw [pp]
      exact a4
    · refine ⟨1, m + 1, h, hI, Nat.le_refl _, ?_, ?_⟩
      · by_cases hq : q < m + 1
        · exact .inr fun z => hz ⟨hq, z⟩
        · exact .inl (by omega)
      · unfold whileF
        rw [test]
        have : (decide (q < m + 1) && decide (f (m + 1) = f (m + 1 - q) + w)) = false := by
          rw [Bool.and_eq_false_iff]
          by_cases hq : q < m + 1
          · exact .inr (by simp; exact fun z => hz ⟨hq, z⟩)
          · exact .inl (by simp; omega)
        rw [this]
        rfl
/-- what a form is -/
structure IsForm (f : Nat → Int) (xs : List Int) (q : Nat) (w : Int) : Prop where
  qm : q ∈ per
  fit : Crv.Fits f xs q w
  least : ∀ q', q' ∈ per → q' < q → ∀ w', ¬ ∃ n, ∀ l, n < l → f (l + q') = f l + w'
  short : xs.length = q ∨ ¬ f xs.length = f (xs.length - q) + w
theorem form_run {vs : List Int} {p : Nat} {g : Int} (hm : p ∈ per) (hn : p ≤ vs.length) (hv : vs.length < 5000) : ∃ (m q : Nat) (w : Int), m ≤ vs.length + 12 ∧ IsForm (Crv.vat vs p g) (Crv.firsts (Crv.vat vs p g) m) q w ∧
    N_form_of_liii vs p g = some (Crv.firsts (Crv.vat vs p g) m, (q : Int), w) := by
  obtain ⟨hp, hp12, hd⟩ := per_pos hm
  unfold N_form_of_liii
  have pk : capO (lcO (fun y1 => (N_grows_by_liiii vs p g y1).bind fun x2 => if (x2.isSome) = true then some (some y1) else some none) ([1, 2, 3, 4, 6, 12])) = some ((per.filter fun q => (growth vs p q g).isSome).map fun (q : Nat) => (q : Int)) := by
    have e : ([1, 2, 3, 4, 6, 12] : List Int) = per.map fun (q : Nat) => (q : Int) := rfl
    rw [e, capOF_of (F := fun y : Int => if (growth vs p y.toNat g).isSome = true then some y else none) _ (by decide)]
    · congr 1
      rw [List.filterMap_map]
      have : ∀ l : List Nat, l.filterMap ((fun y : Int => if (growth vs p y.toNat g).isSome = true then some y else none) ∘ fun (q : Nat) => (q : Int)) = (l.filter fun q => (growth vs p q g).isSome).map fun (q : Nat) => (q : Int) := by
        intro l
        induction l with
        | nil => rfl
        | cons a r ih =>
          rw [List.filterMap_cons]
          cases hg : (growth vs p a g).isSome <;> simp [hg, ih]
      exact this per
    · intro x hx
      obtain ⟨q, hq, rfl⟩ := List.mem_map.mp hx
      obtain ⟨q0, q12, _⟩ := per_pos hq
      rw [grows_run hp hn (by omega) (by omega) (by omega)]
      simp only [bnd, Int.toNat_natCast]
      split <;> rfl
  rw [pk]
  simp only [bnd]
  have mem : p ∈ per.filter fun q => (growth vs p q g).isSome := List.mem_filter.mpr ⟨hm, by rw [growth_own hp hn]; rfl⟩
  cases hf : per.filter (fun q => (growth vs p q g).isSome) with
  | nil => rw [hf] at mem; cases mem
  | cons q r =>
    have hq : q ∈ per.filter fun q => (growth vs p q g).isSome := by rw [hf]; exact List.mem_cons_self ..
    obtain ⟨q1, q2⟩ := List.mem_filter.mp hq
    obtain ⟨w, hw⟩ := Option.isSome_iff_exists.mp q2
    obtain ⟨q0, q12, _⟩ := per_pos q1
    have lst : ∀ q', q' ∈ per → q' < q → growth vs p q' g = none := by
      intro q' h1 h2
      cases hg : growth vs p q' g with
      | none => rfl
      | some w' =>
        have : q' ∈ q :: r := by rw [← hf]; exact List.mem_filter.mpr ⟨h1, by rw [hg]; rfl⟩
        have srt : List.Pairwise (· < ·) (q :: r) := by
          rw [← hf]
          refine List.Pairwise.filter _ ?_
          unfold per
          decide
        rcases List.mem_cons.mp this with e | e
        · omega
        · have := (List.pairwise_cons.mp srt).1 q' e
          omega
    rw [show (List.map (fun (q : Nat) => (q : Int)) (q :: r)) = (q : Int) :: r.map fun (q : Nat) => (q : Int) from rfl, show ixN? ((q : Int) :: r.map fun (q : Nat) => (q : Int)) 0 = some (q : Int) from ix_nat (xs := (q : Int) :: r.map fun (q : Nat) => (q : Int)) (j := 0) rfl]
    simp only [bnd]
    rw [grows_run hp hn (by omega) (by omega) (by omega), hw]
    simp only [bnd]
    rw [r2_of (by omega) (by omega) (by omega) (by omega)]
    simp only [bnd]
    rw [capO_of (F := fun x : Int => Crv.vat vs p g x.toNat)]
    · simp only [bnd]
      have fe : (rangeI 1 ((vs.length : Int) + 12 + 1)).map (fun x : Int => Crv.vat vs p g x.toNat) = Crv.firsts (Crv.vat vs p g) (vs.length + 12) := by
        unfold rangeI Crv.firsts
        rw [List.map_map, show ((vs.length : Int) + 12 + 1 - 1).toNat = vs.length + 12 by omega]
        refine List.map_congr_left fun k _ => ?_
        show Crv.vat vs p g (1 + (k : Int)).toNat = _
        congr 1
        omega
      have ga := growth_all hp hn hd hw
      obtain ⟨n, m, m1, m2, m3, m5, lp⟩ := form_loop (w := w) (q := q) (Crv.vat vs p g) q0 (vs.length + 12) (by omega) (fun l hl => by
        have := ga (l - q) (by omega)
        rw [show l - q + q = l by omega] at this
        exact this)
      rw [fe, whileO_of lp]
      refine ⟨m, q, w, m3, ⟨q1, Crv.firsts_fit rfl q0 m1 m2, ?_, ?_⟩, rfl⟩
      · rintro q' h1 h2 w' ⟨n', hn'⟩
        have none' := lst q' h1 h2
        unfold growth at none'
        split at none'
        · cases none'
        · rename_i hbad
          refine hbad ?_
          -- beyond any length the growth is w'; twelve earlier the same
          have up : ∀ m l, vs.length < l → Crv.vat vs p g (l + m * p) = Crv.vat vs p g l + m * g := by
            intro m
            induction m with
            | zero => intro l _; simp
            | succ m ih =>
              intro l hl
              rw [show l + (m + 1) * p = (l + m * p) + p by rw [Nat.succ_mul]; omega, Crv.vat_step hp hn (by omega), Nat.add_sub_cancel, ih l hl, Int.natCast_add, Int.add_mul]
              simp only [Int.natCast_one, Int.one_mul]
              omega
          have all : ∀ l, vs.length < l → Crv.vat vs p g (l + q') - Crv.vat vs p g l = w' := by
            intro l hl
            have a := up (n' + 1) l hl
            have b := up (n' + 1) (l + q') (by omega)
            have c := hn' (l + (n' + 1) * p) (by
              have : n' + 1 ≤ (n' + 1) * p := Nat.le_mul_of_pos_right _ hp
              omega)
            rw [show l + (n' + 1) * p + q' = l + q' + (n' + 1) * p by omega] at c
            omega
          intro k _
          rw [all _ (by omega), all _ (by omega)]
      · rw [Crv.firsts_len]; exact m5
    · rw [rangeI_len]; omega
    · intro x hx
      rw [mem_rangeI] at hx
      obtain ⟨l, rfl⟩ : ∃ l : Nat, x = (l : Int) := ⟨x.toNat, by omega⟩
      rw [value_nat hp hn (by omega) (by omega)]
      rfl
/-! ### a curve that is written -/
structure Row where
  vs : List Int
  p : Nat
  g : Int
  n1 : 1 ≤ vs.length
  n2 : vs.length ≤ 24
  lo : ∀ v, v ∈ vs → 0 ≤ v
  hi : ∀ v, v ∈ vs → v ≤ 2000
  up : ∀ i, i + 1 < vs.length → vs.getD i 0 ≤ vs.getD (i + 1) 0
  pm : p ∈ per
  pn : p ≤ vs.length
  g0 : 0 ≤ g
  g1 : g ≤ 2000
  last : vs.getD (vs.length - 1) 0 ≤ Crv.vat vs p g (vs.length + 1)
def Row.nat (r : Row) : List Int × Int × Int := (r.vs, (r.p : Int), r.g)
def Row.f (r : Row) : Nat → Int := Crv.vat r.vs r.p r.g
theorem cv_run (r : Row) : N_check_values_li r.vs = some () := by
  have n1 := r.n1
  have n2 := r.n2
  unfold N_check_values_li
  rw [if_neg (by simp; omega)]
  have key : ∀ (xs : List Int) (i : Nat), r.vs.drop i = xs → foldO (fun (x8 : (Int × Int)) (s9 : Unit) => N_check_values_li_b1 r.vs x8.1 x8.2) (enumN i xs) () = some () := by
    intro xs
    induction xs with
    | nil => intro i _; rfl
    | cons v xs ih =>
      intro i h
      have hi : i < r.vs.length := by
        refine Nat.lt_of_not_le fun z => ?_
        rw [List.drop_of_length_le z] at h
        cases h
      have hv : r.vs.getD i 0 = v := by
        have e : (r.vs.drop i)[0]? = some v := by rw [h]; rfl
        rw [List.getElem?_drop, Nat.add_zero] at e
        rw [List.getD_eq_getElem?_getD, e]
        rfl
      have mem : v ∈ r.vs := List.mem_of_mem_drop (by rw [h]; exact List.mem_cons_self ..)
      have l0 := r.lo v mem
      have l1 := r.hi v mem
      have b : N_check_values_li_b1 r.vs (i : Int) v = some () := by
        unfold N_check_values_li_b1 N_is_count_ii N_is_integer_i
        have : (decide (0 ≤ v) && decide (v ≤ 2000)) = true := by simp [l0, l1]
        simp only [bnd, Bool.true_and, this, Bool.not_true]
        by_cases h0 : i = 0
        · subst h0; rfl
        · have u := r.up (i - 1) (by omega)
          rw [show i - 1 + 1 = i by omega, hv] at u
          have d : decide ((0 : Int) < (i : Int)) = true := by simp; omega
          rw [d, show (i : Int) - 1 = ((i - 1 : Nat) : Int) by omega, ix_getD 0 (by omega)]
          have u2 : decide (v < r.vs.getD (i - 1) 0) = false := decide_eq_false (by omega)
          simp only [bnd, u2]
          rfl
      unfold enumN
      rw [foldO_cons]
      show (N_check_values_li_b1 r.vs (i : Int) v).bind _ = _
      rw [b]
      exact ih (i + 1) (by rw [← List.tail_drop, h]; rfl)
  rw [key r.vs 0 rfl]
  rfl
theorem in_per {q : Nat} (h : q ∈ per) : inB (eI q) ((eT eI) [1, 2, 3, 4, 6, 12]) = some true := by
  unfold per at h
  simp only [List.mem_cons, List.not_mem_nil, or_false] at h
  rcases h with rfl | rfl | rfl | rfl | rfl | rfl <;> rfl
theorem cg_run (r : Row) : N_check_growth_liii r.vs r.p r.g = some () := by
  obtain ⟨hp, hp12, _⟩ := per_pos r.pm
  have n1 := r.n1
  have n2 := r.n2
  have pn := r.pn
  have g0 := r.g0
  have g1 := r.g1
  have la := r.last
  unfold N_check_growth_liii N_is_count_ii N_is_integer_i
  rw [in_per r.pm]
  have d1 : decide ((r.vs.length : Int) < (r.p : Int)) = false := by simp; omega
  have d2 : (decide (0 ≤ r.g) && decide (r.g ≤ 2000)) = true := by simp [g0, g1]
  simp only [bnd, Bool.not_true, d1, Bool.or_self, Bool.true_and, d2]
  rw [show (r.vs.length : Int) + 1 = ((r.vs.length + 1 : Nat) : Int) by omega, value_nat hp pn (by omega) (by omega), ix_last 0 (by omega)]
  have d3 : decide (Crv.vat r.vs r.p r.g (r.vs.length + 1) < r.vs.getD (r.vs.length - 1) 0) = false := decide_eq_false (by omega)
  simp only [bnd, d3]
  rfl
/-- a curve of the program with this function -/
structure Cv (f : Nat → Int) where
  xs : List Int
  q : Nat
  w : Int
  frm : IsForm f xs q w
  len : xs.length ≤ 5000
def Cv.nat {f : Nat → Int} (c : Cv f) : List Int × Int × Int := (c.xs, (c.q : Int), c.w)
theorem init_run (r : Row) : ∃ c : Cv r.f, N_Curve_init0_liii r.vs r.p r.g = some c.nat := by
  have n2 := r.n2
  obtain ⟨m, q, w, hm, frm, e⟩ := form_run (g := r.g) r.pm r.pn (by omega)
  refine ⟨⟨_, q, w, frm, by rw [Crv.firsts_len]; omega⟩, ?_⟩
  unfold N_Curve_init0_liii
  rw [cv_run, cg_run]
  simp only [bnd]
  rw [e]
  rfl
theorem count_in {v : Int} (h : 0 ≤ v) : N_is_count_in v () = some true := by
  unfold N_is_count_in N_is_integer_i
  simp [h]
theorem at_runC {f : Nat → Int} (c : Cv f) (l : Nat) (hl : (l : Int) < 1000000000000000000) : N_Curve_at_Ci c.nat l = some (f l) := by
  obtain ⟨q0, q12, _⟩ := per_pos c.frm.qm
  unfold N_Curve_at_Ci
  rw [count_in (by omega)]
  simp only [bnd, Bool.not_true]
  show (N_value_at_liiii c.xs c.q c.w l).bind _ = _
  rw [value_nat c.frm.fit.p0 c.frm.fit.pn (by omega) hl, c.frm.fit.eq l]
  rfl
end K24

namespace K24
open PySem Mir
/-! ### rows that are drawn -/
def lastI (xs : List Int) : Int := xs.getD (xs.length - 1) 0
structure Up (xs : List Int) : Prop where
  n1 : 1 ≤ xs.length
  lo : ∀ v, v ∈ xs → 0 ≤ v
  up : ∀ i, i + 1 < xs.length → xs.getD i 0 ≤ xs.getD (i + 1) 0
theorem getD_app_left {xs ys : List Int} {i : Nat} (h : i < xs.length) : (xs ++ ys).getD i 0 = xs.getD i 0 := by
  rw [List.getD_eq_getElem?_getD, List.getD_eq_getElem?_getD, List.getElem?_append_left h]
theorem getD_app_one {xs : List Int} {x : Int} : (xs ++ [x]).getD xs.length 0 = x := by
  rw [List.getD_eq_getElem?_getD, List.getElem?_append_right (Nat.le_refl _)]
  simp
theorem lastI_app (xs : List Int) (x : Int) : lastI (xs ++ [x]) = x := by
  unfold lastI
  rw [List.length_append]
  show (xs ++ [x]).getD (xs.length + 1 - 1) 0 = x
  rw [Nat.add_sub_cancel]
  exact getD_app_one
theorem lastI_mem {xs : List Int} (h : 1 ≤ xs.length) : lastI xs ∈ xs := by
  unfold lastI
  have hl : xs.length - 1 < xs.length := by omega
  rw [List.getD_eq_getElem?_getD, List.getElem?_eq_getElem hl]
  exact List.getElem_mem hl
theorem Up.one {x : Int} (h : 0 ≤ x) : Up [x] := ⟨by simp, by simp [h], by intro i hi; simp at hi⟩
theorem Up.app {xs : List Int} (h : Up xs) {x : Int} (hx : lastI xs ≤ x) : Up (xs ++ [x]) := by
  have n1 := h.n1
  have l0 := h.lo _ (lastI_mem n1)
  refine ⟨by simp, ?_, ?_⟩
  · intro v hv
    rcases List.mem_append.mp hv with hv | hv
    · exact h.lo v hv
    · simp at hv; omega
  · intro i hi
    rw [List.length_append] at hi
    simp only [List.length_cons, List.length_nil] at hi
    by_cases e : i + 1 < xs.length
    · rw [getD_app_left (by omega), getD_app_left e]; exact h.up i e
    · have e2 : i + 1 = xs.length := by omega
      rw [e2, getD_app_one, getD_app_left (by omega), show i = xs.length - 1 by omega]
      exact hx
theorem Up.le_last {xs : List Int} (h : Up xs) : ∀ v, v ∈ xs → v ≤ lastI xs := by
  have key : ∀ k i, i + k < xs.length → xs.getD i 0 ≤ xs.getD (i + k) 0 := by
    intro k
    induction k with
    | zero => intro i _; exact Int.le_refl _
    | succ k ih =>
      intro i hi
      have a := ih i (by omega)
      have b := h.up (i + k) (by omega)
      exact Int.le_trans a b
  intro v hv
  obtain ⟨i, hi, rfl⟩ := List.getElem_of_mem hv
  have := key (xs.length - 1 - i) i (by omega)
  rw [show i + (xs.length - 1 - i) = xs.length - 1 by omega, List.getD_eq_getElem?_getD, List.getElem?_eq_getElem hi] at this
  exact this
theorem cons0_vat {vs : List Int} {p : Nat} {g : Int} {l : Nat} (h : l ≤ vs.length) : (0 :: vs).getD l 0 = Crv.vat vs p g l := by
  cases l with
  | zero => rfl
  | succ l =>
    rw [Crv.vat_in (by omega) h]
    rfl
theorem vat_next {vs : List Int} {p : Nat} {g : Int} (hp : 0 < p) (hn : p ≤ vs.length) : Crv.vat vs p g (vs.length + 1) = (0 :: vs).getD (vs.length + 1 - p) 0 + g := by
  rw [Crv.vat_step hp hn (by omega), cons0_vat (p := p) (g := g) (by omega)]
def Row.of (vs : List Int) (p : Nat) (g : Int) (u : Up vs) (n2 : vs.length ≤ 24) (hi : lastI vs ≤ 2000) (pm : p ∈ per) (pn : p ≤ vs.length) (g0 : 0 ≤ g) (g1 : g ≤ 2000) (low : lastI vs - (0 :: vs).getD (vs.length + 1 - p) 0 ≤ g) : Row :=
  ⟨vs, p, g, u.n1, n2, u.lo, fun v hv => Int.le_trans (u.le_last v hv) hi, u.up, pm, pn, g0, g1, by
    rw [vat_next (per_pos pm).1 pn]
    unfold lastI at low
    omega⟩
/-- a curve's values never fall -/
theorem Row.mono (r : Row) : ∀ l, r.f l ≤ r.f (l + 1) := by
  obtain ⟨hp, hp12, _⟩ := per_pos r.pm
  have F := Crv.fits_vat (g := r.g) hp r.pn
  intro l
  induction l using Nat.strongRecOn with
  | _ l ih =>
    unfold Row.f
    by_cases h : l + 1 ≤ r.vs.length
    · by_cases h0 : l = 0
      · subst h0
        rw [Crv.vat_zero, Crv.vat_in (by omega) h]
        have hl : 0 + 1 - 1 < r.vs.length := by omega
        rw [List.getD_eq_getElem?_getD, List.getElem?_eq_getElem hl]
        exact r.lo _ (List.getElem_mem hl)
      · rw [Crv.vat_in h0 (by omega), Crv.vat_in (by omega) h]
        have := r.up (l - 1) (by omega)
        rw [show l - 1 + 1 = l + 1 - 1 by omega] at this
        exact this
    · by_cases h2 : l = r.vs.length
      · have := r.last
        have n1 := r.n1
        rw [h2, Crv.vat_in (l := r.vs.length) (by omega) (Nat.le_refl _)]
        exact this
      · rw [Crv.vat_step hp r.pn (l := l) (by omega), Crv.vat_step hp r.pn (l := l + 1) (by omega)]
        have := ih (l - r.p) (by omega)
        unfold Row.f at this
        rw [show l - r.p + 1 = l + 1 - r.p by have := r.pn; omega] at this
        omega
theorem Row.nonneg (r : Row) (l : Nat) : 0 ≤ r.f l := by
  induction l with
  | zero => exact Int.le_refl _
  | succ l ih => exact Int.le_trans ih (r.mono l)
/-! ### records -/
def due (f : Nat → Int) (us : List Int) : Option (Int × Int × Int) := (List.range' 1 us.length).findSome? fun size => (List.range (us.length + 1 - size)).findSome? fun start => if 0 < psum us (start + size) - psum us start - f size then some ((size : Int), (start : Int), psum us (start + size) - psum us start - f size) else none
def most (us : List Int) (l : Nat) : Int := if us.length ≤ l then us.sum else maxI ((List.range (us.length + 1 - l)).map fun s => psum us (s + l) - psum us s)
/-- a record: counts -/
structure Rec (us : List Int) : Prop where
  len : us.length ≤ 1000
  lo : ∀ u, u ∈ us → 0 ≤ u
theorem cr_run {us : List Int} (r : Rec us) : N_check_record_li us = some () := by
  unfold N_check_record_li
  have key : ∀ (xs : List Int) (i : Nat), (∀ u, u ∈ xs → 0 ≤ u) → foldO (fun (x5 : (Int × Int)) (s6 : Unit) => N_check_record_li_b1 x5.1 x5.2) (enumN i xs) () = some () := by
    intro xs
    induction xs with
    | nil => intro i _; rfl
    | cons v xs ih =>
      intro i h
      unfold enumN
      rw [foldO_cons]
      show (N_check_record_li_b1 (i : Int) v).bind _ = _
      unfold N_check_record_li_b1
      rw [count_in (h v (List.mem_cons_self ..))]
      exact ih (i + 1) fun u hu => h u (List.mem_cons_of_mem _ hu)
  rw [key us 0 r.lo]
  rfl
theorem sums_run {us : List Int} (h : us.length ≤ 1000) : N_sums_of_li us = some ((List.range (us.length + 1)).map (psum us)) := by
  unfold N_sums_of_li
  obtain ⟨s, e, hs⟩ := foldO_invN (b := fun (x5 : Int) (s6 : (List Int)) => N_sums_of_li_b1 x5 s6) (fun k s => k ≤ us.length ∧ s = (List.range (k + 1)).map (psum us)) us [0] ⟨by omega, by simp [psum_zero]⟩ (by
    rintro k x s hx ⟨hk, rfl⟩
    obtain ⟨hk2, rfl⟩ := List.getElem?_eq_some_iff.mp hx
    refine ⟨_, ?_, by omega, rfl⟩
    unfold N_sums_of_li_b1
    rw [ix_last 0 (by simp)]
    simp only [bnd]
    rw [app_of (by simp; omega)]
    simp only [bnd]
    congr 1
    rw [List.range_succ (n := k + 1), List.map_append, List.length_map, List.length_range, List.getD_eq_getElem?_getD, List.getElem?_map, List.getElem?_range (by omega), List.map_cons, List.map_nil]
    congr 2
    simp only [Option.map_some, Option.getD_some, Nat.add_sub_cancel]
    rw [psum_succ us hk2, List.getD_eq_getElem?_getD, hx]
    rfl)
  rw [e, hs.2]
  rfl
theorem psum_at {us : List Int} {n k : Nat} (h : k < n) : ixN? ((List.range n).map (psum us)) (k : Int) = some (psum us k) := ix_nat (by rw [List.getElem?_map, List.getElem?_range h]; rfl)
theorem range_find {ρ : Type} (a n : Nat) (c : Int → Option ρ) : (rangeI (a : Int) ((a + n : Nat) : Int)).findSome? c = (List.range' a n).findSome? fun (k : Nat) => c (k : Int) := by
  rw [rangeI_nat, List.findSome?_map, Nat.add_sub_cancel_left]
  rfl
theorem range_find0 {ρ : Type} (n : Nat) (c : Int → Option ρ) : (rangeI 0 (n : Int)).findSome? c = (List.range n).findSome? fun (k : Nat) => c (k : Int) := by
  rw [rangeI_nat0, List.findSome?_map]
  rfl
theorem breach_run {f : Nat → Int} (c : Cv f) {us : List Int} (r : Rec us) : N_breach_liC us c.nat = some (due f us) := by
  have len := r.len
  unfold N_breach_liC
  rw [cr_run r]
  simp only [bnd]
  rw [sums_run len]
  simp only [bnd]
  rw [r2_of (by omega) (by omega) (by omega) (by omega)]
  simp only [bnd]
  rw [forL_find (c := fun x : Int => (List.range (us.length + 1 - x.toNat)).findSome? fun start => if 0 < psum us (start + x.toNat) - psum us start - f x.toNat then some (some (x, (start : Int), psum us (start + x.toNat) - psum us start - f x.toNat)) else none)]
  · rw [thenL_find, show ((1 : Int)) = ((1 : Nat) : Int) from rfl, show ((us.length : Int) + ((1 : Nat) : Int)) = ((1 + us.length : Nat) : Int) by omega, range_find]
    unfold due
    have e : ∀ (l : List Nat), (l.findSome? fun size => (List.range (us.length + 1 - ((size : Nat) : Int).toNat)).findSome? fun start => if 0 < psum us (start + ((size : Nat) : Int).toNat) - psum us start - f ((size : Nat) : Int).toNat then some (some ((size : Int), (start : Int), psum us (start + ((size : Nat) : Int).toNat) - psum us start - f ((size : Nat) : Int).toNat)) else none) = (l.findSome? fun size => (List.range (us.length + 1 - size)).findSome? fun start => if 0 < psum us (start + size) - psum us start - f size then some ((size : Int), (start : Int), psum us (start + size) - psum us start - f size) else none).map some := by
      intro l
      simp only [Int.toNat_natCast]
      rw [List.map_findSome?]
      congr 1
      funext size
      show _ = Option.map some _
      rw [List.map_findSome?]
      congr 1
      funext start
      show _ = Option.map some (if 0 < psum us (start + size) - psum us start - f size then some ((size : Int), (start : Int), psum us (start + size) - psum us start - f size) else none)
      by_cases hz : 0 < psum us (start + size) - psum us start - f size
      · rw [if_pos hz, if_pos hz]; rfl
      · rw [if_neg hz, if_neg hz]; rfl
    rw [e]
    cases (List.range' 1 us.length).findSome? fun size => (List.range (us.length + 1 - size)).findSome? fun start => if 0 < psum us (start + size) - psum us start - f size then some ((size : Int), (start : Int), psum us (start + size) - psum us start - f size) else none <;> rfl
  · intro x hx
    rw [mem_rangeI] at hx
    obtain ⟨l, rfl⟩ : ∃ l : Nat, x = (l : Int) := ⟨x.toNat, by omega⟩
    unfold N_breach_liC_b1
    rw [at_runC c l (by omega)]
    simp only [bnd]
    rw [r1_of (by omega) (by omega)]
    simp only [bnd]
    rw [forL_find (c := fun y : Int => if 0 < psum us (y.toNat + l) - psum us y.toNat - f l then some (some ((l : Int), y, psum us (y.toNat + l) - psum us y.toNat - f l)) else none)]
    · rw [thenL_find, show (us.length : Int) - (l : Int) + 1 = ((us.length + 1 - l : Nat) : Int) by omega, range_find0]
      simp only [Int.toNat_natCast]
      cases (List.range (us.length + 1 - l)).findSome? fun start => if 0 < psum us (start + l) - psum us start - f l then some (some ((l : Int), (start : Int), psum us (start + l) - psum us start - f l)) else none <;> rfl
    · intro y hy
      rw [mem_rangeI] at hy
      obtain ⟨k, rfl⟩ : ∃ k : Nat, y = (k : Int) := ⟨y.toNat, by omega⟩
      unfold N_breach_liC_b2
      rw [← Int.natCast_add, psum_at (by omega)]
      simp only [bnd]
      rw [psum_at (by omega)]
      simp only [bnd, Int.toNat_natCast]
      by_cases hz : 0 < psum us (k + l) - psum us k - f l
      · rw [if_pos (by simp; omega), if_pos hz]
      · rw [if_neg (by simp; omega), if_neg hz]
theorem keeps_run {f : Nat → Int} (c : Cv f) {us : List Int} (r : Rec us) : N_keeps_liC us c.nat = some (due f us).isNone := by
  unfold N_keeps_liC
  rw [breach_run c r]
  rfl
end K24

namespace K24
open PySem Mir
/-! ### good curves, shaped records -/
theorem form_short (r : Row) (c : Cv r.f) : c.xs.length ≤ r.vs.length + r.p := by
  obtain ⟨hp, hp12, _⟩ := per_pos r.pm
  have F : Crv.Fits r.f r.vs r.p r.g := Crv.fits_vat hp r.pn
  have fo := c.frm.fit.o
  have q0 := c.frm.fit.p0
  have up : ∀ l, r.vs.length < l → r.f (l + r.p) = r.f l + r.g := fun l hl => by
    have := F.o (l + r.p) (by omega)
    rw [Nat.add_sub_cancel] at this
    exact this
  have qp : c.q ≤ r.p := by
    by_cases h : r.p < c.q
    · exact absurd ⟨r.vs.length, up⟩ (c.frm.least r.p r.pm h r.g)
    · omega
  rcases c.frm.short with h | h
  · rw [h]; omega
  · by_cases hz : c.xs.length ≤ r.vs.length + c.q
    · omega
    · refine absurd ?_ h
      have a := fo (c.xs.length + r.p) (by omega)
      have b := up c.xs.length (by omega)
      have d := up (c.xs.length - c.q) (by omega)
      rw [show c.xs.length + r.p - c.q = c.xs.length - c.q + r.p by omega, d, b] at a
      omega
theorem break_run {f : Nat → Int} (c : Cv f) (good : ∀ a b : Nat, 1 ≤ a → a ≤ c.xs.length → 1 ≤ b → b ≤ c.xs.length → f (a + b) ≤ f a + f b) : N_Curve_find_break_C c.nat = some none := by
  have len := c.len
  unfold N_Curve_find_break_C
  simp only [bnd]
  show Option.bind (range2N 2 (2 * (c.xs.length : Int) + 1)) _ = _
  rw [r2_of (by omega) (by omega) (by omega) (by omega)]
  simp only [bnd]
  rw [forL_nx]
  · rfl
  · intro x hx
    rw [mem_rangeI] at hx
    obtain ⟨l, rfl⟩ : ∃ l : Nat, x = (l : Int) := ⟨x.toNat, by omega⟩
    unfold N_Curve_find_break_C_b1
    show Option.bind (range2N (max 1 ((l : Int) - (c.xs.length : Int))) ((l : Int) / 2 + 1)) _ = _
    rw [r2_of (by omega) (by omega) (by omega) (by omega)]
    simp only [bnd]
    rw [forL_nx]
    · rfl
    · intro y hy
      rw [mem_rangeI] at hy
      obtain ⟨k, rfl⟩ : ∃ k : Nat, y = (k : Int) := ⟨y.toNat, by omega⟩
      unfold N_Curve_find_break_C_b2
      rw [at_runC c l (by omega)]
      simp only [bnd]
      rw [at_runC c k (by omega)]
      simp only [bnd]
      rw [show (l : Int) - (k : Int) = ((l - k : Nat) : Int) by omega, at_runC c (l - k) (by omega)]
      simp only [bnd]
      have := good k (l - k) (by omega) (by omega) (by omega) (by omega)
      rw [show k + (l - k) = l by omega] at this
      rw [if_neg (by simp; omega)]
theorem require_run {f : Nat → Int} (c : Cv f) (good : ∀ a b : Nat, 1 ≤ a → a ≤ c.xs.length → 1 ≤ b → b ≤ c.xs.length → f (a + b) ≤ f a + f b) : N_require_good_C c.nat = some () := by
  unfold N_require_good_C
  rw [break_run c good]
  rfl
/-- the least room that the windows leave: from the length k on, m so far, s units -/
def al (f : Nat → Int) : Nat → Int → Int → List Int → Int
  | _, _, m, [] => m
  | k, s, m, x :: xs => al f (k + 1) (s + x) (min m (f k - (s + x))) xs
def least (f : Nat → Int) (us : List Int) : Int := al f 2 0 (f 1) us.reverse
theorem al_le (f : Nat → Int) : ∀ (xs : List Int) (k : Nat) (s m a : Int), a ≤ al f k s m xs ↔ a ≤ m ∧ ∀ j, j < xs.length → a + (s + psum xs (j + 1)) ≤ f (k + j)
  | [], k, s, m, a => by simp [al]
  | x :: xs, k, s, m, a => by
    unfold al
    rw [al_le f xs]
    have e : ∀ j, psum (x :: xs) (j + 1) = x + psum xs j := fun j => by unfold psum; simp
    constructor
    · rintro ⟨h1, h2⟩
      refine ⟨by omega, fun j hj => ?_⟩
      cases j with
      | zero => rw [e, psum_zero]; simp only [Nat.add_zero]; omega
      | succ j =>
        have := h2 j (by simpa using hj)
        rw [e, show k + (j + 1) = k + 1 + j by omega]
        omega
    · rintro ⟨h1, h2⟩
      have h0 := h2 0 (by simp)
      rw [e, psum_zero] at h0
      simp only [Nat.add_zero] at h0
      refine ⟨by omega, fun j hj => ?_⟩
      have := h2 (j + 1) (by simp; omega)
      rw [e, show k + (j + 1) = k + 1 + j by omega] at this
      omega
theorem allow_run {f : Nat → Int} (c : Cv f) {us : List Int} (h : us.length ≤ 1000) : N_allowance_liC us c.nat = some (max 0 (least f us)) := by
  unfold N_allowance_liC
  rw [show (1 : Int) = ((1 : Nat) : Int) from rfl, at_runC c 1 (by omega)]
  simp only [bnd]
  have key : ∀ (xs : List Int) (k : Nat) (m s : Int), k + xs.length ≤ 5000 → ∃ t, foldO (fun (x9 : (Int × Int)) (s10 : Int × Int) => N_allowance_liC_b1 c.nat x9.1 x9.2 s10.1 s10.2) (enumZ (k : Int) xs) (m, s) = some (al f k s m xs, t) := by
    intro xs
    induction xs with
    | nil => intro k m s _; exact ⟨s, rfl⟩
    | cons x xs ih =>
      intro k m s hk
      simp only [List.length_cons] at hk
      unfold enumZ
      rw [foldO_cons]
      have e : N_allowance_liC_b1 c.nat (k : Int) x m s = some (min m (f k - (s + x)), s + x) := by
        unfold N_allowance_liC_b1
        simp only [bnd]
        rw [at_runC c k (by omega)]
        rfl
      dsimp only
      rw [e]
      simp only [bnd]
      have := ih (k + 1) (min m (f k - (s + x))) (s + x) (by omega)
      rw [Int.natCast_add] at this
      exact this
  obtain ⟨t, ht⟩ := key us.reverse 2 (f 1) 0 (by simp; omega)
  rw [show ((2 : Nat) : Int) = 2 from rfl] at ht
  rw [ht]
  rfl
/-- all windows that end with the record's end fit -/
def EndOk (f : Nat → Int) (xs : List Int) : Prop := ∀ l, 1 ≤ l → l ≤ xs.length → psum xs xs.length - psum xs (xs.length - l) ≤ f l
theorem psum_app (xs ys : List Int) {k : Nat} (h : k ≤ xs.length) : psum (xs ++ ys) k = psum xs k := by
  unfold psum
  rw [List.take_append_of_le_length h]
theorem psum_rev (xs : List Int) {j : Nat} (h : j ≤ xs.length) : psum xs.reverse j = psum xs xs.length - psum xs (xs.length - j) := by
  unfold psum
  rw [List.take_length, List.take_reverse, List.sum_reverse]
  have e : xs.take (xs.length - j) ++ xs.drop (xs.length - j) = xs := List.take_append_drop ..
  have := congrArg List.sum e
  rw [List.sum_append] at this
  omega
theorem end_iff (f : Nat → Int) (us : List Int) (c : Int) : EndOk f (us ++ [c]) ↔ c ≤ least f us := by
  unfold least
  rw [al_le]
  have e0 : psum (us ++ [c]) (us ++ [c]).length = us.sum + c := by
    rw [psum_all _ (Nat.le_refl _), List.sum_append]; simp
  have e1 : ∀ l, 1 ≤ l → l ≤ us.length + 1 → psum (us ++ [c]) ((us ++ [c]).length - l) = psum us (us.length + 1 - l) := fun l h1 h2 => by
    rw [List.length_append]
    exact psum_app us [c] (by simp; omega)
  constructor
  · intro h
    refine ⟨?_, fun j hj => ?_⟩
    · have := h 1 (Nat.le_refl _) (by simp)
      rw [e0, e1 1 (by omega) (by omega), psum_all us (by omega)] at this
      omega
    · rw [List.length_reverse] at hj
      have := h (j + 2) (by omega) (by simp; omega)
      rw [e0, e1 (j + 2) (by omega) (by omega)] at this
      rw [psum_rev us (by omega), psum_all us (Nat.le_refl _), show 2 + j = j + 2 by omega]
      rw [show us.length + 1 - (j + 2) = us.length - (j + 1) by omega] at this
      omega
  · rintro ⟨h1, h2⟩ l hl1 hl2
    simp only [List.length_append, List.length_cons, List.length_nil] at hl2
    rw [e0, e1 l hl1 (by omega)]
    by_cases h : l = 1
    · subst h
      rw [psum_all us (by omega)]
      omega
    · have := h2 (l - 2) (by rw [List.length_reverse]; omega)
      rw [psum_rev us (by omega), psum_all us (Nat.le_refl _), show 2 + (l - 2) = l by omega, show us.length - (l - 2 + 1) = us.length + 1 - l by omega] at this
      omega
/-! ### the shaped record, plainly -/
def stp (f : Nat → Int) (st : List Int × Int) (u : Int) : List Int × Int := (st.1 ++ [min (st.2 + u) (least f st.1)], st.2 + u - min (st.2 + u) (least f st.1))
def shp (f : Nat → Int) (us : List Int) : List Int := (us.foldl (stp f) ([], 0)).1
/-- all windows fit -/
def Fit (f : Nat → Int) (xs : List Int) : Prop := ∀ s l, 1 ≤ l → s + l ≤ xs.length → psum xs (s + l) - psum xs s ≤ f l
structure Mon (f : Nat → Int) : Prop where
  z : f 0 = 0
  up : ∀ l, f l ≤ f (l + 1)
theorem Mon.pos {f : Nat → Int} (m : Mon f) : ∀ l, 0 ≤ f l := by
  intro l
  induction l with
  | zero => rw [m.z]; omega
  | succ l ih => have := m.up l; omega
theorem Fit.end_ {f : Nat → Int} {xs : List Int} (h : Fit f xs) : EndOk f xs := fun l h1 h2 => by
  have := h (xs.length - l) l h1 (by omega)
  rw [show xs.length - l + l = xs.length by omega] at this
  exact this
theorem Fit.app {f : Nat → Int} {xs : List Int} {c : Int} (h : Fit f xs) (e : EndOk f (xs ++ [c])) : Fit f (xs ++ [c]) := fun s l h1 h2 => by
  simp only [List.length_append, List.length_cons, List.length_nil] at h2
  by_cases hz : s + l ≤ xs.length
  · rw [psum_app xs [c] hz, psum_app xs [c] (by omega)]
    exact h s l h1 hz
  · have := e l h1 (by simp; omega)
    simp only [List.length_append, List.length_cons, List.length_nil] at this
    rw [show s + l = xs.length + (0 + 1) by omega]
    rw [show xs.length + (0 + 1) - l = s by omega] at this
    exact this
theorem Fit.of_app {f : Nat → Int} {xs ys : List Int} (h : Fit f (xs ++ ys)) : Fit f xs := fun s l h1 h2 => by
  have := h s l h1 (by simp; omega)
  rw [psum_app xs ys h2, psum_app xs ys (by omega)] at this
  exact this
theorem least_pos {f : Nat → Int} (m : Mon f) {xs : List Int} (h : Fit f xs) : 0 ≤ least f xs := by
  rw [← end_iff]
  intro l h1 h2
  simp only [List.length_append, List.length_cons, List.length_nil] at h2 ⊢
  rw [show psum (xs ++ [0]) (xs.length + (0 + 1)) = psum xs xs.length by
    rw [psum_all _ (by simp), List.sum_append, psum_all _ (Nat.le_refl _)]; simp]
  rw [psum_app xs [0] (by omega)]
  by_cases hl : l = 1
  · subst hl
    have := m.pos 1
    rw [show xs.length + (0 + 1) - 1 = xs.length by omega]
    omega
  · have := h (xs.length + 1 - l) (l - 1) (by omega) (by omega)
    rw [show xs.length + 1 - l + (l - 1) = xs.length by omega] at this
    have up := m.up (l - 1)
    rw [show l - 1 + 1 = l by omega] at up
    rw [show xs.length + (0 + 1) - l = xs.length + 1 - l by omega]
    omega
structure Kp (f : Nat → Int) (st : List Int × Int) : Prop where
  fit : Fit f st.1
  lo : ∀ x, x ∈ st.1 → 0 ≤ x
  wt : 0 ≤ st.2
theorem Kp.start (f : Nat → Int) : Kp f ([], 0) := ⟨fun s l h1 h2 => by simp at h2; omega, by simp, by simp⟩
theorem Kp.step {f : Nat → Int} (m : Mon f) {st : List Int × Int} (h : Kp f st) {u : Int} (hu : 0 ≤ u) : Kp f (stp f st u) := by
  have l0 := least_pos m h.fit
  have w0 := h.wt
  refine ⟨h.fit.app ((end_iff f st.1 _).mpr (Int.min_le_right _ _)), fun x hx => ?_, ?_⟩
  · rcases List.mem_append.mp hx with hx | hx
    · exact h.lo x hx
    · rw [List.mem_singleton.mp hx]; omega
  · show 0 ≤ st.2 + u - min (st.2 + u) (least f st.1)
    omega
theorem Kp.all {f : Nat → Int} (m : Mon f) : ∀ (us : List Int) (st : List Int × Int), (∀ u, u ∈ us → 0 ≤ u) → Kp f st → Kp f (us.foldl (stp f) st)
  | [], st, _, h => h
  | u :: us, st, hu, h => Kp.all m us _ (fun v hv => hu v (List.mem_cons_of_mem _ hv)) (h.step m (hu u (List.mem_cons_self ..)))
theorem fold_len (f : Nat → Int) : ∀ (us : List Int) (st : List Int × Int), (us.foldl (stp f) st).1.length = st.1.length + us.length
  | [], st => rfl
  | u :: us, st => by
    rw [List.foldl_cons, fold_len f us]
    simp [stp]
    omega
theorem fold_take (f : Nat → Int) : ∀ (us : List Int) (st : List Int × Int), (us.foldl (stp f) st).1.take st.1.length = st.1
  | [], st => by simp
  | u :: us, st => by
    rw [List.foldl_cons]
    have ih := fold_take f us (stp f st u)
    have e : (stp f st u).1.take st.1.length = st.1 := by simp [stp]
    have l : (stp f st u).1.length = st.1.length + 1 := by simp [stp]
    rw [← e, ← ih, List.take_take, l, List.length_take]
    congr 1
    have := fold_len f us (stp f st u)
    omega
theorem shp_len (f : Nat → Int) (us : List Int) : (shp f us).length = us.length := by
  unfold shp; rw [fold_len]; simp
theorem shp_fit {f : Nat → Int} (m : Mon f) {us : List Int} (h : ∀ u, u ∈ us → 0 ≤ u) : Fit f (shp f us) ∧ ∀ x, x ∈ shp f us → 0 ≤ x := by
  have k := Kp.all m us _ h (Kp.start f)
  exact ⟨k.fit, k.lo⟩
theorem shp_self {f : Nat → Int} {us : List Int} (h : Fit f us) : shp f us = us := by
  have key : ∀ (ys xs : List Int), Fit f (xs ++ ys) → ys.foldl (stp f) (xs, 0) = (xs ++ ys, 0) := by
    intro ys
    induction ys with
    | nil => intro xs _; simp
    | cons y ys ih =>
      intro xs hf
      have h1 : Fit f (xs ++ [y]) := by
        have : xs ++ y :: ys = (xs ++ [y]) ++ ys := by simp
        rw [this] at hf
        exact hf.of_app
      have h2 := (end_iff f xs y).mp h1.end_
      rw [List.foldl_cons]
      have e : stp f (xs, 0) y = (xs ++ [y], 0) := by
        unfold stp
        simp only [Int.zero_add]
        rw [Int.min_eq_left h2]
        simp
      rw [e, ih (xs ++ [y]) (by simpa using hf)]
      simp
  unfold shp
  rw [key us [] h]
  rfl
theorem shp_pre (f : Nat → Int) (us ys : List Int) : (shp f (us ++ ys)).take us.length = shp f us := by
  unfold shp
  rw [List.foldl_append]
  have e := fold_take f ys (us.foldl (stp f) ([], 0))
  rw [fold_len] at e
  simpa using e
/-! ### it is what the program computes -/
theorem due_none (f : Nat → Int) (us : List Int) : (due f us).isNone = true ↔ Fit f us := by
  unfold due
  rw [Option.isNone_iff_eq_none, List.findSome?_eq_none_iff]
  constructor
  · intro h s l h1 h2
    have a := h l (by rw [List.mem_range']; exact ⟨l - 1, by omega, by omega⟩)
    rw [List.findSome?_eq_none_iff] at a
    have b := a s (by rw [List.mem_range]; omega)
    by_cases hz : 0 < psum us (s + l) - psum us s - f l
    · rw [if_pos hz] at b; cases b
    · omega
  · intro h l hl
    rw [List.mem_range'] at hl
    obtain ⟨i, hi, e⟩ := hl
    rw [List.findSome?_eq_none_iff]
    intro s hs
    rw [List.mem_range] at hs
    have := h s l (by omega) (by omega)
    rw [if_neg (by omega)]
theorem shaped_run {f : Nat → Int} (m : Mon f) (c : Cv f) (good : ∀ a b : Nat, 1 ≤ a → a ≤ c.xs.length → 1 ≤ b → b ≤ c.xs.length → f (a + b) ≤ f a + f b) {us : List Int} (r : Rec us) : N_shaped_liC us c.nat = some (shp f us) := by
  have len := r.len
  unfold N_shaped_liC
  rw [cr_run r]
  simp only [bnd]
  rw [require_run c good]
  simp only [bnd]
  have key : ∀ (xs : List Int) (st : List Int × Int), (∀ u, u ∈ xs → 0 ≤ u) → Kp f st → st.1.length + xs.length ≤ 1000 → foldO (fun (x11 : Int) (s12 : (List Int) × Int) => N_shaped_liC_b1 c.nat x11 s12.1 s12.2) xs st = some (xs.foldl (stp f) st) := by
    intro xs
    induction xs with
    | nil => intro st _ _ _; rfl
    | cons x xs ih =>
      intro st hx k hl
      simp only [List.length_cons] at hl
      have x0 := hx x (List.mem_cons_self ..)
      have k' := k.step m x0
      rw [foldO_cons]
      have e : N_shaped_liC_b1 c.nat x st.1 st.2 = some (stp f st x) := by
        unfold N_shaped_liC_b1
        simp only [bnd]
        rw [allow_run c (by omega)]
        simp only [bnd]
        have l0 := least_pos m k.fit
        rw [Int.max_eq_right l0, app_of (by omega)]
        rfl
      rw [e]
      simp only [bnd]
      rw [List.foldl_cons]
      exact ih _ (fun v hv => hx v (List.mem_cons_of_mem _ hv)) k' (by simp [stp]; omega)
  rw [key us _ r.lo (Kp.start f) (by simpa using len)]
  rfl
end K24

namespace K24
open PySem Mir
/-! ### the law's own functions -/
theorem at_eq (r : Row) (l : Int) : N_l_at r.nat l = N_value_at_liiii r.vs r.p r.g l := rfl
theorem lat_run (r : Row) (l : Nat) (hl : (l : Int) < 1000000000000000000) : N_l_at r.nat l = some (r.f l) := by
  obtain ⟨hp, hp12, _⟩ := per_pos r.pm
  rw [at_eq, value_nat hp r.pn (by omega) hl]
  rfl
theorem Row.mon (r : Row) : Mon r.f := ⟨rfl, r.mono⟩
/-- good, as far as the law looks -/
def Good (r : Row) : Prop := ∀ a b : Nat, 1 ≤ a → a ≤ r.vs.length + r.p → 1 ≤ b → b ≤ r.vs.length + r.p → r.f (a + b) ≤ r.f a + r.f b
theorem Good.cv {r : Row} (h : Good r) (c : Cv r.f) : ∀ a b : Nat, 1 ≤ a → a ≤ c.xs.length → 1 ≤ b → b ≤ c.xs.length → r.f (a + b) ≤ r.f a + r.f b := fun a b h1 h2 h3 h4 => by
  have := form_short r c
  exact h a b h1 (by omega) h3 (by omega)
theorem good_run (r : Row) : ∃ b, N_l_is_good r.nat = some b ∧ (b = true → Good r) := by
  have n2 := r.n2
  obtain ⟨hp, hp12, _⟩ := per_pos r.pm
  unfold N_l_is_good
  simp only [bnd]
  show ∃ b, Option.bind (range2N 1 ((r.vs.length : Int) + (r.p : Int) + 1)) _ = _ ∧ _
  rw [r2_of (by omega) (by omega) (by omega) (by omega)]
  simp only [bnd]
  rw [forL_find (c := fun x : Int => (rangeI 1 (x + 1)).findSome? fun y : Int => if r.f x.toNat + r.f y.toNat < r.f (x.toNat + y.toNat) then some false else none)]
  · cases hf : (rangeI 1 ((r.vs.length : Int) + (r.p : Int) + 1)).findSome? fun x : Int => (rangeI 1 (x + 1)).findSome? fun y : Int => if r.f x.toNat + r.f y.toNat < r.f (x.toNat + y.toNat) then some false else none with
    | some b =>
      refine ⟨b, rfl, fun hb => ?_⟩
      subst hb
      obtain ⟨x, _, hx⟩ := List.exists_of_findSome?_eq_some hf
      obtain ⟨y, _, hy⟩ := List.exists_of_findSome?_eq_some hx
      split at hy <;> cases hy
    | none =>
      refine ⟨true, rfl, fun _ => ?_⟩
      rw [List.findSome?_eq_none_iff] at hf
      have key : ∀ a b : Nat, 1 ≤ b → b ≤ a → a ≤ r.vs.length + r.p → r.f (a + b) ≤ r.f a + r.f b := fun a b h1 h2 h3 => by
        have z := hf (a : Int) (by rw [mem_rangeI]; omega)
        rw [List.findSome?_eq_none_iff] at z
        have y := z (b : Int) (by rw [mem_rangeI]; omega)
        simp only [Int.toNat_natCast] at y
        by_cases hz : r.f a + r.f b < r.f (a + b)
        · rw [if_pos hz] at y; cases y
        · omega
      intro a b h1 h2 h3 h4
      by_cases hab : b ≤ a
      · exact key a b h3 hab h2
      · have := key b a h1 (by omega) h4
        rw [Nat.add_comm a b]
        omega
  · intro x hx
    rw [mem_rangeI] at hx
    obtain ⟨l, rfl⟩ : ∃ l : Nat, x = (l : Int) := ⟨x.toNat, by omega⟩
    unfold N_l_is_good_b1
    rw [r2_of (by omega) (by omega) (by omega) (by omega)]
    simp only [bnd]
    rw [forL_find (c := fun y : Int => if r.f l + r.f y.toNat < r.f (l + y.toNat) then some false else none)]
    · simp only [Int.toNat_natCast]
      cases (rangeI 1 ((l : Int) + 1)).findSome? fun y : Int => if r.f l + r.f y.toNat < r.f (l + y.toNat) then some false else none <;> rfl
    · intro y hy
      rw [mem_rangeI] at hy
      obtain ⟨k, rfl⟩ : ∃ k : Nat, y = (k : Int) := ⟨y.toNat, by omega⟩
      unfold N_l_is_good_b2
      rw [show (l : Int) + (k : Int) = ((l + k : Nat) : Int) by omega, lat_run r (l + k) (by omega)]
      simp only [bnd]
      rw [lat_run r l (by omega)]
      simp only [bnd]
      rw [lat_run r k (by omega)]
      simp only [bnd, Int.toNat_natCast]
      by_cases hz : r.f l + r.f k < r.f (l + k)
      · rw [if_pos (by simp; omega), if_pos hz]
      · rw [if_neg (by simp; omega), if_neg hz]
/-! ### the law's good rows -/
def chk (x : List Int × Int × Int) : Bool :=
  decide (1 ≤ x.1.length) && decide (x.1.length ≤ 24) && x.1.all (fun v => decide (0 ≤ v) && decide (v ≤ 2000)) && (List.range (x.1.length - 1)).all (fun i => decide (x.1.getD i 0 ≤ x.1.getD (i + 1) 0)) &&
  decide (x.2.1.toNat ∈ per) && decide (x.2.1 = (x.2.1.toNat : Int)) && decide (x.2.1.toNat ≤ x.1.length) && decide (0 ≤ x.2.2) && decide (x.2.2 ≤ 2000) && decide (x.1.getD (x.1.length - 1) 0 ≤ Crv.vat x.1 x.2.1.toNat x.2.2 (x.1.length + 1)) &&
  (List.range (x.1.length + x.2.1.toNat)).all fun a => (List.range (x.1.length + x.2.1.toNat)).all fun b => decide (Crv.vat x.1 x.2.1.toNat x.2.2 (a + 1 + (b + 1)) ≤ Crv.vat x.1 x.2.1.toNat x.2.2 (a + 1) + Crv.vat x.1 x.2.1.toNat x.2.2 (b + 1))
theorem chk_ok {x : List Int × Int × Int} (h : chk x = true) : ∃ r : Row, r.nat = x ∧ Good r := by
  unfold chk at h
  simp only [Bool.and_eq_true, decide_eq_true_eq, List.all_eq_true, List.mem_range] at h
  obtain ⟨⟨⟨⟨⟨⟨⟨⟨⟨⟨h1, h2⟩, h3⟩, h4⟩, h5⟩, h6⟩, h7⟩, h8⟩, h9⟩, h10⟩, h11⟩ := h
  refine ⟨⟨x.1, x.2.1.toNat, x.2.2, h1, h2, fun v hv => (h3 v hv).1, fun v hv => (h3 v hv).2, fun i hi => h4 i (by omega), h5, h7, h8, h9, h10⟩, ?_, ?_⟩
  · show (x.1, (x.2.1.toNat : Int), x.2.2) = x
    rw [← h6]
  · intro a b a1 a2 b1 b2
    have := h11 (a - 1) (by show a - 1 < x.1.length + x.2.1.toNat; have : a ≤ x.1.length + x.2.1.toNat := a2; omega) (b - 1) (by have : b ≤ x.1.length + x.2.1.toNat := b2; omega)
    rw [show a - 1 + 1 = a by omega, show b - 1 + 1 = b by omega] at this
    exact this
def rowsL : List (List Int × Int × Int) := [([1], 1, 0), ([1, 1], 2, 1), ([1, 1, 1], 3, 1), ([2, 2], 2, 1), ([1], 1, 1), ([2, 2, 2], 3, 1), ([2], 1, 0), ([2, 2, 3], 3, 2), ([1, 2], 1, 0), ([2, 2, 2, 2], 4, 1), ([2], 1, 1), ([0], 1, 0), ([1, 2, 2, 2], 4, 1), ([3, 3, 3], 3, 1), ([1, 1, 2], 2, 1), ([3, 3, 3, 3, 3, 3], 6, 1)]
theorem rowsL_ok : ∀ x, x ∈ rowsL → chk x = true := by decide +kernel
theorem rows_run : N_l_rows = some rowsL := by
  unfold N_l_rows
  simp only [bnd]
  rw [cat_of (by decide)]
  simp only [bnd]
  rw [cat_of (by decide)]
  rfl
theorem choice_row (s : Rg) : ∃ (r : Row) (s' : Rg), N_l_choice s rowsL = some (r.nat, s') ∧ Good r := by
  obtain ⟨i, s', e, i0, i1⟩ := draw_of s (n := (rowsL.length : Int)) (by decide) (by decide)
  obtain ⟨v, hv, e2⟩ := ix_mem (xs := rowsL) i0 i1
  obtain ⟨r, hr, g⟩ := chk_ok (rowsL_ok v hv)
  refine ⟨r, s', ?_, g⟩
  unfold N_l_choice
  rw [e]
  simp only [bnd]
  rw [e2, hr]
  rfl
theorem choice_int (s : Rg) (xs : List Int) (h0 : 0 < xs.length) (h1 : xs.length < 1000) : ∃ v s', v ∈ xs ∧ N_l_choice_2 s xs = some (v, s') := by
  obtain ⟨i, s', e, i0, i1⟩ := draw_of s (n := (xs.length : Int)) (by omega) (by omega)
  obtain ⟨v, hv, e2⟩ := ix_mem (xs := xs) i0 i1
  refine ⟨v, s', hv, ?_⟩
  unfold N_l_choice_2
  rw [e]
  simp only [bnd]
  rw [e2]
  rfl
end K24

namespace K24
open PySem Mir
theorem row_run (s : Rg) : ∃ (r : Row) (s' : Rg), N_l_row s = some (r.nat, s') ∧ Good r := by
  unfold N_l_row
  obtain ⟨v0, s0, e0, a0, b0⟩ := draw_of s (n := 3) (by decide) (by decide)
  rw [e0]; simp only [bnd]
  by_cases hz : 0 < v0
  · rw [if_pos (by simp; exact hz), rows_run]
    simp only [bnd]
    obtain ⟨r, s', e, g⟩ := choice_row s0
    rw [e]
    exact ⟨r, s', rfl, g⟩
  rw [if_neg (by simp; omega)]
  obtain ⟨v1, s1, e1, a1, b1⟩ := draw_of s0 (n := 3) (by decide) (by decide)
  obtain ⟨v2, s2, e2, a2, b2⟩ := draw_of s1 (n := 4) (by decide) (by decide)
  rw [e1]; simp only [bnd]
  rw [e2]; simp only [bnd]
  rw [r1_of (by omega) (by omega)]; simp only [bnd]
  obtain ⟨⟨s3, vs⟩, e3, u, hl, hh⟩ := foldO_invN (b := fun (x13 : Int) (s14 : Rg × (List Int)) => N_l_row_b1 x13 s14.1 s14.2) (fun k s => Up s.2 ∧ s.2.length = k + 1 ∧ lastI s.2 ≤ 3 + 2 * k) (rangeI 0 v2) (s2, [v1]) ⟨Up.one a1, rfl, by show v1 ≤ _; omega⟩ (by
    rintro k x ⟨sc, xs⟩ hx ⟨u, hl, hh⟩
    dsimp only at u hl hh
    obtain ⟨d, sd, ed, d0, d1⟩ := draw_of sc (n := 2) (by decide) (by decide)
    have n1 := u.n1
    have kb := (rangeI_get hx).2
    refine ⟨(sd, xs ++ [lastI xs + d]), ?_, u.app (by omega), by simp only [List.length_append, List.length_cons, List.length_nil, hl], ?_⟩
    · show N_l_row_b1 x sc xs = _
      unfold N_l_row_b1
      have la : ixN? xs (-1) = some (lastI xs) := ix_last 0 (by omega)
      rw [la]; simp only [bnd]
      rw [ed]; simp only [bnd]
      rw [app_of (by omega)]
      rfl
    · rw [lastI_app]
      have : lastI xs ≤ 3 + 2 * k := hh
      omega)
  rw [rangeI_len] at hl hh
  rw [e3]; simp only [bnd]
  have n1 := u.n1
  dsimp only at u hl hh n1
  have fl : (([1, 2, 3, 4] : List Int).filter fun y17 => decide (y17 ≤ (vs.length : Int))).length ≤ 4 := List.length_filter_le ..
  rw [List.map_id', cap_of (by omega)]; simp only [bnd]
  obtain ⟨p, s4, hp, e4⟩ := choice_int s3 (([1, 2, 3, 4] : List Int).filter fun y17 => decide (y17 ≤ (vs.length : Int))) (List.length_pos_of_mem (a := 1) (List.mem_filter.mpr ⟨by simp, by simp; omega⟩)) (by omega)
  obtain ⟨hp1, hp2⟩ := List.mem_filter.mp hp
  have hp3 : p ≤ (vs.length : Int) := of_decide_eq_true hp2
  obtain ⟨q, rfl, hq⟩ : ∃ q : Nat, p = (q : Int) ∧ q ∈ per := by
    simp only [List.mem_cons, List.not_mem_nil, or_false] at hp1
    rcases hp1 with rfl | rfl | rfl | rfl
    · exact ⟨1, rfl, by decide⟩
    · exact ⟨2, rfl, by decide⟩
    · exact ⟨3, rfl, by decide⟩
    · exact ⟨4, rfl, by decide⟩
  obtain ⟨q0, q12, _⟩ := per_pos hq
  rw [e4]; simp only [bnd]
  rw [ix_last 0 (by omega)]; simp only [bnd]
  rw [cat_of (by simp; omega)]; simp only [bnd]
  have ix : ixN? ([0] ++ vs) ((vs.length : Int) + 1 - (q : Int)) = some ((0 :: vs).getD (vs.length + 1 - q) 0) := by
    rw [show (vs.length : Int) + 1 - (q : Int) = ((vs.length + 1 - q : Nat) : Int) by omega]
    exact ix_getD 0 (by simp; omega)
  rw [ix]; simp only [bnd]
  obtain ⟨d, s5, e5, d0, d1⟩ := draw_of s4 (n := 2) (by decide) (by decide)
  rw [e5]; simp only [bnd]
  have l0 := u.lo _ (lastI_mem u.n1)
  have w0 : 0 ≤ (0 :: vs).getD (vs.length + 1 - q) 0 := by
    rw [List.getD_eq_getElem?_getD, List.getElem?_eq_getElem (show vs.length + 1 - q < (0 :: vs).length by simp; omega)]
    rcases List.mem_cons.mp (List.getElem_mem (show vs.length + 1 - q < (0 :: vs).length by simp; omega)) with e | e
    · rw [e]; exact Int.le_refl _
    · exact u.lo _ e
  have r : Row := Row.of vs q (max 0 (lastI vs - (0 :: vs).getD (vs.length + 1 - q) 0) + d) u (by omega) (by omega) hq (by omega) (by omega) (by omega) (by omega)
  obtain ⟨b, eb, hb⟩ := good_run (Row.of vs q (max 0 (lastI vs - (0 :: vs).getD (vs.length + 1 - q) 0) + d) u (by omega) (by omega) hq (by omega) (by omega) (by omega) (by omega))
  have eb' : N_l_is_good (vs, (q : Int), max 0 (vs.getD (vs.length - 1) 0 - (0 :: vs).getD (vs.length + 1 - q) 0) + d) = some b := eb
  rw [eb']; simp only [bnd]
  cases b with
  | true =>
    rw [if_pos rfl]
    exact ⟨_, s5, rfl, hb rfl⟩
  | false =>
    rw [if_neg (by simp), rows_run]
    simp only [bnd]
    obtain ⟨r, s', e, g⟩ := choice_row s5
    rw [e]
    exact ⟨r, s', rfl, g⟩
theorem lr2_of {a b : Int} (h0 : -4000000000000000000 ≤ a) (h1 : a ≤ 4000000000000000000) (h2 : -4000000000000000000 ≤ b) (h3 : b ≤ 4000000000000000000) (h4 : b - a < 1000000) : lrange2N a b = some (rangeI a b) := if_pos ⟨by omega, by omega, by omega, by omega, h4⟩
theorem ends_run (r : Row) {xs : List Int} (h : xs.length ≤ 1000) : ∃ b, N_l_ends_well r.nat xs = some b ∧ (b = true ↔ EndOk r.f xs) := by
  unfold N_l_ends_well
  rw [lr2_of (by omega) (by omega) (by omega) (by omega) (by omega)]
  simp only [bnd]
  rw [capO_of (F := fun y : Int => decide (psum xs xs.length - psum xs (xs.length - y.toNat) ≤ r.f y.toNat)) _ (by rw [rangeI_len]; omega)]
  · simp only [bnd]
    refine ⟨_, rfl, ?_⟩
    rw [List.all_map, List.all_eq_true]
    constructor
    · intro z l h1 h2
      have := z (l : Int) (by rw [mem_rangeI]; omega)
      simpa using this
    · intro z x hx
      rw [mem_rangeI] at hx
      have := z x.toNat (by omega) (by omega)
      simpa using this
  · intro x hx
    rw [mem_rangeI] at hx
    obtain ⟨l, rfl⟩ : ∃ l : Nat, x = (l : Int) := ⟨x.toNat, by omega⟩
    rw [lat_run r l (by omega)]
    simp only [bnd, Int.toNat_natCast]
    rw [show (xs.length : Int) - (l : Int) = ((xs.length - l : Nat) : Int) by omega, cut_from xs _ (by omega)]
    have e := cut_sum xs (xs.length - l) xs.length (by omega)
    rw [List.take_of_length_le (by rw [List.length_drop]; omega)] at e
    rw [e]
theorem walk_step (r : Row) {found : List Int} (hf : found.length ≤ 900) (hw : 0 ≤ least r.f found) : ∀ (n : Nat) (c : Int), (c - least r.f found).toNat = n → ∃ k, whileF (fun (s11 : Int) => N_l_walked_b2t r.nat found s11) (fun (s11 : Int) => N_l_walked_b2 s11) k c = some (min c (least r.f found)) := by
  intro n
  induction n with
  | zero =>
    intro c hc
    refine ⟨1, ?_⟩
    obtain ⟨b, e, hb⟩ := ends_run r (xs := found ++ [c]) (by simp; omega)
    have : b = true := hb.mpr ((end_iff _ _ _).mpr (by omega))
    subst this
    unfold whileF
    have t : N_l_walked_b2t r.nat found c = some false := by
      unfold N_l_walked_b2t
      rw [cat_of (by simp; omega)]
      simp only [bnd]
      rw [e]
      rfl
    rw [t, show min c (least r.f found) = c by omega]
    rfl
  | succ n ih =>
    intro c hc
    obtain ⟨k, hk⟩ := ih (c - 1) (by omega)
    refine ⟨k + 1, ?_⟩
    obtain ⟨b, e, hb⟩ := ends_run r (xs := found ++ [c]) (by simp; omega)
    have nb : ¬ b = true := fun z => by
      have := (end_iff _ _ _).mp (hb.mp z)
      omega
    have : b = false := by cases b <;> simp_all
    subst this
    unfold whileF
    have t : N_l_walked_b2t r.nat found c = some true := by
      unfold N_l_walked_b2t
      rw [cat_of (by simp; omega)]
      simp only [bnd]
      rw [e]
      rfl
    rw [t]
    have t2 : N_l_walked_b2 c = some (c - 1) := rfl
    show Option.bind (N_l_walked_b2 c) _ = _
    rw [t2]
    simp only [bnd]
    rw [hk, show min (c - 1) (least r.f found) = min c (least r.f found) by omega]
theorem walked_run (r : Row) {us : List Int} (h : ∀ u, u ∈ us → 0 ≤ u) (hl : us.length ≤ 800) : N_l_walked r.nat us = some (shp r.f us) := by
  unfold N_l_walked
  have m := r.mon
  have key : ∀ (xs : List Int) (st : List Int × Int), (∀ u, u ∈ xs → 0 ≤ u) → Kp r.f st → st.1.length + xs.length ≤ 800 → foldO (fun (x16 : Int) (s17 : (List Int) × Int) => N_l_walked_b1 r.nat x16 s17.1 s17.2) xs st = some (xs.foldl (stp r.f) st) := by
    intro xs
    induction xs with
    | nil => intro st _ _ _; rfl
    | cons x xs ih =>
      intro st hx k hl
      simp only [List.length_cons] at hl
      have x0 := hx x (List.mem_cons_self ..)
      have k' := k.step m x0
      have l0 := least_pos m k.fit
      have l1 : least r.f st.1 ≤ r.f 1 := ((al_le r.f _ 2 0 (r.f 1) (least r.f st.1)).mp (Int.le_refl _)).1
      rw [foldO_cons]
      have e : N_l_walked_b1 r.nat x st.1 st.2 = some (stp r.f st x) := by
        unfold N_l_walked_b1
        simp only [bnd]
        rw [show (1 : Int) = ((1 : Nat) : Int) from rfl, lat_run r 1 (by omega)]
        simp only [bnd]
        obtain ⟨n, hn⟩ := walk_step r (found := st.1) (by omega) l0 _ (min (st.2 + x) (r.f 1)) rfl
        rw [whileO_of hn]
        simp only [bnd]
        rw [app_of (by omega)]
        simp only [bnd]
        rw [show min (min (st.2 + x) (r.f 1)) (least r.f st.1) = min (st.2 + x) (least r.f st.1) by omega]
        rfl
      rw [e]
      simp only [bnd]
      rw [List.foldl_cons]
      exact ih _ (fun v hv => hx v (List.mem_cons_of_mem _ hv)) k' (by simp [stp]; omega)
  rw [key us _ h (Kp.start r.f) (by simpa using hl)]
  rfl
theorem kept_run (r : Row) {xs : List Int} (h : Fit r.f xs) (hl : xs.length ≤ 1000) : N_l_is_kept r.nat xs = some true := by
  unfold N_l_is_kept
  rw [r2_of (by omega) (by omega) (by omega) (by omega)]
  simp only [bnd]
  rw [forL_nx]
  · rfl
  · intro x hx
    rw [mem_rangeI] at hx
    obtain ⟨l, rfl⟩ : ∃ l : Nat, x = (l : Int) := ⟨x.toNat, by omega⟩
    unfold N_l_is_kept_b1
    rw [lat_run r l (by omega)]
    simp only [bnd]
    rw [r1_of (by omega) (by omega)]
    simp only [bnd]
    rw [cap_of (by rw [List.length_map, rangeI_len]; omega)]
    simp only [bnd]
    rw [if_neg]
    intro z
    rw [List.any_map, List.any_eq_true] at z
    obtain ⟨y, hy, z⟩ := z
    rw [mem_rangeI] at hy
    obtain ⟨s, rfl⟩ : ∃ s : Nat, y = (s : Int) := ⟨y.toNat, by omega⟩
    have e : cutL xs (some (s : Int)) (some ((s : Int) + (l : Int))) = (xs.drop s).take (s + l - s) := by
      rw [show (s : Int) + (l : Int) = ((s + l : Nat) : Int) by omega, cut_nat xs s (s + l) (by omega)]
    have := h s l (by omega) (by omega)
    simp only [Function.comp, id] at z
    rw [e, cut_sum xs s (s + l) (by omega)] at z
    have z := of_decide_eq_true z
    omega
end K24

namespace K24
open PySem Mir
structure RecB (us : List Int) : Prop where
  len : us.length ≤ 15
  lo : ∀ u, u ∈ us → 0 ≤ u ∧ u ≤ 100000000000000000
theorem RecB.asRec {us : List Int} (h : RecB us) : Rec us := ⟨by have := h.len; omega, fun u hu => (h.lo u hu).1⟩
theorem rec_step (r : Row) (s : Rg) {xs : List Int} (hl : xs.length ≤ 100) (hf : Fit r.f xs) : ∃ v s', 0 ≤ v ∧ v ≤ 2 ∧ N_l_record_b1 r.nat s xs = some (s', xs ++ [v]) ∧ Fit r.f (xs ++ [v]) := by
  obtain ⟨d, sd, ed, d0, d1⟩ := draw_of s (n := 3) (by decide) (by decide)
  unfold N_l_record_b1
  rw [ed]; simp only [bnd]
  have key : ∀ y : Int, ∃ b, ((catN xs ([y])).bind fun x25 => (N_l_ends_well r.nat x25).bind fun x26 => if x26 = true then some (some y) else some none) = some (if b = true then some y else none) ∧ (b = true ↔ EndOk r.f (xs ++ [y])) := fun y => by
    obtain ⟨b, e, hb⟩ := ends_run r (xs := xs ++ [y]) (by simp; omega)
    refine ⟨b, ?_, hb⟩
    rw [cat_of (by simp; omega)]; simp only [bnd]
    rw [e]; simp only [bnd]
    cases b <;> rfl
  obtain ⟨b1, k1, h1⟩ := key d
  obtain ⟨b2, k2, h2⟩ := key 0
  have t2 : b2 = true := h2.mpr ((end_iff _ _ _).mpr (least_pos r.mon hf))
  subst t2
  have z : capO (lcO (fun y24 => (catN xs ([y24])).bind fun x25 => (N_l_ends_well r.nat x25).bind fun x26 => if x26 = true then some (some y24) else some none) [d, 0]) = some (if b1 = true then [d, 0] else [0]) := by
    unfold lcO
    rw [k1]
    unfold lcO
    rw [k2]
    cases b1 <;> rfl
  rw [z]; simp only [bnd]
  cases b1 with
  | true =>
    refine ⟨d, sd, d0, by omega, ?_, hf.app (h1.mp rfl)⟩
    show Option.bind (ixN? [d, 0] 0) _ = _
    rw [show ixN? [d, 0] 0 = some d from rfl]; simp only [bnd]
    rw [app_of (by omega)]
    rfl
  | false =>
    refine ⟨0, sd, by omega, by omega, ?_, hf.app (h2.mp rfl)⟩
    show Option.bind (ixN? [0] 0) _ = _
    rw [show ixN? ([0] : List Int) 0 = some 0 from rfl]; simp only [bnd]
    rw [app_of (by omega)]
    rfl
theorem rec_loop (r : Row) (m : Nat) (hm : m ≤ 14) : ∀ (n : Nat) (s : Rg) (xs : List Int), m = xs.length + n → Fit r.f xs → (∀ u, u ∈ xs → 0 ≤ u ∧ u ≤ 2) → ∃ k s' ys, whileF (fun (s30 : Rg × (List Int)) => N_l_record_b1t (2, (m : Int)) s30.1 s30.2) (fun (s30 : Rg × (List Int)) => N_l_record_b1 r.nat s30.1 s30.2) k (s, xs) = some (s', ys) ∧ ys.length = m ∧ ∀ u, u ∈ ys → 0 ≤ u ∧ u ≤ 2 := by
  intro n
  induction n with
  | zero =>
    intro s xs h _ hu
    refine ⟨1, s, xs, ?_, by omega, hu⟩
    unfold whileF
    have t : N_l_record_b1t (2, (m : Int)) s xs = some false := by
      unfold N_l_record_b1t
      simp; omega
    show Option.bind (N_l_record_b1t (2, (m : Int)) s xs) _ = _
    rw [t]
    rfl
  | succ n ih =>
    intro s xs h hf hu
    obtain ⟨v, s1, v0, v1, e, hf2⟩ := rec_step r s (by omega) hf
    obtain ⟨k, s', ys, h1, h2, h3⟩ := ih s1 (xs ++ [v]) (by simp; omega) hf2 (by
      intro u hu2
      rcases List.mem_append.mp hu2 with z | z
      · exact hu u z
      · rw [List.mem_singleton.mp z]; omega)
    refine ⟨k + 1, s', ys, ?_, h2, h3⟩
    unfold whileF
    have t : N_l_record_b1t (2, (m : Int)) s xs = some true := by
      unfold N_l_record_b1t
      simp; omega
    show Option.bind (N_l_record_b1t (2, (m : Int)) s xs) _ = _
    rw [t]
    simp only [bnd]
    rw [if_pos trivial]
    show Option.bind (N_l_record_b1 r.nat s xs) _ = _
    rw [e]
    simp only [bnd]
    exact h1
theorem record_run (s : Rg) (r : Row) : ∃ us s', N_l_record s r.nat = some (us, s') ∧ RecB us := by
  unfold N_l_record
  obtain ⟨v1, s1, e1, a1, b1⟩ := draw_of s (n := 5) (by decide) (by decide)
  obtain ⟨v2, s2, e2, a2, b2⟩ := draw_of s1 (n := 15) (by decide) (by decide)
  rw [e1]; simp only [bnd]
  rw [e2]; simp only [bnd]
  by_cases h0 : v1 = 0
  · rw [if_pos (by simp [h0])]
    obtain ⟨d, sd, ed, d0, d1⟩ := draw_of s2 (n := 12) (by decide) (by decide)
    rw [ed]; simp only [bnd]
    rw [rep_of a2 (by simp; omega) (by omega)]; simp only [bnd]
    rw [cat_of (by simp; omega)]
    refine ⟨_, sd, rfl, by simp; omega, ?_⟩
    intro u hu
    simp at hu
    rcases hu with rfl | ⟨_, rfl⟩ <;> omega
  · rw [if_neg (by simp [h0])]
    by_cases h1 : v1 = 1
    · rw [if_pos (by simp [h1]), r1_of (by omega) (by omega)]; simp only [bnd]
      obtain ⟨ys, s', e, l, q⟩ := capS_inv (nb := fun (y8 : Int) (s9 : Rg) => (drawN s9 4).bind fun d10 => (ixN? ([0, 1, 100000000000000000, 2] : List Int) d10.1).bind fun x11 => some (x11, d10.2)) (fun y => 0 ≤ y ∧ y ≤ 100000000000000000) (rangeI 0 v2) s2 (by rw [rangeI_len]; omega) (by
        intro x sx hx
        obtain ⟨d, sd, ed, d0, d1⟩ := draw_of sx (n := 4) (by decide) (by decide)
        obtain ⟨v, hv, ev⟩ := ix_mem (xs := ([0, 1, 100000000000000000, 2] : List Int)) (i := d) d0 (by simp; omega)
        rw [ed]; simp only [bnd]
        rw [ev]
        refine ⟨v, sd, rfl, ?_⟩
        simp only [List.mem_cons, List.not_mem_nil, or_false] at hv
        rcases hv with rfl | rfl | rfl | rfl <;> omega)
      rw [e]; simp only [bnd]
      rw [rangeI_len] at l
      exact ⟨ys, s', rfl, by omega, q⟩
    · rw [if_neg (by simp [h1])]
      by_cases h2 : v1 = 2
      · subst h2
        rw [if_neg (by simp)]; simp only [bnd]
        obtain ⟨m, rfl⟩ : ∃ m : Nat, v2 = (m : Int) := ⟨v2.toNat, by omega⟩
        obtain ⟨k, s', ys, hk, hl, hu⟩ := rec_loop r m (by omega) m s2 [] (by simp) (fun s l h1 h2 => by simp at h2; omega) (by simp)
        rw [whileO_of hk]
        exact ⟨ys, s', rfl, by omega, fun u z => by have := hu u z; omega⟩
      · rw [if_pos (by simp; omega), r1_of (by omega) (by omega)]; simp only [bnd]
        obtain ⟨ys, s', e, l, q⟩ := capS_inv (nb := fun (y14 : Int) (s15 : Rg) => (ixN? ([2, 4] : List Int) (v1 - 3)).bind fun x16 => (drawN s15 x16).bind fun d17 => some (d17.1, d17.2)) (fun y => 0 ≤ y ∧ y ≤ 100000000000000000) (rangeI 0 v2) s2 (by rw [rangeI_len]; omega) (by
          intro x sx hx
          obtain ⟨v, hv, ev⟩ := ix_mem (xs := ([2, 4] : List Int)) (i := v1 - 3) (by omega) (by simp; omega)
          rw [ev]; simp only [bnd]
          have hv2 : 0 < v ∧ v < 5 := by
            simp only [List.mem_cons, List.not_mem_nil, or_false] at hv
            rcases hv with rfl | rfl <;> omega
          obtain ⟨d, sd, ed, d0, d1⟩ := draw_of sx (n := v) (by omega) (by omega)
          rw [ed]
          exact ⟨d, sd, rfl, by omega, by omega⟩)
        rw [e]; simp only [bnd]
        rw [rangeI_len] at l
        have w : whileF (fun (s30 : Rg × (List Int)) => N_l_record_b1t (v1, v2) s30.1 s30.2) (fun (s30 : Rg × (List Int)) => N_l_record_b1 r.nat s30.1 s30.2) 1 (s', ys) = some (s', ys) := by
          unfold whileF
          have t : N_l_record_b1t (v1, v2) s' ys = some false := by
            unfold N_l_record_b1t
            simp [h2]
          show Option.bind (N_l_record_b1t (v1, v2) s' ys) _ = _
          rw [t]
          rfl
        rw [whileO_of w]
        exact ⟨ys, s', rfl, by omega, q⟩
end K24

namespace K24
open PySem Mir
theorem fit_bound (r : Row) {xs : List Int} (h : Fit r.f xs) : ∀ x, x ∈ xs → x ≤ 2000 := by
  intro x hx
  obtain ⟨i, hi, e⟩ := List.getElem_of_mem hx
  have a := h i 1 (Nat.le_refl _) (by omega)
  rw [psum_succ xs hi, List.getD_eq_getElem?_getD, List.getElem?_eq_getElem hi] at a
  simp only [Option.getD_some, e] at a
  have n1 := r.n1
  have b : r.f 1 ≤ 2000 := by
    unfold Row.f
    rw [Crv.vat_in (by omega) (by omega), List.getD_eq_getElem?_getD, List.getElem?_eq_getElem (show 1 - 1 < r.vs.length by omega)]
    exact r.hi _ (List.getElem_mem _)
  omega
theorem right_run (s : Rg) : ∃ s', N_l_right s = some (true, s') := by
  unfold N_l_right
  obtain ⟨r, s1, e1, gd⟩ := row_run s
  obtain ⟨us, s2, e2, hu⟩ := record_run s1 r
  obtain ⟨c, ec⟩ := init_run r
  obtain ⟨v, s3, e3, v0, v1⟩ := draw_of s2 (n := 5) (by decide) (by decide)
  obtain ⟨w, s4, e4, w0, w1⟩ := draw_of s3 (n := 2) (by decide) (by decide)
  have len := hu.len
  have rcd := hu.asRec
  have good := gd.cv c
  obtain ⟨ft, lo⟩ := shp_fit r.mon rcd.lo
  have sl := shp_len r.f us
  have rc2 : Rec (shp r.f us) := ⟨by omega, lo⟩
  have rc3 : Rec (us ++ [v, w]) := ⟨by simp; omega, fun u z => by
    rcases List.mem_append.mp z with z | z
    · exact rcd.lo u z
    · simp at z; rcases z with rfl | rfl <;> omega⟩
  obtain ⟨z1, q1⟩ := repr_ints (xs := us) (by omega) (fun x hx => by have := hu.lo x hx; omega)
  obtain ⟨z2, q2⟩ := repr_ints (xs := shp r.f us) (by omega) (fun x hx => by have := lo x hx; have := fit_bound r ft x hx; omega)
  have ec2 : N_Curve_init0_liii r.nat.1 r.nat.2.1 r.nat.2.2 = some c.nat := ec
  rw [e1]; simp only [bnd]
  rw [e2]; simp only [bnd]
  rw [ec2]; simp only [bnd]
  rw [q1]; simp only [bnd]
  rw [walked_run r rcd.lo (by omega)]; simp only [bnd]
  rw [shaped_run r.mon c good rcd]; simp only [bnd]
  rw [q2]; simp only [bnd]
  rw [if_neg (by simp), kept_run r ft (by omega)]; simp only [bnd]
  rw [if_neg (by simp), breach_run c rc2]; simp only [bnd]
  have dn : (due r.f (shp r.f us)).isSome = false := by
    have := (due_none r.f (shp r.f us)).mpr ft
    cases h : due r.f (shp r.f us) with
    | none => rfl
    | some x => rw [h] at this; cases this
  rw [dn, if_neg (by simp), shaped_run r.mon c good rc2, shp_self ft]; simp only [bnd]
  rw [q2]; simp only [bnd]
  rw [if_neg (by simp), keeps_run c rcd]; simp only [bnd]
  rw [eq_ints]; simp only [bnd]
  have ek : (due r.f us).isNone = decide (shp r.f us = us) := by
    by_cases hz : shp r.f us = us
    · rw [decide_eq_true hz]
      exact (due_none _ _).mpr (by rw [← hz]; exact ft)
    · rw [decide_eq_false hz]
      cases h : (due r.f us).isNone with
      | false => rfl
      | true => exact absurd (shp_self ((due_none _ _).mp h)) hz
  rw [ek, if_neg (by simp), e3]; simp only [bnd]
  rw [e4]; simp only [bnd]
  rw [cat_of (by simp; omega)]; simp only [bnd]
  rw [shaped_run r.mon c good rc3]; simp only [bnd]
  rw [cut_to _ us.length (by rw [shp_len]; simp), shp_pre, q2]; simp only [bnd]
  rw [if_neg (by simp), shp_len]; simp only [bnd]
  rw [if_neg (by simp), app_of (by omega)]; simp only [bnd]
  exact ⟨s4, by simp [bnd]⟩
theorem law_good (ns : List Int) (h : ns.length ≤ 63) : F_law [.dat (.ro (ns.map .int))] = .ok (.bl true) [] := by
  refine (n_law (a := true) ?_ : F_law [.dat ((eR eI) ns)] = res_law true)
  unfold N_law
  rw [r1_of (by omega) (by omega)]; simp only [bnd]
  rw [capO_of (F := fun _ => true)]
  · simp
  · rw [rangeI_len]; omega
  · intro x hx
    rw [mem_rangeI] at hx
    have e : rngO ns x = some (rngN ns x.toNat) := if_pos ⟨by omega, by omega⟩
    obtain ⟨s', er⟩ := right_run (rngN ns x.toNat)
    rw [e]; simp only [bnd]
    rw [er]; rfl
end K24

namespace K24
open PySem PySem.Spec PyProof.Rows L2 Mir
def nm0 : List PySem.Str := ["_wall", "__name__", "DueError", "InvalidCurve", "InvalidLength", "InvalidRecord", "NotGood", "MAX_VALUES", "PERIODS", "COMMON", "MAX_VALUE", "is_integer", "is_count", "divisor", "value_at", "grows_by", "form_of", "check_values", "check_growth", "Curve", "MadeCurve", "require_good", "check_record", "sums_of", "breach", "keeps", "allowance", "shaped", "_law_rng", "_law_draw"]
def nm1 : List PySem.Str := ["_law_choice", "_law_at", "_law_is_good", "_law_rows", "_law_row", "_law_is_kept", "_law_ends_well", "_law_walked", "_law_record", "_law_right"]
def nms : List PySem.Str := nm0 ++ nm1
abbrev R : PySem.W.OpenRow := PySem.W.OpenLaw.row PySem.Challenge.rw_dueways_k24_whole_shaped_records
abbrev hk : PySem.W.Hook := hookM 6 fa fn
def ob (s : PySem.W.SharedT) : He.AlD := obsMG 6 fa fn (HandSHeadRun.getT s)
theorem ob_eq (s : PySem.W.SharedT) : ob s = hk.obs s.abs := obsMG_eq (HandSHeadRun.getT_eq s)
theorem run (w : World) : HandSHeadRun.RunEq R (PySem.W.view R.prog [43]) hk ob 20000 nms w := by
  intro os
  kernel_rfl
theorem facts {P : Program} {w : World} {K : PySem.W.Frag} {h : Heap} {mg : Str → Option Value} {f : Addr} (X : K.In h) (G : h.Ns mainGlobals mg) (hf : mg ("law" : Str) = some (.ref f)) (z : SaysM fa fn K) :
    ∃ (fd : FuncData), (∀ (s : Shared) (v : Value), BindsTo s fd ⟨[v], []⟩ [("_law_script", v)]) ∧ ∀ base : Heap, K.In base → base.Ns mainGlobals mg → FnG P w K mg base (L2.CX P w) 8 f fd ["_law_script"] (spF ⟨He.ga K, none⟩ K F_law) := by
  have c : Kn fa fn K mg := ⟨⟨h, X, G⟩, z⟩
  obtain ⟨fd, D⟩ := c.def_ 29 (d := d_law)
  cases hf.symm.trans (c.glo 78)
  have b := FunD.bindsA (ps := ["_law_script"]) D fun _ _ _ _ _ _ us hl => match us, hl with | [_], _ => rfl
  exact ⟨fd, fun s v => b s [v] rfl, fun base _ _ => ok_law c D⟩
end K24
open PySem PySem.W PySem.Calls PyProof.Rows in
theorem K24.closed (good : ∀ ns : List Int, ns.length ≤ 63 → K24.F_law [.dat (.ro (ns.map .int))] = .ok (.bl true) []) : PySem.Challenge.rw_dueways_k24_whole_shaped_records.Holds := by
  w_on; o_law
  refine HandSHeadRun.head_any (r := OpenLaw.row PySem.Challenge.rw_dueways_k24_whole_shaped_records) (q := view (OpenLaw.row PySem.Challenge.rw_dueways_k24_whole_shaped_records).prog [43]) (H := K24.hk) (ob := K24.ob) (M := 20000) (loose := K24.nms) (d := HandSHeadRun.topDef (OpenLaw.row PySem.Challenge.rw_dueways_k24_whole_shaped_records).prog 43) (kwd := []) K24.ob_eq
    (by kernel_rfl) (fun s => by kernel_rfl) K24.run (by kernel_rfl) (by kernel_rfl) (by kernel_rfl) (by rfl) (by first | assumption | decide +kernel) (by decide +kernel) ⟨rfl, rfl, rfl, rfl, rfl, by decide +kernel⟩ ?hw ?hc
  case hw => w_witness2
  case hc =>
    refine Mir.end_ofM (l := PySem.Challenge.rw_dueways_k24_whole_shaped_records) (n := 63) (k := 8) (x := "_law_script") (Fn := K24.F_law) rfl (by decide) (by kernel_rfl) ⟨rfl, by decide, by decide⟩ ?F good
    intro w mg fa h Y G hm
    obtain ⟨K, KX, z⟩ := Y
    have hm2 : mg ("law" : PySem.Str) = some (.ref fa) := by
      have e : (HandSHeadRun.topDef (OpenLaw.row PySem.Challenge.rw_dueways_k24_whole_shaped_records).prog 43).name = ("law" : PySem.Str) := by kernel_rfl
      rw [← e]
      exact hm
    obtain ⟨fd, hb, hF⟩ := K24.facts (P := (PySem.Challenge.rw_dueways_k24_whole_shaped_records).prog) (w := w) KX G hm2 z
    exact ⟨K, fd, ⟨He.ga K, none⟩, KX, hb, hF⟩
-- level 8, facts 79

theorem PySem.Challenge.cw_dueways_k24_whole_shaped_records_holds : PySem.Challenge.rw_dueways_k24_whole_shaped_records.Holds :=
  K24.closed K24.law_good
